import PyProof.Rows.All
import Wide.All
import OpenK.AllK
import Wide.FinOn
import HandS.ForMost
import HandS.Wide
import HandS.IsInst
import HandS.TupAny
import HandS.Zip
import HandS.Style
import HandS.Walk
import HandS.Iter
import HandS.NoneIn
import PyProof.Rows.SetFrom
import HandS.Strs
import HandS.Rev
import HandS.Text
import HandS.More
import PyProof.StrOps2
import KE.GoesEnum
import HandS.Conv
import HandS.Codes
import HandS.Dict
import KE.LtData
import PyProof.ReprRoads
import HandS.Deep
import HandS.TupSets
import KE.SortData
import PyProof.SumAny
import PySem.Challenge.RW_everyfolk_k17_whole_what_is_known_folded
set_option Elab.async false
set_option linter.all false
set_option maxRecDepth 100000
set_option maxHeartbeats 4000000
namespace DL
open PySem PySem.Spec PyProof.Rows L2
abbrev Ad := Addr → Prop
abbrev D := PyData
abbrev Sl := List (Option V)
open Classical in
noncomputable def res (F : Ad) (H : Hp) : Hp := fun a => if F a then H a else none
theorem res_in {F : Ad} {H : Hp} {a : Addr} (h : F a) : res F H a = H a := if_pos h
theorem res_out {F : Ad} {H : Hp} {a : Addr} (h : ¬ F a) : res F H a = none := if_neg h
theorem res_some {F : Ad} {H : Hp} {a : Addr} {o : HO} (h : res F H a = some o) : F a ∧ H a = some o := by
  by_cases f : F a
  · exact ⟨f, by rw [res_in f] at h; exact h⟩
  · rw [res_out f] at h; cases h
theorem res_same (F : Ad) (H : Hp) : Same (res F H) H := fun a o h => (res_some h).2
theorem same_rd {H H' : Hp} {a : Addr} {u : HO} (e : Same H H') (h : Rd H a u) : Rd H' a u := by
  rcases h with h | ⟨o, h⟩
  · exact .inl (e _ _ h)
  · exact .inr ⟨o, e _ _ h⟩
theorem same_t {K : PySem.W.Frag} {H H' : Hp} {a : Addr} {xs : List V} (e : Same H H') (h : SqT K H a xs) : SqT K H' a xs := by
  rcases h with h | h
  · exact .inl (same_rd e h)
  · exact .inr h
/-- a list that is read: tracked, locked, or one that the written part holds -/
def Ls (K : PySem.W.Frag) (H : Hp) (a : Addr) (xs : List V) : Prop :=
  Rd H a (.lst xs) ∨ ∃ (its : Array Value) (n : Nat), K.lookup a = some { cls := .type "list", data := .seq its n } ∧ its.size ≤ sizeLine ∧ Vals xs its.toList
theorem Ls.sq {K : PySem.W.Frag} {H : Hp} {a : Addr} {xs : List V} (h : Ls K H a xs) : SqL K H a xs := by
  rcases h with h | ⟨its, n, h, z, r⟩
  · exact .inl h
  · exact .inr ⟨_, its, n, h, rfl, rfl, rfl, z, r⟩
theorem same_l {K : PySem.W.Frag} {H H' : Hp} {a : Addr} {xs : List V} (e : Same H H') (h : Ls K H a xs) : Ls K H' a xs := by
  rcases h with h | h
  · exact .inl (same_rd e h)
  · exact .inr h
@[simp] def dK : Key → D
  | .inl i => .int i
  | .inr z => .str z
mutual
/-- a value stands for data -/
inductive Is (K : PySem.W.Frag) (R : Hp) : V → D → Prop
  | non : Is K R .non .none
  | bl (b : Bool) : Is K R (.bl b) (.bool b)
  | int (i : Int) : Is K R (.int i) (.int i)
  | str (x : Str) : Is K R (.str x) (.str x)
  | lst {a : Addr} {xs : List V} {ds : List D} : Ls K R a xs → IsA K R xs ds → Is K R (.ref a) (.list ds)
  | tup {a : Addr} {xs : List V} {ds : List D} : SqT K R a xs → IsA K R xs ds → Is K R (.ref a) (.tuple ds)
  | dic {a : Addr} {o : Obj} {vs : List (Key × V)} {kvs : List (D × D)} : R a = some (.frz o (.dK vs)) → IsP K R vs kvs → Is K R (.ref a) (.dict kvs)
inductive IsA (K : PySem.W.Frag) (R : Hp) : List V → List D → Prop
  | nil : IsA K R [] []
  | cons {v : V} {vs : List V} {d : D} {ds : List D} : Is K R v d → IsA K R vs ds → IsA K R (v :: vs) (d :: ds)
inductive IsP (K : PySem.W.Frag) (R : Hp) : List (Key × V) → List (D × D) → Prop
  | nil : IsP K R [] []
  | cons {k : Key} {v : V} {d : D} {vs : List (Key × V)} {kvs : List (D × D)} : Is K R v d → IsP K R vs kvs → IsP K R ((k, v) :: vs) ((dK k, d) :: kvs)
end
section
variable {K : PySem.W.Frag} {R R' H H' : Hp}
mutual
theorem Is.mono (e : Same R R') : ∀ (d : D) {v : V}, Is K R v d → Is K R' v d
  | .none, _, h => by cases h; exact .non
  | .bool _, _, h => by cases h; exact .bl _
  | .int _, _, h => by cases h; exact .int _
  | .str _, _, h => by cases h; exact .str _
  | .list ds, _, h => by
    cases h with
    | lst ha hs => exact .lst (same_l e ha) (IsA.mono e ds hs)
  | .tuple ds, _, h => by
    cases h with
    | tup ha hs => exact .tup (same_t e ha) (IsA.mono e ds hs)
  | .dict kvs, _, h => by
    cases h with
    | dic ha hs => exact .dic (e _ _ ha) (IsP.mono e kvs hs)
theorem IsA.mono (e : Same R R') : ∀ (ds : List D) {vs : List V}, IsA K R vs ds → IsA K R' vs ds
  | [], _, h => by cases h; exact .nil
  | d :: ds, _, h => by
    cases h with
    | cons h1 h2 => exact .cons (Is.mono e d h1) (IsA.mono e ds h2)
theorem IsP.mono (e : Same R R') : ∀ (kvs : List (D × D)) {vs : List (Key × V)}, IsP K R vs kvs → IsP K R' vs kvs
  | [], _, h => by cases h; exact .nil
  | (_, d) :: kvs, _, h => by
    cases h with
    | cons h1 h2 => exact .cons (Is.mono e d h1) (IsP.mono e kvs h2)
end
mutual
theorem Is.dp : ∀ (d : D) {v : V}, PyData.hasDict d = false → Is K R v d → Dp K R v d
  | .none, _, _, h => by cases h; exact .non
  | .bool _, _, _, h => by cases h; exact .bl _
  | .int _, _, _, h => by cases h; exact .int _
  | .str _, _, _, h => by cases h; exact .str _
  | .list ds, _, z, h => by
    cases h with
    | lst ha hs => exact .lst ha.sq (IsA.dp ds (by simpa only [PyData.hasDict] using z) hs)
  | .tuple ds, _, z, h => by
    cases h with
    | tup ha hs => exact .tup ha (IsA.dp ds (by simpa only [PyData.hasDict] using z) hs)
  | .dict _, _, z, h => by simp only [PyData.hasDict] at z; cases z
theorem IsA.dp : ∀ (ds : List D) {vs : List V}, PyData.hasDictAll ds = false → IsA K R vs ds → DpAll K R vs ds
  | [], _, _, h => by cases h; exact .nil
  | d :: ds, _, z, h => by
    simp only [PyData.hasDictAll, Bool.or_eq_false_iff] at z
    cases h with
    | cons h1 h2 => exact .cons (Is.dp d z.1 h1) (IsA.dp ds z.2 h2)
end
theorem IsA.length : ∀ {ds : List D} {vs : List V}, IsA K R vs ds → vs.length = ds.length
  | [], _, h => by cases h; rfl
  | _ :: _, _, h => by
    cases h with
    | cons h1 h2 => rw [List.length_cons, List.length_cons, IsA.length h2]
theorem IsA.get : ∀ {ds : List D} {vs : List V} {i : Nat} {d : D}, IsA K R vs ds → ds[i]? = some d → ∃ v, vs[i]? = some v ∧ Is K R v d
  | [], _, _, _, h, e => by simp at e
  | x :: ds, _, 0, d, h, e => by
    cases h with
    | cons h1 h2 => simp at e; subst e; exact ⟨_, rfl, h1⟩
  | x :: ds, _, i + 1, d, h, e => by
    cases h with
    | cons h1 h2 =>
      obtain ⟨v, q1, q2⟩ := IsA.get (i := i) (d := d) h2 (by simpa using e)
      exact ⟨v, by simpa using q1, q2⟩
theorem IsA.get' : ∀ {ds : List D} {vs : List V} {i : Nat} {v : V}, IsA K R vs ds → vs[i]? = some v → ∃ d, ds[i]? = some d ∧ Is K R v d := by
  intro ds vs i v h e
  have hl := h.length
  have hi : i < vs.length := (List.getElem?_eq_some_iff.mp e).1
  have hd : ds[i]? = some ds[i] := List.getElem?_eq_getElem (by omega)
  obtain ⟨v', q1, q2⟩ := h.get hd
  rw [e] at q1; cases q1
  exact ⟨_, hd, q2⟩
theorem IsA.append : ∀ {ds es : List D} {vs ws : List V}, IsA K R vs ds → IsA K R ws es → IsA K R (vs ++ ws) (ds ++ es)
  | [], _, _, _, h, g => by cases h; exact g
  | _ :: _, _, _, _, h, g => by
    cases h with
    | cons h1 h2 => exact .cons h1 (IsA.append h2 g)
theorem IsA.drop : ∀ {ds : List D} {vs : List V} (n : Nat), IsA K R vs ds → IsA K R (vs.drop n) (ds.drop n)
  | _, _, 0, h => h
  | [], _, n + 1, h => by cases h; exact .nil
  | _ :: _, _, n + 1, h => by
    cases h with
    | cons h1 h2 => exact IsA.drop n h2
theorem IsA.take : ∀ {ds : List D} {vs : List V} (n : Nat), IsA K R vs ds → IsA K R (vs.take n) (ds.take n)
  | _, _, 0, h => .nil
  | [], _, n + 1, h => by cases h; exact .nil
  | _ :: _, _, n + 1, h => by
    cases h with
    | cons h1 h2 => exact .cons h1 (IsA.take n h2)
theorem IsA.set {v : V} {d : D} (g : Is K R v d) : ∀ {ds : List D} {vs : List V} (n : Nat), IsA K R vs ds → IsA K R (vs.set n v) (ds.set n d)
  | [], _, _, h => by cases h; exact .nil
  | _ :: _, _, 0, h => by
    cases h with
    | cons h1 h2 => exact .cons g h2
  | _ :: _, _, n + 1, h => by
    cases h with
    | cons h1 h2 => exact .cons h1 (IsA.set g n h2)
theorem IsA.eraseIdx : ∀ {ds : List D} {vs : List V} (n : Nat), IsA K R vs ds → IsA K R (vs.eraseIdx n) (ds.eraseIdx n)
  | [], _, _, h => by cases h; exact .nil
  | _ :: _, _, 0, h => by
    cases h with
    | cons h1 h2 => exact h2
  | _ :: _, _, n + 1, h => by
    cases h with
    | cons h1 h2 => exact .cons h1 (IsA.eraseIdx n h2)
theorem IsA.reverse : ∀ {ds : List D} {vs : List V}, IsA K R vs ds → IsA K R vs.reverse ds.reverse
  | [], _, h => by cases h; exact .nil
  | _ :: _, _, h => by
    cases h with
    | cons h1 h2 => rw [List.reverse_cons, List.reverse_cons]; exact IsA.append (IsA.reverse h2) (.cons h1 .nil)
theorem IsA.rep {ds : List D} {vs : List V} (h : IsA K R vs ds) : ∀ n : Nat, IsA K R (List.replicate n vs).flatten (List.replicate n ds).flatten
  | 0 => .nil
  | n + 1 => by
    rw [List.replicate_succ, List.replicate_succ, List.flatten_cons, List.flatten_cons]
    exact h.append (IsA.rep h n)
theorem IsA.ints : ∀ {ns : List Int} {vs : List V}, IsA K R vs (ns.map .int) → vs = ns.map V.int
  | [], _, h => by cases h; rfl
  | _ :: _, _, h => by
    cases h with
    | cons h1 h2 => cases h1; rw [IsA.ints h2]; rfl
theorem IsA.of_ints : ∀ (ns : List Int), IsA K R (ns.map V.int) (ns.map .int)
  | [] => .nil
  | _ :: r => .cons (.int _) (IsA.of_ints r)
theorem IsA.bools : ∀ {ns : List Bool} {vs : List V}, IsA K R vs (ns.map .bool) → vs = ns.map V.bl
  | [], _, h => by cases h; rfl
  | _ :: _, _, h => by
    cases h with
    | cons h1 h2 => cases h1; rw [IsA.bools h2]; rfl
end
/-- neither a tuple nor an instance's own dict -/
def bigO : HO → Prop
  | .lst _ => True
  | .dK _ => True
  | .dT _ => True
  | .set _ _ => True
  | .ins _ _ _ => True
  | .xd _ => True
  | _ => False
def seqO : HO → Prop
  | .lst _ => True
  | .tup _ => True
  | .frz _ _ => True
  | _ => False
/-- a thing that changes, known by what stands of it -/
structure Wd where
  val : V
  fp : Ad
  ok : Hp → Hp → Prop
  mono : ∀ {R R' H H' : Hp}, Same R R' → (∀ a, fp a → H' a = H a) → ok R H → ok R' H'
  dom : ∀ {R H : Hp} {a : Addr}, ok R H → fp a → ∃ o, H a = some o ∧ bigO o
/-- a field: data, or a list that this field alone holds -/
inductive FD where
  | val (d : D)
  | own (a : Addr) (xs : List D)
/-- an instance: where it stands, its class, its fields by name -/
structure Ob where
  a : Addr
  C : Addr
  ns : List Str
  fs : List FD
inductive SD where
  | no
  | val (d : D)
  | own (xs : List D)
  | dic (kvs : List (Key × D))
  | wd (w : Wd)
  | ob (o : Ob)
abbrev DS := List SD
@[simp] def FD.ad : FD → Option Addr
  | .val _ => none
  | .own a _ => some a
def owns (fs : List FD) : List Addr := fs.filterMap FD.ad
def FOk (K : PySem.W.Frag) (R H : Hp) : V → FD → Prop
  | v, .val d => Is K R v d
  | v, .own b xs => v = .ref b ∧ ∃ ws, H b = some (.lst ws) ∧ IsA K R ws xs
theorem FOk.mono {K : PySem.W.Frag} {R R' H H' : Hp} (e : Same R R') : ∀ {v : V} {x : FD}, (∀ b, x.ad = some b → H' b = H b) → FOk K R H v x → FOk K R' H' v x
  | _, .val d, _, h => Is.mono e d h
  | _, .own b xs, k, ⟨h1, ws, h2, h3⟩ => ⟨h1, ws, by rw [k b rfl]; exact h2, h3.mono e⟩
theorem owns_mem {fs : List FD} {b : Addr} : b ∈ owns fs ↔ ∃ x ∈ fs, x.ad = some b := by simp [owns]
theorem fsOk_mono {K : PySem.W.Frag} {R R' H H' : Hp} (e : Same R R') : ∀ {vs : List V} {fs : List FD}, (∀ x ∈ fs, ∀ b, x.ad = some b → H' b = H b) → Paired (FOk K R H) vs fs → Paired (FOk K R' H') vs fs
  | _, _, _, .nil => .nil
  | _, _, k, .cons h1 h2 => .cons (h1.mono e (k _ List.mem_cons_self)) (fsOk_mono e (fun x hx => k x (List.mem_cons_of_mem _ hx)) h2)
theorem paired_mem2 {α β : Type} {F : α → β → Prop} : ∀ {l₁ : List α} {l₂ : List β} {y : β}, Paired F l₁ l₂ → y ∈ l₂ → ∃ x, x ∈ l₁ ∧ F x y
  | _, _, _, .nil, h => by cases h
  | _, _, _, .cons h1 h2, h => by
    rcases List.mem_cons.mp h with rfl | h
    · exact ⟨_, List.mem_cons_self, h1⟩
    · obtain ⟨x, hx, q⟩ := paired_mem2 h2 h
      exact ⟨x, List.mem_cons_of_mem _ hx, q⟩
/-- an instance as a thing that changes -/
def ObOk (K : PySem.W.Frag) (o : Ob) (R H : Hp) : Prop := (∃ (dx : Addr) (vs : List (Str × V)), H o.a = some (.ins o.C dx vs) ∧ vs.map Prod.fst = o.ns ∧ Paired (FOk K R H) (vs.map Prod.snd) o.fs) ∧ o.a ∉ owns o.fs ∧ (owns o.fs).Nodup
theorem obOk_mono {K : PySem.W.Frag} {o : Ob} {R R' H H' : Hp} (e : Same R R') (k : ∀ a, (a = o.a ∨ a ∈ owns o.fs) → H' a = H a) (h : ObOk K o R H) : ObOk K o R' H' := by
  obtain ⟨⟨dx, vs, h1, h2, h3⟩, h4⟩ := h
  exact ⟨⟨dx, vs, by rw [k _ (.inl rfl)]; exact h1, h2, fsOk_mono e (fun x hx b hb => k b (.inr (owns_mem.mpr ⟨x, hx, hb⟩))) h3⟩, h4⟩
theorem obOk_dom {K : PySem.W.Frag} {o : Ob} {R H : Hp} {a : Addr} (h : ObOk K o R H) (f : a = o.a ∨ a ∈ owns o.fs) : ∃ u, H a = some u ∧ bigO u := by
  obtain ⟨⟨dx, vs, h1, h2, h3⟩, h4⟩ := h
  rcases f with rfl | f
  · exact ⟨_, h1, trivial⟩
  · obtain ⟨x, hx, hb⟩ := owns_mem.mp f
    obtain ⟨v, _, q⟩ := paired_mem2 h3 hx
    cases x with
    | val d => cases hb
    | own b xs =>
      cases hb
      obtain ⟨_, ws, q, _⟩ := q
      exact ⟨_, q, trivial⟩
def obWd (K : PySem.W.Frag) (o : Ob) : Wd where
  val := .ref o.a
  fp := fun b => b = o.a ∨ b ∈ owns o.fs
  ok := ObOk K o
  mono := fun e k h => obOk_mono e k h
  dom := fun h f => obOk_dom h f
/-- a dict's pairs -/
def IsKV (K : PySem.W.Frag) (R : Hp) : List (Key × V) → List (Key × D) → Prop := Paired fun p q => p.1 = q.1 ∧ Is K R p.2 q.2
theorem IsKV.mono {K : PySem.W.Frag} {R R' : Hp} (e : Same R R') {a : List (Key × V)} {b : List (Key × D)} (h : IsKV K R a b) : IsKV K R' a b :=
  Paired.mapP h fun _ _ x => ⟨x.1, x.2.mono e⟩
/-- a dict's pairs as data -/
def kvD (kvs : List (Key × D)) : List (D × D) := kvs.map fun kv => (dK kv.1, kv.2)
theorem IsKV.isP {K : PySem.W.Frag} {R : Hp} : ∀ {a : List (Key × V)} {b : List (Key × D)}, IsKV K R a b → IsP K R a (kvD b)
  | [], _, h => by cases h; exact .nil
  | (k, v) :: a, (k', d) :: b, h => by
    cases h with
    | cons h1 h2 =>
      obtain ⟨e, h1⟩ := h1
      cases e
      exact .cons h1 (IsKV.isP h2)
theorem IsP.kv {K : PySem.W.Frag} {R : Hp} : ∀ {a : List (Key × V)} {b : List (Key × D)}, IsP K R a (kvD b) → IsKV K R a b
  | [], [], _ => .nil
  | [], _ :: _, h => by cases h
  | _ :: _, [], h => by cases h
  | (k, v) :: a, (k', d) :: b, h => by
    generalize hz : kvD ((k', d) :: b) = z at h
    cases h with
    | cons h1 h2 =>
      injection hz with e1 e2
      injection e1 with e3 e4
      have ek : k' = k := by
        cases k' <;> cases k <;> first | (injection e3 with e3; rw [e3]) | injection e3
      subst ek
      have e4 : d = _ := e4
      subst e4
      subst e2
      exact .cons ⟨rfl, h1⟩ (IsP.kv h2)
def SlotOk (K : PySem.W.Frag) (R H : Hp) (ov : Option (Option V)) (fp : Ad) : SD → Prop
  | .no => ∀ a, ¬ fp a
  | .val d => (∃ v, ov = some (some v) ∧ Is K R v d) ∧ ∀ a, ¬ fp a
  | .own xs => ∃ a vs, ov = some (some (.ref a)) ∧ (∀ b, fp b ↔ b = a) ∧ H a = some (.lst vs) ∧ IsA K R vs xs
  | .dic kvs => ∃ a vs, ov = some (some (.ref a)) ∧ (∀ b, fp b ↔ b = a) ∧ H a = some (.dK vs) ∧ IsKV K R vs kvs
  | .wd w => ov = some (some w.val) ∧ (∀ a, fp a ↔ w.fp a) ∧ w.ok R H
  | .ob o => ov = some (some (obWd K o).val) ∧ (∀ a, fp a ↔ (obWd K o).fp a) ∧ (obWd K o).ok R H
section
variable {K : PySem.W.Frag} {R R' H H' : Hp} {ov : Option (Option V)} {fp : Ad}
theorem SlotOk.mono (e : Same R R') (k : ∀ a, fp a → H' a = H a) : ∀ {s : SD}, SlotOk K R H ov fp s → SlotOk K R' H' ov fp s
  | .no, h => h
  | .val d, ⟨⟨v, h1, h2⟩, h3⟩ => ⟨⟨v, h1, h2.mono e⟩, h3⟩
  | .own xs, ⟨a, vs, h1, h2, h3, h4⟩ => ⟨a, vs, h1, h2, by rw [k a ((h2 a).mpr rfl)]; exact h3, h4.mono e⟩
  | .dic kvs, ⟨a, vs, h1, h2, h3, h4⟩ => ⟨a, vs, h1, h2, by rw [k a ((h2 a).mpr rfl)]; exact h3, h4.mono e⟩
  | .wd w, ⟨h1, h2, h3⟩ => ⟨h1, h2, w.mono e (fun a ha => k a ((h2 a).mpr ha)) h3⟩
  | .ob o, ⟨h1, h2, h3⟩ => ⟨h1, h2, (obWd K o).mono e (fun a ha => k a ((h2 a).mpr ha)) h3⟩
theorem SlotOk.dom : ∀ {s : SD}, SlotOk K R H ov fp s → ∀ {a : Addr}, fp a → ∃ o, H a = some o ∧ bigO o
  | .no, h, a, q => absurd q (h a)
  | .val d, ⟨_, h⟩, a, q => absurd q (h a)
  | .own xs, ⟨b, vs, _, h2, h3, _⟩, a, q => by rw [(h2 a).mp q]; exact ⟨_, h3, trivial⟩
  | .dic xs, ⟨b, vs, _, h2, h3, _⟩, a, q => by rw [(h2 a).mp q]; exact ⟨_, h3, trivial⟩
  | .wd w, ⟨_, h2, h3⟩, a, q => w.dom h3 ((h2 a).mp q)
  | .ob o, ⟨_, h2, h3⟩, a, q => (obWd K o).dom h3 ((h2 a).mp q)
/-- the value at the slot matters alone, and the footprint's members -/
theorem SlotOk.fpx {fp' : Ad} (e : ∀ a, fp' a ↔ fp a) : ∀ {s : SD}, SlotOk K R H ov fp s → SlotOk K R H ov fp' s
  | .no, h => fun a q => h a ((e a).mp q)
  | .val d, ⟨h1, h2⟩ => ⟨h1, fun a q => h2 a ((e a).mp q)⟩
  | .own xs, ⟨b, vs, h1, h2, h3⟩ => ⟨b, vs, h1, fun a => (e a).trans (h2 a), h3⟩
  | .dic xs, ⟨b, vs, h1, h2, h3⟩ => ⟨b, vs, h1, fun a => (e a).trans (h2 a), h3⟩
  | .wd w, ⟨h1, h2, h3⟩ => ⟨h1, fun a => (e a).trans (h2 a), h3⟩
  | .ob o, ⟨h1, h2, h3⟩ => ⟨h1, fun a => (e a).trans (h2 a), h3⟩
end
theorem ne_by {S : Ad} {a p : Addr} (h : S a) (n : ¬ S p) : a ≠ p := fun e => n (e ▸ h)
def Ad.or (S T : Ad) : Ad := fun a => S a ∨ T a
def Ad.nil : Ad := fun _ => False
/-- the def's state stands for ds: F frozen, T temporary, fp what the slots own -/
structure Rep (K : PySem.W.Frag) (F T : Ad) (σ : Sl) (H : Hp) (ds : DS) (fp : Nat → Ad) : Prop where
  len : ds.length = σ.length
  slot : ∀ i s, ds[i]? = some s → SlotOk K (res F H) H σ[i]? (fp i) s
  out : ∀ i a, fp i a → i < ds.length
  fF : ∀ i a, fp i a → ¬ F a
  fT : ∀ i a, fp i a → ¬ T a
  sep : ∀ i j a, fp i a → fp j a → i = j
  tF : ∀ a, T a → ¬ F a
  fd : ∀ a, F a → ∃ o, H a = some o ∧ seqO o
  td : ∀ a, T a → ∃ o, H a = some o ∧ bigO o
def Grow (F : Ad) (H : Hp) (F' : Ad) (H' : Hp) : Prop := ∀ a, F a → F' a ∧ H' a = H a
section
variable {K : PySem.W.Frag} {F F' F1 F2 T T' q : Ad} {σ : Sl} {H H' H1 H2 : Hp} {ds ds' : DS} {fp fp' : Nat → Ad} {p : Addr}
theorem Grow.refl : Grow F H F H := fun _ h => ⟨h, rfl⟩
theorem Grow.trans (a : Grow F H F1 H1) (b : Grow F1 H1 F2 H2) : Grow F H F2 H2 := fun x h => ⟨(b x (a x h).1).1, ((b x (a x h).1).2).trans (a x h).2⟩
theorem Grow.same (g : Grow F H F' H') : Same (res F H) (res F' H') := fun a o h => by
  obtain ⟨f, e⟩ := res_some h
  rw [res_in (g a f).1, (g a f).2]; exact e
theorem Rep.fdom (r : Rep K F T σ H ds fp) {i : Nat} {a : Addr} (h : fp i a) : ∃ o, H a = some o ∧ bigO o := by
  have hi := r.out i a h
  exact (r.slot i _ (List.getElem?_eq_getElem hi)).dom h
/-- the same slots, another heap -/
theorem Rep.go (r : Rep K F T σ H ds fp) (g : Grow F H F' H') (k : ∀ i a, fp i a → H' a = H a ∧ ¬ F' a ∧ ¬ T' a) (tF : ∀ a, T' a → ¬ F' a) (fd : ∀ a, F' a → ∃ o, H' a = some o ∧ seqO o) (td : ∀ a, T' a → ∃ o, H' a = some o ∧ bigO o) : Rep K F' T' σ H' ds fp :=
  ⟨r.len, fun i s e => (r.slot i s e).mono g.same fun a ha => (k i a ha).1, r.out, fun i a h => (k i a h).2.1, fun i a h => (k i a h).2.2, r.sep, tF, fd, td⟩
/-- fewer temporaries -/
theorem Rep.less (r : Rep K F T σ H ds fp) (h : ∀ a, T' a → T a) : Rep K F T' σ H ds fp :=
  r.go .refl (fun i a q => ⟨rfl, r.fF i a q, fun t => r.fT i a q (h a t)⟩) (fun a t => r.tF a (h a t)) r.fd fun a t => r.td a (h a t)
theorem Rep.new_ne (r : Rep K F T σ H ds fp) (hp : H p = none) : ¬ F p ∧ ¬ T p ∧ ∀ i, ¬ fp i p := by
  refine ⟨fun f => ?_, fun f => ?_, fun i f => ?_⟩
  · obtain ⟨o, e, _⟩ := r.fd p f; rw [hp] at e; cases e
  · obtain ⟨o, e, _⟩ := r.td p f; rw [hp] at e; cases e
  · obtain ⟨o, e, _⟩ := r.fdom f; rw [hp] at e; cases e
/-- something new that is frozen at once -/
theorem Rep.newF (r : Rep K F T σ H ds fp) (hp : H p = none) {o : HO} (ho : seqO o) : Rep K (F.or (· = p)) T σ (upd H p o) ds fp ∧ Grow F H (F.or (· = p)) (upd H p o) ∧ ∀ a, T a → upd H p o a = H a := by
  obtain ⟨n1, n2, n3⟩ := r.new_ne hp
  have g : Grow F H (F.or (· = p)) (upd H p o) := fun a f => ⟨.inl f, upd_ne (ne_by f n1)⟩
  refine ⟨r.go g (fun i a q => ⟨upd_ne (ne_by q (n3 i)), ?_, r.fT i a q⟩) (fun a t => ?_) (fun a f => ?_) fun a t => ?_, g, fun a t => upd_ne (ne_by t n2)⟩
  · rintro (f | f)
    · exact r.fF i a q f
    · exact n3 i (f ▸ q)
  · rintro (f | f)
    · exact r.tF a t f
    · exact n2 (f ▸ t)
  · rcases f with f | f
    · rw [upd_ne (ne_by f n1)]; exact r.fd a f
    · rw [f, upd_same]; exact ⟨_, rfl, ho⟩
  · rw [upd_ne (ne_by t n2)]; exact r.td a t
/-- something new, a temporary -/
theorem Rep.newT (r : Rep K F T σ H ds fp) (hp : H p = none) {o : HO} (ho : bigO o) : Rep K F (T.or (· = p)) σ (upd H p o) ds fp ∧ Grow F H F (upd H p o) ∧ ∀ a, T a → upd H p o a = H a := by
  obtain ⟨n1, n2, n3⟩ := r.new_ne hp
  have g : Grow F H F (upd H p o) := fun a f => ⟨f, upd_ne (ne_by f n1)⟩
  refine ⟨r.go g (fun i a q => ⟨upd_ne (ne_by q (n3 i)), r.fF i a q, ?_⟩) (fun a t => ?_) (fun a f => ?_) fun a t => ?_, g, fun a t => upd_ne (ne_by t n2)⟩
  · rintro (f | f)
    · exact r.fT i a q f
    · exact n3 i (f ▸ q)
  · rcases t with t | t
    · exact r.tF a t
    · exact fun f => n1 (t ▸ f)
  · rw [upd_ne (ne_by f n1)]; exact r.fd a f
  · rcases t with t | t
    · rw [upd_ne (ne_by t n2)]; exact r.td a t
    · rw [t, upd_same]; exact ⟨_, rfl, ho⟩
/-- temporaries that are lists become frozen -/
theorem Rep.freezeT (r : Rep K F (T.or q) σ H ds fp) (d : ∀ a, q a → ¬ T a) (l : ∀ a, q a → ∃ o, H a = some o ∧ seqO o) : Rep K (F.or q) T σ H ds fp ∧ Grow F H (F.or q) H := by
  have g : Grow F H (F.or q) H := fun a f => ⟨.inl f, rfl⟩
  refine ⟨r.go g (fun i a h => ⟨rfl, ?_, fun t => r.fT i a h (.inl t)⟩) (fun a t => ?_) (fun a f => ?_) fun a t => r.td a (.inl t), g⟩
  · rintro (f | f)
    · exact r.fF i a h f
    · exact r.fT i a h (.inr f)
  · rintro (f | f)
    · exact r.tF a (.inl t) f
    · exact d a f t
  · rcases f with f | f
    · exact r.fd a f
    · exact l a f
open Classical in
/-- slot i holds v, which is s, and owns q -/
theorem Rep.put (r : Rep K F (T.or q) σ H ds fp) (d : ∀ a, q a → ¬ T a) {i : Nat} {v : V} {s : SD} (hs : SlotOk K (res F H) H (some (some v)) q s) (hi : i < ds.length) :
    Rep K F T (σ.set i (some v)) H (ds.set i s) (fun j => if j = i then q else fp j) := by
  refine ⟨by rw [List.length_set, List.length_set]; exact r.len, fun j u e => ?_, fun j a h => ?_, fun j a h => ?_, fun j a h => ?_, fun j k a h g => ?_, fun a t => r.tF a (.inl t), r.fd, fun a t => r.td a (.inl t)⟩
  · by_cases hj : j = i
    · subst hj
      rw [List.getElem?_set_self hi] at e; cases e
      rw [if_pos rfl, List.getElem?_set_self (by rw [← r.len]; exact hi)]
      exact hs
    · rw [List.getElem?_set_ne (Ne.symm hj)] at e
      rw [if_neg hj, List.getElem?_set_ne (Ne.symm hj)]
      exact r.slot j u e
  · rw [List.length_set]
    by_cases hj : j = i
    · rw [hj]; exact hi
    · rw [if_neg hj] at h; exact r.out j a h
  · by_cases hj : j = i
    · rw [if_pos hj] at h; exact r.tF a (.inr h)
    · rw [if_neg hj] at h; exact r.fF j a h
  · by_cases hj : j = i
    · rw [if_pos hj] at h; exact d a h
    · rw [if_neg hj] at h; exact fun t => r.fT j a h (.inl t)
  · by_cases hj : j = i
    · by_cases hk : k = i
      · rw [hj, hk]
      · rw [if_pos hj] at h; rw [if_neg hk] at g
        exact absurd (.inr h) (r.fT k a g)
    · by_cases hk : k = i
      · rw [if_neg hj] at h; rw [if_pos hk] at g
        exact absurd (.inr g) (r.fT j a h)
      · rw [if_neg hj] at h; rw [if_neg hk] at g
        exact r.sep j k a h g
open Classical in
/-- the list that slot i owns is frozen -/
theorem Rep.freeze (r : Rep K F T σ H ds fp) {i : Nat} {xs : List D} (e : ds[i]? = some (.own xs)) :
    Rep K (F.or (fp i)) T σ H (ds.set i (.val (.list xs))) (fun j => if j = i then Ad.nil else fp j) ∧ Grow F H (F.or (fp i)) H ∧ ∃ a, σ[i]? = some (some (.ref a)) ∧ Is K (res (F.or (fp i)) H) (.ref a) (.list xs) := by
  obtain ⟨a, vs, h1, h2, h3, h4⟩ := r.slot i _ e
  have hi : i < ds.length := (List.getElem?_eq_some_iff.mp e).1
  have g : Grow F H (F.or (fp i)) H := fun b f => ⟨.inl f, rfl⟩
  have his : Is K (res (F.or (fp i)) H) (.ref a) (.list xs) := .lst (.inl (.inl (by rw [res_in (.inr ((h2 a).mpr rfl))]; exact h3))) (h4.mono g.same)
  refine ⟨⟨by rw [List.length_set]; exact r.len, fun j u e' => ?_, fun j b h => ?_, fun j b h => ?_, fun j b h => ?_, fun j k b h g' => ?_, fun b t => ?_, fun b f => ?_, r.td⟩, g, a, h1, his⟩
  · by_cases hj : j = i
    · subst hj
      rw [List.getElem?_set_self hi] at e'; cases e'
      rw [if_pos rfl]
      exact ⟨⟨_, h1, his⟩, fun _ z => z⟩
    · rw [List.getElem?_set_ne (Ne.symm hj)] at e'
      rw [if_neg hj]
      exact (r.slot j u e').mono g.same fun _ _ => rfl
  · rw [List.length_set]
    by_cases hj : j = i
    · rw [hj]; exact hi
    · rw [if_neg hj] at h; exact r.out j b h
  · by_cases hj : j = i
    · rw [if_pos hj] at h; exact h.elim
    · rw [if_neg hj] at h
      rintro (f | f)
      · exact r.fF j b h f
      · exact hj (r.sep j i b h f)
  · by_cases hj : j = i
    · rw [if_pos hj] at h; exact h.elim
    · rw [if_neg hj] at h; exact r.fT j b h
  · by_cases hj : j = i
    · rw [if_pos hj] at h; exact h.elim
    · rw [if_neg hj] at h
      by_cases hk : k = i
      · rw [if_pos hk] at g'; exact g'.elim
      · rw [if_neg hk] at g'; exact r.sep j k b h g'
  · rintro (f | f)
    · exact r.tF b t f
    · exact r.fT i b f t
  · rcases f with f | f
    · exact r.fd b f
    · rw [(h2 b).mp f]; exact ⟨_, h3, trivial⟩
end
end DL
namespace DL
open PySem PySem.Spec PyProof.Rows L2
/-- what an expression hands on: data, the object of a slot, a new object that nobody else holds -/
inductive Hd where
  | tmp (d : D)
  | slot (i : Nat)
  | new (s : SD)
  | fld (j k : Nat) (a : Addr)
abbrev QE := Hd → DS → Prop
abbrev DT := DS → QE → Prop
abbrev DTT := DS → (Bool → DS → Prop) → Prop
abbrev DTA := DS → (List Hd → DS → Prop) → Prop
def HdR (K : PySem.W.Frag) (F : Ad) (H : Hp) (σ : Sl) (v : V) (q : Ad) : Hd → Prop
  | .tmp d => Is K (res F H) v d
  | .slot i => σ[i]? = some (some v)
  | .new s => SlotOk K (res F H) H (some (some v)) q s
  | .fld _ _ a => v = .ref a
structure Pst (K : PySem.W.Frag) (F T : Ad) (H : Hp) (σ : Sl) (v : V) (h : Hd) (ds' : DS) (F' : Ad) (H' : Hp) (fp' : Nat → Ad) (q : Ad) : Prop where
  rep : Rep K F' (T.or q) σ H' ds' fp'
  qT : ∀ a, q a → ¬ T a
  g : Grow F H F' H'
  t : ∀ a, T a → H' a = H a
  r : HdR K F' H' σ v q h
def EOk (K : PySem.W.Frag) (te : TE) (t : DT) : Prop :=
  ∀ (F T : Ad) (σ : Sl) (H : Hp) (ds : DS) (fp : Nat → Ad) (Q : QE) (R : VK), Rep K F T σ H ds fp → t ds Q →
    (∀ h ds' v H' F' fp' q, Q h ds' → Pst K F T H σ v h ds' F' H' fp' q → R v H') → te σ H R
structure DO (X : Cx) (e : Expr) (te : TE) (t : DT) : Prop where
  pe : PE X e te
  ok : EOk X.K te t
@[simp] def peek (ds : DS) : Hd → Option D
  | .tmp d => some d
  | .slot i => match ds[i]? with
    | some (.val d) => some d
    | some (.own xs) => some (.list xs)
    | _ => none
  | .new (.own xs) => some (.list xs)
  | .new (.val d) => some d
  | .new _ => none
  | .fld j k a => match ds[j]? with
    | some (.ob o) => match o.fs[k]? with
      | some (.own b xs) => if b = a then some (.list xs) else none
      | _ => none
    | _ => none
@[simp] def pk (ds : DS) (h : Hd) (P : D → Prop) : Prop := match peek ds h with
  | some d => P d
  | none => False
/-- to be looked at -/
def PkR (K : PySem.W.Frag) (F : Ad) (H : Hp) (v : V) (d : D) : Prop :=
  Is K (res F H) v d ∨ ∃ a vs xs, v = .ref a ∧ d = .list xs ∧ Ls K H a vs ∧ IsA K (res F H) vs xs
section
variable {K : PySem.W.Frag} {F F' T q : Ad} {σ : Sl} {H H' : Hp} {ds : DS} {fp : Nat → Ad} {v : V} {h : Hd} {d : D}
theorem HdR.keep (g : Grow F H F' H') (k : ∀ a, q a → H' a = H a) : ∀ {h : Hd}, HdR K F H σ v q h → HdR K F' H' σ v q h
  | .tmp d, h => Is.mono g.same d h
  | .slot _, h => h
  | .new _, h => SlotOk.mono g.same k h
  | .fld _ _ _, h => h
theorem paired_at2 {α β : Type} {G : α → β → Prop} : ∀ {l₁ : List α} {l₂ : List β} {i : Nat} {b : β}, Paired G l₁ l₂ → l₂[i]? = some b → ∃ a, l₁[i]? = some a ∧ G a b
  | _, _, _, _, .nil, e => by simp at e
  | _, _, 0, _, .cons h1 h2, e => by simp at e; subst e; exact ⟨_, rfl, h1⟩
  | _, _, i + 1, _, .cons h1 h2, e => by
    obtain ⟨a, q1, q2⟩ := paired_at2 (i := i) h2 (by simpa using e)
    exact ⟨a, by simpa using q1, q2⟩
theorem PkR.is (p : PkR K F H v d) : Is K H v d := by
  rcases p with p | ⟨a, vs, xs, rfl, rfl, h, hs⟩
  · exact p.mono (res_same _ _)
  · exact .lst h (hs.mono (res_same _ _))
theorem PkR.list {xs : List D} (p : PkR K F H v (.list xs)) : ∃ a vs, v = .ref a ∧ Ls K H a vs ∧ IsA K (res F H) vs xs := by
  rcases p with p | ⟨a, vs, ys, rfl, e, h, hs⟩
  · cases p with
    | lst h hs => exact ⟨_, _, rfl, same_l (res_same _ _) h, hs⟩
  · cases e; exact ⟨_, _, rfl, h, hs⟩
theorem PkR.tuple {xs : List D} (p : PkR K F H v (.tuple xs)) : ∃ a vs, v = .ref a ∧ SqT K H a vs ∧ IsA K (res F H) vs xs ∧ Is K (res F H) v (.tuple xs) := by
  rcases p with p | ⟨a, vs, ys, rfl, e, h, hs⟩
  · have p' := p
    cases p with
    | tup h hs => exact ⟨_, _, rfl, same_t (res_same _ _) h, hs, p'⟩
  · cases e
theorem PkR.flat (p : PkR K F H v d) (n : ∀ xs, d ≠ .list xs) : Is K (res F H) v d := by
  rcases p with p | ⟨a, vs, ys, rfl, e, h, hs⟩
  · exact p
  · exact absurd e (n _)
theorem PkR.int {i : Int} (p : PkR K F H v (.int i)) : v = .int i := by
  cases p.flat (fun _ e => nomatch e); rfl
theorem PkR.bool {i : Bool} (p : PkR K F H v (.bool i)) : v = .bl i := by
  cases p.flat (fun _ e => nomatch e); rfl
theorem PkR.str {i : Str} (p : PkR K F H v (.str i)) : v = .str i := by
  cases p.flat (fun _ e => nomatch e); rfl
theorem PkR.none (p : PkR K F H v .none) : v = .non := by
  cases p.flat (fun _ e => nomatch e); rfl
theorem peek_ok (r : Rep K F T σ H ds fp) (x : HdR K F H σ v q h) (e : peek ds h = some d) : PkR K F H v d := by
  cases h with
  | tmp d' => cases e; exact .inl x
  | slot i =>
    have x' : σ[i]? = some (some v) := x
    cases hd : ds[i]? with
    | none => simp [peek, hd] at e
    | some s =>
      cases s with
      | val d' =>
        simp [peek, hd] at e
        subst e
        obtain ⟨⟨v', h1, h2⟩, _⟩ := r.slot i _ hd
        rw [x'] at h1; cases h1
        exact .inl h2
      | own xs =>
        simp [peek, hd] at e
        subst e
        obtain ⟨a, vs, h1, _, h3, h4⟩ := r.slot i _ hd
        rw [x'] at h1; cases h1
        exact .inr ⟨a, vs, xs, rfl, rfl, .inl (.inl h3), h4⟩
      | no => simp [peek, hd] at e
      | dic _ => simp [peek, hd] at e
      | wd _ => simp [peek, hd] at e
      | ob _ => simp [peek, hd] at e
  | new s =>
    cases s with
    | own xs =>
      cases e
      obtain ⟨a, vs, h1, _, h3, h4⟩ := x
      cases h1
      exact .inr ⟨a, vs, xs, rfl, rfl, .inl (.inl h3), h4⟩
    | val d' =>
      cases e
      obtain ⟨⟨v', h1, h2⟩, _⟩ := x
      cases h1
      exact .inl h2
    | no => cases e
    | dic _ => cases e
    | wd _ => cases e
    | ob _ => cases e
  | fld j k a =>
    have x' : v = .ref a := x
    subst x'
    simp only [peek] at e
    split at e
    · rename_i o hd
      split at e
      · rename_i b xs hk
        split at e
        · rename_i hb
          cases e; subst hb
          obtain ⟨_, _, ⟨dx, vs, _, _, hp⟩, _⟩ := r.slot j _ hd
          obtain ⟨u, _, _, ws, h3, h4⟩ := paired_at2 hp hk
          exact .inr ⟨_, ws, xs, rfl, rfl, .inl (.inl h3), h4⟩
        · cases e
      · cases e
    · cases e
theorem pk_ok {P : D → Prop} (r : Rep K F T σ H ds fp) (x : HdR K F H σ v q h) (e : pk ds h P) : ∃ d, PkR K F H v d ∧ P d := by
  unfold pk at e
  split at e
  · exact ⟨_, peek_ok r x ‹_›, e⟩
  · exact e.elim
end
@[simp] def take1 : Hd → DS → (D → DS → Prop) → Prop
  | .tmp d, ds, Q => Q d ds
  | .slot i, ds, Q => match ds[i]? with
    | some (.val d) => Q d ds
    | some (.own xs) => Q (.list xs) (ds.set i (.val (.list xs)))
    | _ => False
  | .new (.own xs), ds, Q => Q (.list xs) ds
  | .new (.val d), ds, Q => Q d ds
  | .new _, _, _ => False
  | .fld _ _ _, _, _ => False
@[simp] def takes : List Hd → DS → (List D → DS → Prop) → Prop
  | [], ds, Q => Q [] ds
  | h :: hs, ds, Q => take1 h ds fun d ds1 => takes hs ds1 fun dl ds2 => Q (d :: dl) ds2
inductive HdRs (K : PySem.W.Frag) (F : Ad) (H : Hp) (σ : Sl) : List V → Ad → List Hd → Prop
  | nil {q : Ad} : HdRs K F H σ [] q []
  | cons {v : V} {vs : List V} {q1 q2 q : Ad} {h : Hd} {hs : List Hd} : HdR K F H σ v q1 h → HdRs K F H σ vs q2 hs → (∀ a, q1 a ∨ q2 a → q a) → (∀ a, q1 a → ¬ q2 a) → HdRs K F H σ (v :: vs) q (h :: hs)
section
variable {K : PySem.W.Frag} {F F' T q q' : Ad} {σ : Sl} {H H' : Hp} {ds : DS} {fp : Nat → Ad} {v : V} {vs : List V} {h : Hd} {hs : List Hd} {d : D}
theorem HdRs.keep (g : Grow F H F' H') (k : ∀ a, q a → H' a = H a) (x : HdRs K F H σ vs q hs) : HdRs K F' H' σ vs q hs := by
  induction x with
  | nil => exact .nil
  | cons a b c d ih => exact .cons (a.keep g fun z hz => k z (c z (.inl hz))) (ih fun z hz => k z (c z (.inr hz))) c d
theorem HdRs.length (x : HdRs K F H σ vs q hs) : vs.length = hs.length := by
  induction x with
  | nil => rfl
  | cons a b c d ih => rw [List.length_cons, List.length_cons, ih]
theorem take1_ok {Q : D → DS → Prop} (r : Rep K F (T.or q) σ H ds fp) (dj : ∀ a, q a → ¬ T a) (x : HdR K F H σ v q h) (e : take1 h ds Q) :
    ∃ d ds' F' fp', Q d ds' ∧ Rep K F' T σ H ds' fp' ∧ Grow F H F' H ∧ Is K (res F' H) v d := by
  have r0 : Rep K F T σ H ds fp := r.less fun a t => .inl t
  cases h with
  | tmp d => exact ⟨_, _, F, fp, e, r0, .refl, x⟩
  | slot i =>
    have x' : σ[i]? = some (some v) := x
    cases hd : ds[i]? with
    | none => simp [take1, hd] at e
    | some s =>
      cases s with
      | val d' =>
        simp [take1, hd] at e
        obtain ⟨⟨v', h1, h2⟩, _⟩ := r.slot i _ hd
        rw [x'] at h1; cases h1
        exact ⟨_, _, F, fp, e, r0, .refl, h2⟩
      | own xs =>
        simp [take1, hd] at e
        obtain ⟨r1, g, a, h1, h2⟩ := r0.freeze hd
        rw [x'] at h1; cases h1
        exact ⟨_, _, _, _, e, r1, g, h2⟩
      | no => simp [take1, hd] at e
      | dic _ => simp [take1, hd] at e
      | wd _ => simp [take1, hd] at e
      | ob _ => simp [take1, hd] at e
  | new s =>
    cases s with
    | own xs =>
      obtain ⟨a, ws, h1, h2, h3, h4⟩ := x
      cases h1
      obtain ⟨r1, g⟩ := r.freezeT dj fun b hb => by rw [(h2 b).mp hb]; exact ⟨_, h3, trivial⟩
      exact ⟨_, _, _, fp, e, r1, g, .lst (.inl (.inl (by rw [res_in (.inr ((h2 a).mpr rfl))]; exact h3))) (h4.mono g.same)⟩
    | val d =>
      obtain ⟨⟨v', h1, h2⟩, _⟩ := x
      cases h1
      exact ⟨_, _, F, fp, e, r0, .refl, h2⟩
    | no => exact e.elim
    | dic _ => exact e.elim
    | wd _ => exact e.elim
    | ob _ => exact e.elim
  | fld _ _ _ => exact e.elim
theorem takes_ok (x : HdRs K F H σ vs q hs) : ∀ {F1 T ds fp} {Q : List D → DS → Prop}, Grow F H F1 H → Rep K F1 (T.or q) σ H ds fp → (∀ a, q a → ¬ T a) → takes hs ds Q →
    ∃ dl ds' F' fp', Q dl ds' ∧ Rep K F' T σ H ds' fp' ∧ Grow F1 H F' H ∧ IsA K (res F' H) vs dl := by
  induction x with
  | nil =>
    intro F1 T ds fp Q g r dj e
    exact ⟨[], ds, F1, fp, e, r.less fun a t => .inl t, .refl, .nil⟩
  | @cons v vs q1 q2 q h hs a b c d ih =>
    intro F1 T ds fp Q g r dj e
    have r1 : Rep K F1 ((T.or q2).or q1) σ H ds fp := r.less fun a t => t.elim (fun t => t.elim .inl fun t => .inr (c a (.inr t))) fun t => .inr (c a (.inl t))
    obtain ⟨d1, ds1, F2, fp2, e1, r2, g2, i1⟩ := take1_ok r1 (fun a z => by
      rintro (t | t)
      · exact dj a (c a (.inl z)) t
      · exact d a z t) (a.keep g fun _ _ => rfl) e
    obtain ⟨dl, ds2, F3, fp3, e2, r3, g3, i2⟩ := ih (g.trans g2) r2 (fun a z => dj a (c a (.inr z))) e1
    exact ⟨_, _, _, _, e2, r3, g2.trans g3, .cons (i1.mono g3.same) i2⟩
end
structure Psts (K : PySem.W.Frag) (F T : Ad) (H : Hp) (σ : Sl) (vs : List V) (hs : List Hd) (ds' : DS) (F' : Ad) (H' : Hp) (fp' : Nat → Ad) (q : Ad) : Prop where
  rep : Rep K F' (T.or q) σ H' ds' fp'
  qT : ∀ a, q a → ¬ T a
  g : Grow F H F' H'
  t : ∀ a, T a → H' a = H a
  r : HdRs K F' H' σ vs q hs
def AOk (K : PySem.W.Frag) (n : Nat) (ta : TA) (t : DTA) : Prop :=
  ∀ (F T : Ad) (σ : Sl) (H : Hp) (ds : DS) (fp : Nat → Ad) (Q : List Hd → DS → Prop) (R : List V → Hp → Prop), Rep K F T σ H ds fp → t ds Q →
    (∀ hs ds' vs H' F' fp' q, Q hs ds' → Psts K F T H σ vs hs ds' F' H' fp' q → vs.length = n → R vs H') → ta σ H R
structure DA (X : Cx) (es : List Expr) (ta : TA) (t : DTA) : Prop where
  pa : PA X es ta
  ok : AOk X.K es.length ta t
@[simp] def aNil : DTA := fun ds Q => Q [] ds
@[simp] def aCons (t : DT) (u : DTA) : DTA := fun ds Q => t ds fun h ds1 => u ds1 fun hs ds2 => Q (h :: hs) ds2
theorem or_empty {T : Ad} (a : Addr) (h : (T.or Ad.nil) a) : T a := h.elim id fun z => z.elim
section
variable {X : Cx} {e : Expr} {es : List Expr} {te : TE} {ta : TA} {t : DT} {u : DTA} {K : PySem.W.Frag} {n : Nat}
theorem aok_nil : AOk K 0 tNil aNil := fun F T σ H ds fp Q R r h k =>
  k [] ds [] H F fp Ad.nil h ⟨r.less or_empty, fun _ z => z.elim, .refl, fun _ _ => rfl, .nil⟩ rfl
theorem aok_cons (a : EOk K te t) (b : AOk K n ta u) : AOk K (n + 1) (tCons te ta) (aCons t u) := fun F T σ H ds fp Q R r h k => by
  refine a F T σ H ds fp _ _ r h fun h1 ds1 v1 H1 F1 fp1 q1 k1 p1 => ?_
  refine b F1 (T.or q1) σ H1 ds1 fp1 _ _ p1.rep k1 fun hs ds2 vs H2 F2 fp2 q2 k2 p2 l2 => ?_
  refine k _ _ _ _ _ fp2 (q1.or q2) k2 ⟨p2.rep.less ?_, ?_, p1.g.trans p2.g, fun a ta => ?_, ?_⟩ (by rw [List.length_cons, l2])
  · rintro a (z | z | z)
    · exact .inl (.inl z)
    · exact .inl (.inr z)
    · exact .inr z
  · rintro a (z | z)
    · exact p1.qT a z
    · exact fun y => p2.qT a z (.inl y)
  · rw [p2.t a (.inl ta), p1.t a ta]
  · exact .cons (p1.r.keep p2.g fun a z => p2.t a (.inr z)) p2.r (fun _ z => z) fun a z y => p2.qT a y (.inr z)
theorem da_nil : DA X [] tNil aNil := ⟨pa_nil, aok_nil⟩
theorem da_cons (a : DO X e te t) (b : DA X es ta u) (hs : starEach (e :: es) X.env = (false, eval e X.env) :: starEach es X.env := by rfl) : DA X (e :: es) (tCons te ta) (aCons t u) :=
  ⟨pa_cons a.pe b.pa hs, aok_cons a.ok b.ok⟩
end
@[simp] def dVar (i : Nat) : DT := fun ds Q => match ds[i]? with
  | some .no => False
  | some _ => Q (.slot i) ds
  | none => False
@[simp] def dC (d : D) : DT := fun ds Q => Q (.tmp d) ds
section
variable {X : Cx} {K : PySem.W.Frag} {F T : Ad} {σ : Sl} {H : Hp} {ds : DS} {fp : Nat → Ad}
theorem Pst.here {v : V} {h : Hd} (r : Rep K F T σ H ds fp) (x : HdR K F H σ v Ad.nil h) : Pst K F T H σ v h ds F H fp Ad.nil :=
  ⟨r.less or_empty, fun _ z => z.elim, .refl, fun _ _ => rfl, x⟩
theorem eok_var {i : Nat} : EOk K (tVar i) (dVar i) := fun F T σ H ds fp Q R r h k => by
  unfold dVar at h
  have key : ∀ {v : V}, σ[i]? = some (some v) → Q (.slot i) ds → tVar i σ H R := fun {v} e q => ⟨v, e, k _ _ _ _ _ _ _ q (.here r e)⟩
  split at h
  · exact h.elim
  · rename_i s hne hs
    have z := r.slot i _ hs
    cases s with
    | no => exact absurd rfl (hne)
    | val d => obtain ⟨⟨v, e, _⟩, _⟩ := z; exact key e h
    | own xs => obtain ⟨a, vs, e, _⟩ := z; exact key e h
    | dic xs => obtain ⟨a, vs, e, _⟩ := z; exact key e h
    | wd w => obtain ⟨e, _⟩ := z; exact key e h
    | ob w => obtain ⟨e, _⟩ := z; exact key e h
  · exact h.elim
theorem eok_c {v : V} {d : D} (i : ∀ R, Is K R v d) : EOk K (tC v) (dC d) := fun F T σ H ds fp Q R r h k => k _ _ _ _ _ _ _ h (.here r (i _))
theorem dv (i : Nat) {x : Str} {pos : Pos} (hN : X.N[i]? = some x := by rfl) (hv : Vis X.env.scope x := by first | exact Or.inl rfl | exact Or.inr (Or.inl rfl) | exact Or.inr (Or.inr rfl)) (hd : (x == ("__debug__" : Str)) = false := by decide)
    (hcd : (x == ("__classdict__" : Str)) = false := by decide) : DO X (.Name x pos) (tVar i) (dVar i) := ⟨pe_var hN hv hd hcd, eok_var⟩
theorem do_int {i j pos} : DO X (.Constant (.int i) j pos) (tC (.int i)) (dC (.int i)) := ⟨pe_int, eok_c fun _ => .int _⟩
theorem do_bl {b j pos} : DO X (.Constant (.bool b) j pos) (tC (.bl b)) (dC (.bool b)) := ⟨pe_bl, eok_c fun _ => .bl _⟩
theorem do_non {j pos} : DO X (.Constant .none j pos) (tC .non) (dC .none) := ⟨pe_non, eok_c fun _ => .non⟩
theorem do_str {x j pos} : DO X (.Constant (.str x) j pos) (tC (.str x)) (dC (.str x)) := ⟨pe_str, eok_c fun _ => .str _⟩
theorem do_glob {x : Str} {v : V} {u : Value} {d : D} {pos : Pos} (hg : Gl X x) (hm : X.mg x = some u) (r : RelV v u) (i : ∀ R, Is X.K R v d) (hd : (x == ("__debug__" : Str)) = false := by decide) : DO X (.Name x pos) (tC v) (dC d) :=
  ⟨pe_glob hg hm r hd, eok_c i⟩
end
@[simp] def dTup (t : DTA) : DT := fun ds Q => t ds fun hs ds1 => takes hs ds1 fun dl ds2 => Q (.tmp (.tuple dl)) ds2
@[simp] def dLst (t : DTA) : DT := fun ds Q => t ds fun hs ds1 => takes hs ds1 fun dl ds2 => Q (.new (.own dl)) ds2
section
variable {X : Cx} {K : PySem.W.Frag} {F F' T q : Ad} {σ : Sl} {H H' : Hp} {ds ds' : DS} {fp fp' : Nat → Ad} {ta : TA} {t : DTA} {n : Nat} {es : List Expr} {pos : Pos}
/-- after the arguments are taken: a new tuple -/
theorem Pst.tuple {vs : List V} {dl : List D} {p : Addr} (r : Rep K F T σ H ds fp) (x : IsA K (res F H) vs dl) (hp : H p = none) :
    Pst K F T H σ (.ref p) (.tmp (.tuple dl)) ds (F.or (· = p)) (upd H p (.tup vs)) fp Ad.nil := by
  obtain ⟨r1, g, k⟩ := r.newF (o := .tup vs) hp trivial
  exact ⟨r1.less or_empty, fun _ z => z.elim, g, k, .tup (.of (by rw [res_in (.inr rfl), upd_same])) (x.mono g.same)⟩
theorem Pst.list {vs : List V} {dl : List D} {p : Addr} (r : Rep K F T σ H ds fp) (x : IsA K (res F H) vs dl) (hp : H p = none) :
    Pst K F T H σ (.ref p) (.new (.own dl)) ds F (upd H p (.lst vs)) fp (· = p) := by
  obtain ⟨r1, g, k⟩ := r.newT (o := .lst vs) hp trivial
  refine ⟨r1, fun a z => ?_, g, k, ⟨p, vs, rfl, fun _ => Iff.rfl, upd_same, x.mono g.same⟩⟩
  intro t; rw [z] at t
  exact (r.new_ne hp).2.1 t
theorem Pst.pre {F0 : Ad} {H0 : Hp} {v : V} {h : Hd} (g : Grow F0 H0 F H) (k : ∀ a, T a → H a = H0 a) (p : Pst K F T H σ v h ds' F' H' fp' q) : Pst K F0 T H0 σ v h ds' F' H' fp' q :=
  ⟨p.rep, p.qT, g.trans p.g, fun a t => (p.t a t).trans (k a t), p.r⟩
theorem eok_tup (a : AOk K n ta t) (hn : n ≤ 1000) : EOk K (tTup ta) (dTup t) := fun F T σ H ds fp Q R r h k => by
  refine a F T σ H ds fp _ _ r h fun hs ds1 vs H1 F1 fp1 q1 k1 p1 l1 => ?_
  refine ⟨by rw [l1]; exact Nat.le_of_lt (small1000 hn), fun p hp => ?_⟩
  obtain ⟨dl, ds2, F2, fp2, e2, r2, g2, i2⟩ := takes_ok p1.r .refl p1.rep p1.qT k1
  exact k _ _ _ _ _ _ _ e2 ((Pst.tuple r2 i2 hp).pre (p1.g.trans g2) p1.t)
theorem eok_lst (a : AOk K n ta t) (hn : n ≤ 1000) : EOk K (tLst ta) (dLst t) := fun F T σ H ds fp Q R r h k => by
  refine a F T σ H ds fp _ _ r h fun hs ds1 vs H1 F1 fp1 q1 k1 p1 l1 => ?_
  refine ⟨by rw [l1]; exact Nat.le_of_lt (small1000 hn), fun p hp => ?_⟩
  obtain ⟨dl, ds2, F2, fp2, e2, r2, g2, i2⟩ := takes_ok p1.r .refl p1.rep p1.qT k1
  exact k _ _ _ _ _ _ _ e2 ((Pst.list r2 i2 hp).pre (p1.g.trans g2) p1.t)
theorem do_tup {x1} (a : DA X es ta t) (hn : es.length ≤ 1000 := by decide) : DO X (.Tuple es x1 pos) (tTup ta) (dTup t) := ⟨pe_tup a.pa, eok_tup a.ok hn⟩
theorem do_lst (a : DA X es ta t) (hn : es.length ≤ 1000 := by decide) : DO X (.List es pos) (tLst ta) (dLst t) := ⟨pe_lst a.pa, eok_lst a.ok hn⟩
end
abbrev D2 := D → D → (Hd → Prop) → Prop
def ROk (K : PySem.W.Frag) (r : R2) (op : D2) : Prop :=
  ∀ (F T : Ad) (σ : Sl) (H : Hp) (ds : DS) (fp : Nat → Ad) (x y : V) (d e : D) (Q : Hd → Prop) (R : VK), Rep K F T σ H ds fp → PkR K F H x d → PkR K F H y e → op d e Q →
    (∀ h v H' F' q, Q h → Pst K F T H σ v h ds F' H' fp q → R v H') → r x y H R
@[simp] def d2 (op : D2) (t u : DT) : DT := fun ds Q => t ds fun h1 ds1 => u ds1 fun h2 ds2 => pk ds2 h1 fun d1 => pk ds2 h2 fun e => op d1 e fun h => Q h ds2
section
variable {X : Cx} {K : PySem.W.Frag} {a b : Expr} {ta tb : TE} {t u : DT} {r : R2} {op : D2} {pos : Pos}
/-- two operands, one behind the other -/
theorem two_ok (ha : EOk K ta t) (hb : EOk K tb u) {F T : Ad} {σ : Sl} {H : Hp} {ds : DS} {fp : Nat → Ad} {Q : D → D → DS → Prop} {R : V → V → Hp → Prop} (rp : Rep K F T σ H ds fp)
    (h : t ds fun h1 ds1 => u ds1 fun h2 ds2 => pk ds2 h1 fun d1 => pk ds2 h2 fun e => Q d1 e ds2)
    (k : ∀ d e ds' x y H' F' fp', Q d e ds' → Rep K F' T σ H' ds' fp' → Grow F H F' H' → (∀ a, T a → H' a = H a) → PkR K F' H' x d → PkR K F' H' y e → R x y H') : ta σ H fun x H1 => tb σ H1 fun y H2 => R x y H2 := by
  refine ha F T σ H ds fp _ _ rp h fun h1 ds1 v1 H1 F1 fp1 q1 k1 p1 => ?_
  refine hb F1 (T.or q1) σ H1 ds1 fp1 _ _ p1.rep k1 fun h2 ds2 v2 H2 F2 fp2 q2 k2 p2 => ?_
  have x1 := p1.r.keep p2.g fun a z => p2.t a (.inr z)
  obtain ⟨d1, i1, k3⟩ := pk_ok p2.rep x1 k2
  obtain ⟨e1, i2, k4⟩ := pk_ok p2.rep p2.r k3
  exact k _ _ _ _ _ _ _ fp2 k4 (p2.rep.less fun a z => .inl (.inl z)) (p1.g.trans p2.g) (fun a z => (p2.t a (.inl z)).trans (p1.t a z)) i1 i2
theorem eok_2 (ha : EOk K ta t) (hb : EOk K tb u) (hr : ROk K r op) : EOk K (tOp r ta tb) (d2 op t u) := fun F T σ H ds fp Q R rp h k =>
  two_ok ha hb (Q := fun d e ds2 => op d e fun h => Q h ds2) rp h fun d e ds' x y H' F' fp' h1 r1 g1 k1 i1 i2 =>
    hr F' T σ H' ds' fp' x y d e _ R r1 i1 i2 h1 fun h v H2 F2 q qh p => k _ _ _ _ _ _ _ qh (p.pre g1 k1)
theorem do_bin {o : Operator} (ho : OpR X (binaryOp o) r) (hr : ROk X.K r op) (ha : DO X a ta t) (hb : DO X b tb u) : DO X (.BinOp a o b pos) (tOp r ta tb) (d2 op t u) := ⟨pe_op ho ha.pe hb.pe, eok_2 ha.ok hb.ok hr⟩
theorem do_cmp {o : CmpOp} (ho : OpR X (compareOp o) r) (hr : ROk X.K r op) (ha : DO X a ta t) (hb : DO X b tb u) (hm : behindInMarks o b = false := by first | exact nomark _ | rfl) : DO X (.Compare a [o] [b] pos) (tOp r ta tb) (d2 op t u) :=
  ⟨pe_cmpR ho ha.pe hb.pe hm, eok_2 ha.ok hb.ok hr⟩
end
end DL
namespace DL
open PySem PySem.Spec PyProof.Rows L2
section
variable {K : PySem.W.Frag} {X : Cx}
theorem lstRd {pins : List (Addr × Obj)} {σ : Sl} {H : Hp} {s : Shared} {l : Addr} {xs : List V} (I : Inv X pins σ H s) (hH : Ls X.K H l xs) : xs.length ≤ sizeLine ∧ ∃ (its : List Value) (n : Nat), Vals xs its ∧ xs.length = its.length ∧ s.heap.get? l = some { cls := .type "list", data := .seq its.toArray n } := by
  rcases hH with hH | ⟨its, n, hk, z, r⟩
  · obtain ⟨z, its, n, r, e⟩ := hH.ok I.hok
    exact ⟨z, its, n, r, r.length, e⟩
  · refine ⟨?_, its.toList, n, r, r.length, by have := I.kIn l _ hk; simpa using this⟩
    have e := r.length
    have e2 : its.toList.length = its.size := Array.length_toList
    omega
def rCatR (K : PySem.W.Frag) : R2 := fun x y H Q => ∃ l b xs zs, x = .ref l ∧ y = .ref b ∧ Ls K H l xs ∧ Ls K H b zs ∧ xs.length + zs.length ≤ sizeLine ∧ ∀ p, H p = none → Q (.ref p) (upd H p (.lst (xs ++ zs)))
theorem op_catR : OpR X (binaryOp .Add) (rCatR X.K) := by
  intro pins s σ H x y v u Q I rx ry h
  obtain ⟨l, b, xs, zs, rfl, rfl, hH, hB, hz, q⟩ := h
  cases rx
  cases ry
  obtain ⟨z, its, n, r, hl, e⟩ := lstRd I hH
  obtain ⟨z2, its2, n2, r2, hl2, e2⟩ := lstRd I hB
  refine PySem.P.add_list e e2 ?_ (by rw [List.size_toArray, List.size_toArray]; omega)
  have ea : its.toArray ++ its2.toArray = (its ++ its2).toArray := by simp
  rw [ea]
  exact ⟨.ref _, _, I.lnew (t' := s.toks) (r.append r2) (by rw [List.length_append]; omega), rfl, q _ I.fresh⟩
@[simp] def dAdd : D2
  | .int i, .int j, Q => Q (.tmp (.int (i + j)))
  | .str x, .str y, Q => x.length + y.length ≤ sizeLine ∧ Q (.tmp (.str (x ++ y)))
  | .tuple xs, .tuple ys, Q => xs.length + ys.length ≤ sizeLine ∧ Q (.tmp (.tuple (xs ++ ys)))
  | .list xs, .list ys, Q => xs.length + ys.length ≤ sizeLine ∧ Q (.new (.own (xs ++ ys)))
  | _, _, _ => False
def rAddA (K : PySem.W.Frag) : R2 := fun x y H Q => (∃ i j, x = .int i ∧ y = .int j ∧ Q (.int (i + j)) H) ∨ ((∃ i j, x = .str i ∧ y = .str j ∧ i.length + j.length ≤ sizeLine ∧ Q (.str (i ++ j)) H) ∨ (rCatA K x y H Q ∨ rCatR K x y H Q))
theorem op_addA : OpR X (binaryOp .Add) (rAddA X.K) := OpR.or op_add (OpR.or op_add_str (OpR.or op_catA op_catR))
theorem rok_add : ROk K (rAddA K) dAdd := by
  intro F T σ H ds fp x y d e Q R r px py h k
  cases d <;> cases e <;> first | exact False.elim h | skip
  · rw [px.int, py.int]
    exact .inl ⟨_, _, rfl, rfl, k _ _ _ _ _ h (.here r (.int _))⟩
  · rw [px.str, py.str]
    exact .inr (.inl ⟨_, _, rfl, rfl, h.1, k _ _ _ _ _ h.2 (.here r (.str _))⟩)
  · obtain ⟨a, vs, rfl, ha, ia⟩ := px.list
    obtain ⟨b, ws, rfl, hb, ib⟩ := py.list
    refine .inr (.inr (.inr ⟨a, b, vs, ws, rfl, rfl, ha, hb, by rw [ia.length, ib.length]; exact h.1, fun p hp => ?_⟩))
    exact k _ _ _ _ _ h.2 (.list r (ia.append ib) hp)
  · obtain ⟨a, vs, rfl, ha, ia, ta⟩ := px.tuple
    obtain ⟨b, ws, rfl, hb, ib, tb⟩ := py.tuple
    rename_i xs ys
    refine .inr (.inr (.inl ⟨a, b, vs, ws, rfl, rfl, ha, hb, by rw [ia.length, ib.length]; exact h.1, fun e => ?_, fun _ e => ?_, fun _ _ p hp => ?_⟩))
    · have : xs = [] := by
        have := ia.length; rw [e] at this; exact List.length_eq_zero_iff.mp this.symm
      subst this
      exact k _ _ _ _ _ h.2 (.here r tb)
    · have : ys = [] := by
        have := ib.length; rw [e] at this; exact List.length_eq_zero_iff.mp this.symm
      subst this
      have h2 : Q (.tmp (.tuple (xs ++ []))) := h.2
      rw [List.append_nil] at h2
      exact k _ _ _ _ _ h2 (.here r ta)
    · exact k _ _ _ _ _ h.2 (.tuple r (ia.append ib) hp)
@[simp] def dSub : D2
  | .int i, .int j, Q => Q (.tmp (.int (i - j)))
  | _, _, _ => False
theorem rok_sub : ROk K (rI0 fun i j => .int (i - j)) dSub := by
  intro F T σ H ds fp x y d e Q R r px py h k
  cases d <;> cases e <;> first | exact False.elim h | skip
  rw [px.int, py.int]
  exact ⟨_, _, rfl, rfl, k _ _ _ _ _ h (.here r (.int _))⟩
structure MulOk (i j : Int) : Prop where
  ok : IntMulOk i j
theorem MulOk.l {i j : Int} (h : -(2 ^ 64) < i ∧ i < 2 ^ 64) : MulOk i j := ⟨CMul.ok (.inl h)⟩
theorem MulOk.r {i j : Int} (h : -(2 ^ 64) < j ∧ j < 2 ^ 64) : MulOk i j := ⟨CMul.ok (.inr h)⟩
theorem MulOk.w {i j : Int} {a b : Nat} (ha : i.natAbs < 2 ^ a) (hb : j.natAbs < 2 ^ b) (h : a + b ≤ 900000) : MulOk i j := by
  have ha' : i.natAbs < 2 ^ (a + 1) := Nat.lt_of_lt_of_le ha (Nat.pow_le_pow_right (by decide) (by omega))
  have hb' : j.natAbs < 2 ^ (b + 1) := Nat.lt_of_lt_of_le hb (Nat.pow_le_pow_right (by decide) (by omega))
  exact ⟨CMulW.ok (wide_mul ha' hb' (by omega) (by omega) (by omega))⟩
@[simp] def dMul : D2
  | .int i, .int j, Q => MulOk i j ∧ Q (.tmp (.int (i * j)))
  | _, _, _ => False
theorem op_mulO : OpR X (binaryOp .Mult) (rI MulOk fun i j => .int (i * j)) := opI fun _ _ _ _ _ _ _ hc q => mul_int q hc.ok
/-- a new list, so many times -/
@[simp] def dRep (t u : DT) : DT := fun ds Q => t ds fun h1 ds1 => u ds1 fun h2 ds2 => match h1 with
  | .new (.own xs) => pk ds2 h2 fun d => match d with
    | .int k => (-(2 ^ 63) ≤ k ∧ k < 2 ^ 63 ∧ xs.length * k.toNat ≤ sizeLine) ∧ Q (.new (.own (List.replicate k.toNat xs).flatten)) ds2
    | _ => False
  | _ => False
theorem do_rep {a b : Expr} {ta tb : TE} {t u : DT} {pos : Pos} (ha : DO X a ta t) (hb : DO X b tb u) : DO X (.BinOp a .Mult b pos) (tOp rRep ta tb) (dRep t u) := ⟨pe_op op_rep ha.pe hb.pe, fun F T σ H ds fp Q R rp h k => by
  refine ha.ok F T σ H ds fp _ _ rp h fun h1 ds1 v1 H1 F1 fp1 q1 k1 p1 => ?_
  refine hb.ok F1 (T.or q1) σ H1 ds1 fp1 _ _ p1.rep k1 fun h2 ds2 v2 H2 F2 fp2 q2 k2 p2 => ?_
  cases h1 with
  | tmp _ => exact False.elim k2
  | slot _ => exact False.elim k2
  | fld _ _ _ => exact False.elim k2
  | new s =>
    cases s <;> first | exact False.elim k2 | skip
    obtain ⟨a, vs, e1, _, ha, ia⟩ := p1.r.keep p2.g fun a z => p2.t a (.inr z)
    cases e1
    obtain ⟨d, i, k3⟩ := pk_ok p2.rep p2.r k2
    cases d <;> first | exact False.elim k3 | skip
    rw [i.int]
    refine ⟨a, _, vs, rfl, rfl, ha, k3.1.1, k3.1.2.1, by rw [ia.length]; exact k3.1.2.2, fun p hp => ?_⟩
    exact k _ _ _ _ _ _ _ k3.2 ((Pst.list (p2.rep.less fun a z => .inl (.inl z)) (ia.rep _) hp).pre (p1.g.trans p2.g) fun a z => (p2.t a (.inl z)).trans (p1.t a z))⟩
structure DivOk (j : Int) : Prop where
  ne : j ≠ 0
  lg : j.natAbs.log2 < 9000
theorem DivOk.of {j : Int} {b : Nat} (h : j ≠ 0) (hb : j.natAbs < 2 ^ b) (hb9 : b < 9000) : DivOk j := ⟨h, by
  have h1 : j.natAbs < 2 ^ (b + 1) := Nat.lt_of_lt_of_le hb (Nat.pow_le_pow_right (by decide) (by omega))
  exact Nat.lt_of_lt_of_le (PySem.Flt.log2_lt_of (by omega) h1) (by omega)⟩
theorem op_fdivO : OpR X (binaryOp .FloorDiv) (rI (fun _ j => DivOk j) fun i j => .int (i.fdiv j)) := opI fun _ _ _ _ _ _ _ hc q => floordiv_int hc.1 q (.inl (PyProof.noPylong_of_log2 hc.2))
@[simp] def dFdiv : D2
  | .int i, .int j, Q => DivOk j ∧ Q (.tmp (.int (i.fdiv j)))
  | _, _, _ => False
theorem rok_fdiv : ROk K (rI (fun _ j => DivOk j) fun i j => .int (i.fdiv j)) dFdiv := by
  intro F T σ H ds fp x y d e Q R r px py h k
  cases d <;> cases e <;> first | exact False.elim h | skip
  rw [px.int, py.int]
  exact ⟨_, _, rfl, rfl, h.1, k _ _ _ _ _ h.2 (.here r (.int _))⟩
@[simp] def dMod : D2
  | .int i, .int j, Q => j ≠ 0 ∧ Q (.tmp (.int (i.fmod j)))
  | _, _, _ => False
theorem rok_mod : ROk K (rI (fun _ j => j ≠ 0) fun i j => .int (i.fmod j)) dMod := by
  intro F T σ H ds fp x y d e Q R r px py h k
  cases d <;> cases e <;> first | exact False.elim h | skip
  rw [px.int, py.int]
  exact ⟨_, _, rfl, rfl, h.1, k _ _ _ _ _ h.2 (.here r (.int _))⟩
@[simp] def dPow : D2
  | .int i, .int j, Q => CPow i j ∧ Q (.tmp (.int (i ^ j.toNat)))
  | _, _, _ => False
theorem rok_pow : ROk K (rI CPow fun i j => .int (i ^ j.toNat)) dPow := by
  intro F T σ H ds fp x y d e Q R r px py h k
  cases d <;> cases e <;> first | exact False.elim h | skip
  rw [px.int, py.int]
  exact ⟨_, _, rfl, rfl, h.1, k _ _ _ _ _ h.2 (.here r (.int _))⟩
@[simp] def dRel (p : Int → Int → Bool) : D2
  | .int i, .int j, Q => Q (.tmp (.bool (p i j)))
  | _, _, _ => False
theorem rok_rel {p : Int → Int → Bool} : ROk K (rI0 fun i j => .bl (p i j)) (dRel p) := by
  intro F T σ H ds fp x y d e Q R r px py h k
  cases d <;> cases e <;> first | exact False.elim h | skip
  rw [px.int, py.int]
  exact ⟨_, _, rfl, rfl, k _ _ _ _ _ h (.here r (.bl _))⟩
@[simp] def dLt : D2
  | .int i, .int j, Q => Q (.tmp (.bool (decide (i < j))))
  | .str i, .str j, Q => Q (.tmp (.bool (decide (i.cps.toList < j.cps.toList))))
  | _, _, _ => False
@[simp] def dLe : D2
  | .int i, .int j, Q => Q (.tmp (.bool (decide (i ≤ j))))
  | .str i, .str j, Q => Q (.tmp (.bool (!decide (j.cps.toList < i.cps.toList))))
  | _, _, _ => False
def rLtA : R2 := fun x y H Q => (∃ i j, x = .int i ∧ y = .int j ∧ Q (.bl (decide (i < j))) H) ∨ ∃ i j, x = .str i ∧ y = .str j ∧ Q (.bl (decide (i.cps.toList < j.cps.toList))) H
def rLeA : R2 := fun x y H Q => (∃ i j, x = .int i ∧ y = .int j ∧ Q (.bl (decide (i ≤ j))) H) ∨ ∃ i j, x = .str i ∧ y = .str j ∧ Q (.bl (!decide (j.cps.toList < i.cps.toList))) H
theorem op_ltA : OpR X (compareOp .Lt) rLtA := OpR.or op_lt op_lt_str
theorem op_leA : OpR X (compareOp .LtE) rLeA := OpR.or op_le op_le_str
theorem rok_lt : ROk K rLtA dLt := by
  intro F T σ H ds fp x y d e Q R r px py h k
  cases d <;> cases e <;> first | exact False.elim h | skip
  · rw [px.int, py.int]; exact .inl ⟨_, _, rfl, rfl, k _ _ _ _ _ h (.here r (.bl _))⟩
  · rw [px.str, py.str]; exact .inr ⟨_, _, rfl, rfl, k _ _ _ _ _ h (.here r (.bl _))⟩
theorem rok_le : ROk K rLeA dLe := by
  intro F T σ H ds fp x y d e Q R r px py h k
  cases d <;> cases e <;> first | exact False.elim h | skip
  · rw [px.int, py.int]; exact .inl ⟨_, _, rfl, rfl, k _ _ _ _ _ h (.here r (.bl _))⟩
  · rw [px.str, py.str]; exact .inr ⟨_, _, rfl, rfl, k _ _ _ _ _ h (.here r (.bl _))⟩
abbrev dGt : D2 := dRel fun i j => decide (j < i)
abbrev dGe : D2 := dRel fun i j => decide (j ≤ i)
/-- equality of data; texts and bools within need their form alone where no scalars are compared -/
@[simp] def dEqB (neg : Bool) : D2
  | .int i, .int j, Q => Q (.tmp (.bool (if neg then !decide (i = j) else decide (i = j))))
  | .str i, .str j, Q => Q (.tmp (.bool (if neg then !decide (i = j) else decide (i = j))))
  | .str _, .int _, Q => Q (.tmp (.bool neg))
  | .int _, .str _, Q => Q (.tmp (.bool neg))
  | .bool _, .str _, Q => Q (.tmp (.bool neg))
  | .str _, .bool _, Q => Q (.tmp (.bool neg))
  | .none, .str _, Q => Q (.tmp (.bool neg))
  | .str _, .none, Q => Q (.tmp (.bool neg))
  | d, e, Q => SeqAt.shaped d = true ∧ SeqAt.shaped e = true ∧ Q (.tmp (.bool (if neg then !PyData.eqv d e else PyData.eqv d e)))
abbrev dEq : D2 := dEqB false
abbrev dNe : D2 := dEqB true
def rEqA (K : PySem.W.Frag) : R2 := fun x y H Q => rEq x y H Q ∨ rEqD K x y H Q
def rNeA (K : PySem.W.Frag) : R2 := fun x y H Q => rNe x y H Q ∨ rNeD K x y H Q
theorem op_eqA (hu : X.A.units + 64 < cLine) : OpR X (compareOp .Eq) (rEqA X.K) := OpR.or op_eq (op_eqD hu)
theorem op_neA (hu : X.A.units + 64 < cLine) : OpR X (compareOp .NotEq) (rNeA X.K) := OpR.or op_ne (op_neD hu)
theorem dec_i {i j : Int} : decide (V.int i = V.int j) = decide (i = j) := by
  by_cases e : i = j
  · rw [e]; simp
  · rw [decide_eq_false e, decide_eq_false fun h => e (V.int.inj h)]
theorem dec_s {i j : Str} : decide (V.str i = V.str j) = decide (i = j) := by
  by_cases e : i = j
  · rw [e]; simp
  · rw [decide_eq_false e, decide_eq_false fun h => e (V.str.inj h)]
theorem shaped_nd {d : D} (h : SeqAt.shaped d = true) : PyData.hasDict d = false := PyData.hasDict_of_canLay d (SeqAt.canLay_of_shaped h)
theorem rok_eq : ROk K (rEqA K) dEq := by
  intro F T σ H ds fp x y d e Q R r px py h k
  have dflt : (SeqAt.shaped d = true ∧ SeqAt.shaped e = true ∧ Q (.tmp (.bool (PyData.eqv d e)))) → rEqA K x y H R := fun h =>
    .inr ⟨d, e, px.is.dp _ (shaped_nd h.1), py.is.dp _ (shaped_nd h.2.1), h.1, h.2.1, k _ _ _ _ _ h.2.2 (.here r (.bl _))⟩
  cases d <;> cases e <;> first | exact dflt h | skip
  · rw [px.none, py.str]; exact .inl ⟨rfl, k _ _ _ _ _ h (.here r (.bl _))⟩
  · rw [px.bool, py.str]; exact .inl ⟨rfl, k _ _ _ _ _ h (.here r (.bl _))⟩
  · rw [px.int, py.int]; exact .inl ⟨rfl, by rw [dec_i]; exact k _ _ _ _ _ h (.here r (.bl _))⟩
  · rw [px.int, py.str]; exact .inl ⟨rfl, k _ _ _ _ _ h (.here r (.bl _))⟩
  · rw [px.str, py.none]; exact .inl ⟨rfl, k _ _ _ _ _ h (.here r (.bl _))⟩
  · rw [px.str, py.bool]; exact .inl ⟨rfl, k _ _ _ _ _ h (.here r (.bl _))⟩
  · rw [px.str, py.int]; exact .inl ⟨rfl, k _ _ _ _ _ h (.here r (.bl _))⟩
  · rw [px.str, py.str]; exact .inl ⟨rfl, by rw [dec_s]; exact k _ _ _ _ _ h (.here r (.bl _))⟩
theorem rok_ne : ROk K (rNeA K) dNe := by
  intro F T σ H ds fp x y d e Q R r px py h k
  have dflt : (SeqAt.shaped d = true ∧ SeqAt.shaped e = true ∧ Q (.tmp (.bool (!PyData.eqv d e)))) → rNeA K x y H R := fun h =>
    .inr ⟨d, e, px.is.dp _ (shaped_nd h.1), py.is.dp _ (shaped_nd h.2.1), h.1, h.2.1, k _ _ _ _ _ h.2.2 (.here r (.bl _))⟩
  cases d <;> cases e <;> first | exact dflt h | skip
  · rw [px.none, py.str]; exact .inl ⟨rfl, k _ _ _ _ _ h (.here r (.bl _))⟩
  · rw [px.bool, py.str]; exact .inl ⟨rfl, k _ _ _ _ _ h (.here r (.bl _))⟩
  · rw [px.int, py.int]; exact .inl ⟨rfl, by rw [dec_i]; exact k _ _ _ _ _ h (.here r (.bl _))⟩
  · rw [px.int, py.str]; exact .inl ⟨rfl, k _ _ _ _ _ h (.here r (.bl _))⟩
  · rw [px.str, py.none]; exact .inl ⟨rfl, k _ _ _ _ _ h (.here r (.bl _))⟩
  · rw [px.str, py.bool]; exact .inl ⟨rfl, k _ _ _ _ _ h (.here r (.bl _))⟩
  · rw [px.str, py.int]; exact .inl ⟨rfl, k _ _ _ _ _ h (.here r (.bl _))⟩
  · rw [px.str, py.str]; exact .inl ⟨rfl, by rw [dec_s]; exact k _ _ _ _ _ h (.here r (.bl _))⟩
/-- is None -/
@[simp] def isNone : D → Bool
  | .none => true
  | _ => false
@[simp] def dIsN (neg : Bool) : D2
  | d, .none, Q => Q (.tmp (.bool (if neg then !isNone d else isNone d)))
  | _, _, _ => False
theorem is_non {R : Hp} {v : V} {d : D} (h : Is K R v d) : decide (v = .non) = isNone d := by
  cases h <;> rfl
theorem rok_isN : ROk K (fun x y H Q => y = .non ∧ Q (.bl (decide (x = .non))) H) (dIsN false) := by
  intro F T σ H ds fp x y d e Q R r px py h k
  cases e with
  | none =>
    refine ⟨py.none, ?_⟩
    rw [is_non px.is]
    cases d <;> exact k _ _ _ _ _ h (.here r (.bl _))
  | _ => exact False.elim (by cases d <;> exact h)
theorem rok_notN : ROk K (fun x y H Q => y = .non ∧ Q (.bl (!decide (x = .non))) H) (dIsN true) := by
  intro F T σ H ds fp x y d e Q R r px py h k
  cases e with
  | none =>
    refine ⟨py.none, ?_⟩
    rw [is_non px.is]
    cases d <;> exact k _ _ _ _ _ h (.here r (.bl _))
  | _ => exact False.elim (by cases d <;> exact h)
@[simp] def dIsB (neg : Bool) : D2
  | .bool a, .bool b, Q => Q (.tmp (.bool (if neg then !decide (a = b) else decide (a = b))))
  | _, _, _ => False
/-- in, not in: a flat thing among flat things; one sign in a text -/
def flatD : D → Bool
  | .none => true
  | .bool _ => true
  | .int _ => true
  | .str _ => true
  | _ => false
def inD (d : D) (xs : List D) : Bool := xs.any fun y => PyData.eqv y d
def dIn (neg : Bool) : D2
  | .str a, .str b, Q => a.cps.size = 1 ∧ Q (.tmp (.bool (if neg then !decide (a.cps.getD 0 0 ∈ b.cps.toList) else decide (a.cps.getD 0 0 ∈ b.cps.toList))))
  | d, .list xs, Q => flatD d = true ∧ xs.all flatD = true ∧ Q (.tmp (.bool (if neg then !inD d xs else inD d xs)))
  | d, .tuple xs, Q => flatD d = true ∧ xs.all flatD = true ∧ Q (.tmp (.bool (if neg then !inD d xs else inD d xs)))
  | _, _, _ => False
theorem flat_of {R : Hp} : ∀ {v : V} {d : D}, Is K R v d → flatD d = true → flatV v = true
  | _, .none, h, _ => by cases h; rfl
  | _, .bool _, h, _ => by cases h; rfl
  | _, .int _, h, _ => by cases h; rfl
  | _, .str _, h, _ => by cases h; rfl
  | _, .list _, _, f => by cases f
  | _, .tuple _, _, f => by cases f
  | _, .dict _, _, f => by cases f
theorem eqv_of {R R' : Hp} {v w : V} {d e : D} (h : Is K R v d) (g : Is K R' w e) (f : flatD d = true) (f' : flatD e = true) : eqV v w = PyData.eqv d e := by
  cases d <;> first | cases f | skip
  all_goals cases e <;> first | cases f' | skip
  all_goals cases h <;> cases g <;> rfl
theorem flats_of {R : Hp} : ∀ {vs : List V} {ds : List D}, IsA K R vs ds → ds.all flatD = true → vs.all flatV = true
  | _, [], h, _ => by cases h; rfl
  | _, d :: ds, h, f => by
    cases h with
    | cons h1 h2 =>
      rw [List.all_cons, Bool.and_eq_true] at f ⊢
      exact ⟨flat_of h1 f.1, flats_of h2 f.2⟩
theorem inV_of {R R' : Hp} {v : V} {d : D} (g : Is K R' v d) (f' : flatD d = true) : ∀ {vs : List V} {ds : List D}, IsA K R vs ds → ds.all flatD = true → inV v vs = inD d ds
  | _, [], h, _ => by cases h; rfl
  | _, e :: ds, h, f => by
    cases h with
    | cons h1 h2 =>
      rw [List.all_cons, Bool.and_eq_true] at f
      have ih : inV v _ = inD d ds := inV_of g f' h2 f.2
      show (eqV _ v || _) = (PyData.eqv e d || _)
      rw [eqv_of h1 g f.1 f']
      exact congrArg _ ih
def rInA (K : PySem.W.Frag) (neg : Bool) : R2 := fun x y H Q => rIn K neg x y H Q ∨ ∃ (c : Nat) (z : Str), x = .str ⟨#[c]⟩ ∧ y = .str z ∧ Q (.bl (if neg then !decide (c ∈ z.cps.toList) else decide (c ∈ z.cps.toList))) H
theorem op_inA : OpR X (compareOp .In) (rInA X.K false) := OpR.or op_in_seq op_in_sign
theorem op_notInA : OpR X (compareOp .NotIn) (rInA X.K true) := OpR.or op_notIn_seq op_notIn_sign
theorem rok_in {neg : Bool} : ROk K (rInA K neg) (dIn neg) := by
  intro F T σ H ds fp x y d e Q R r px py h k
  have seq : ∀ {xs : List D} {a : Addr} {vs : List V}, y = .ref a → (SqL K H a vs ∨ SqT K H a vs) → IsA K (res F H) vs xs → (flatD d = true ∧ xs.all flatD = true ∧ Q (.tmp (.bool (if neg then !inD d xs else inD d xs)))) → rInA K neg x y H R := fun {xs a vs} e1 e2 e3 h => by
    refine .inl ⟨a, vs, e1, e2, flat_of px.is h.1, flats_of e3 h.2.1, ?_⟩
    rw [inV_of px.is h.1 e3 h.2.1]
    exact k _ _ _ _ _ h.2.2 (.here r (.bl _))
  cases e with
  | list xs =>
    obtain ⟨a, vs, e1, e2, e3⟩ := py.list
    exact seq e1 (.inl e2.sq) e3 (by cases d <;> exact h)
  | tuple xs =>
    obtain ⟨a, vs, e1, e2, e3, _⟩ := py.tuple
    exact seq e1 (.inr e2) e3 (by cases d <;> exact h)
  | str b =>
    cases d <;> first | exact False.elim h | skip
    rename_i a
    obtain ⟨h1, h2⟩ := h
    rw [px.str, py.str]
    obtain ⟨⟨l⟩⟩ := a
    match l, h1, h2 with
    | [c], _, h2 => exact .inr ⟨c, b, rfl, rfl, k _ _ _ _ _ h2 (.here r (.bl _))⟩
  | _ => cases d <;> exact False.elim h
end
end DL
namespace DL
open PySem PySem.Spec PyProof.Rows L2
def BTOk (K : PySem.W.Frag) (tt : TT) (t : DTT) : Prop :=
  ∀ (F T : Ad) (σ : Sl) (H : Hp) (ds : DS) (fp : Nat → Ad) (Q : Bool → DS → Prop) (R : Bool → Hp → Prop), Rep K F T σ H ds fp → t ds Q →
    (∀ b ds' H' F' fp', Q b ds' → Rep K F' T σ H' ds' fp' → Grow F H F' H' → (∀ a, T a → H' a = H a) → R b H') → tt σ H R
structure DB (X : Cx) (e : Expr) (tt : TT) (t : DTT) : Prop where
  pt : PT X e tt
  ok : BTOk X.K tt t
structure DW (X : Cx) (e : Expr) (tt : TT) (t : DTT) : Prop where
  pw : PW X e tt
  ok : BTOk X.K tt t
theorem Pst.bool {K : PySem.W.Frag} {F T : Ad} {σ : Sl} {H : Hp} {ds : DS} {fp : Nat → Ad} {b : Bool} (r : Rep K F T σ H ds fp) : Pst K F T H σ (.bl b) (.tmp (.bool b)) ds F H fp Ad.nil := .here r (Is.bl b)
theorem Pst.int {K : PySem.W.Frag} {F T : Ad} {σ : Sl} {H : Hp} {ds : DS} {fp : Nat → Ad} {b : Int} (r : Rep K F T σ H ds fp) : Pst K F T H σ (.int b) (.tmp (.int b)) ds F H fp Ad.nil := .here r (Is.int b)
@[simp] def hB : Hd → (Bool → Prop) → Prop
  | .tmp (.bool b), P => P b
  | _, _ => False
/-- the truth of what is a bool -/
@[simp] def bT (t : DT) : DTT := fun ds Q => t ds fun h ds1 => pk ds1 h fun d => match d with
  | .bool b => Q b ds1
  | _ => False
@[simp] def bAnd (t u : DTT) : DTT := fun ds Q => t ds fun b ds1 => if b = true then u ds1 Q else Q false ds1
@[simp] def bOr (t u : DTT) : DTT := fun ds Q => t ds fun b ds1 => if b = true then Q true ds1 else u ds1 Q
@[simp] def bNot (t : DTT) : DTT := fun ds Q => t ds fun b ds1 => Q (!b) ds1
@[simp] def dAnd (t u : DT) : DT := fun ds Q => bT t ds fun b ds1 => if b = true then u ds1 Q else Q (.tmp (.bool false)) ds1
@[simp] def dOr (t u : DT) : DT := fun ds Q => bT t ds fun b ds1 => if b = true then Q (.tmp (.bool true)) ds1 else u ds1 Q
@[simp] def dNot (t : DT) : DT := fun ds Q => bT t ds fun b ds1 => Q (.tmp (.bool (!b))) ds1
@[simp] def dIf (c : DTT) (t u : DT) : DT := fun ds Q => c ds fun b ds1 => if b = true then t ds1 Q else u ds1 Q
section
variable {X : Cx} {K : PySem.W.Frag} {a b c : Expr} {rest : List Expr} {ta tb tc : TE} {t u w : DT} {tt tt' : TT} {p p' : DTT} {pos : Pos} {r r' : R2} {op op' : D2}
theorem bt_val (h : EOk K ta t) : BTOk K (tB ta) (bT t) := fun F T σ H ds fp Q R rp e k => by
  refine h F T σ H ds fp _ _ rp e fun h1 ds1 v1 H1 F1 fp1 q1 k1 p1 => ?_
  obtain ⟨d, i, k2⟩ := pk_ok p1.rep p1.r k1
  cases d <;> first | exact False.elim k2 | skip
  exact ⟨_, i.bool, k _ _ _ _ fp1 k2 (p1.rep.less fun _ z => .inl z) p1.g p1.t⟩
theorem db_val (h : DO X a ta t) (he : ∀ whole, isTrue a X.env whole = (do let v ← whole; standAt a.pos; holding [v] (truthy v)) := by intro _; rfl) : DB X a (tB ta) (bT t) := ⟨pt_val h.pe he, bt_val h.ok⟩
theorem db_cmp {o : CmpOp} (ho : OpR X (compareOp o) r) (hr : ROk X.K r op) (ha : DO X a ta t) (hb : DO X b tb u) (hm : behindInMarks o b = false := by first | exact nomark _ | rfl) : DB X (.Compare a [o] [b] pos) (tTest (tOp r ta tb)) (bT (d2 op t u)) :=
  ⟨pt_cmpR ho ha.pe hb.pe hm, bt_val (eok_2 ha.ok hb.ok hr)⟩
theorem bt_not (h : BTOk K tt p) : BTOk K (tNot tt) (bNot p) := fun F T σ H ds fp Q R rp e k =>
  h F T σ H ds fp _ _ rp e fun b ds1 H1 F1 fp1 k1 r1 g1 t1 => k _ _ _ _ _ k1 r1 g1 t1
theorem bt_and (h : BTOk K tt p) (h' : BTOk K tt' p') : BTOk K (tAnd tt tt') (bAnd p p') := fun F T σ H ds fp Q R rp e k =>
  h F T σ H ds fp _ _ rp e fun b ds1 H1 F1 fp1 k1 r1 g1 t1 => by
    cases b with
    | true => exact h' F1 T σ H1 ds1 fp1 Q R r1 k1 fun b ds2 H2 F2 fp2 k2 r2 g2 t2 => k _ _ _ _ _ k2 r2 (g1.trans g2) fun a z => (t2 a z).trans (t1 a z)
    | false => exact k _ _ _ _ _ k1 r1 g1 t1
theorem bt_or (h : BTOk K tt p) (h' : BTOk K tt' p') : BTOk K (tOr tt tt') (bOr p p') := fun F T σ H ds fp Q R rp e k =>
  h F T σ H ds fp _ _ rp e fun b ds1 H1 F1 fp1 k1 r1 g1 t1 => by
    cases b with
    | false => exact h' F1 T σ H1 ds1 fp1 Q R r1 k1 fun b ds2 H2 F2 fp2 k2 r2 g2 t2 => k _ _ _ _ _ k2 r2 (g1.trans g2) fun a z => (t2 a z).trans (t1 a z)
    | true => exact k _ _ _ _ _ k1 r1 g1 t1
theorem db_not (h : DB X a tt p) : DB X (.UnaryOp .Not a pos) (tNot tt) (bNot p) := ⟨pt_not h.pt, bt_not h.ok⟩
theorem dw_and1 (h : DB X a tt p) : DW X (.BoolOp .And [a] pos) tt p := ⟨pw_and1 h.pt, h.ok⟩
theorem dw_or1 (h : DB X a tt p) : DW X (.BoolOp .Or [a] pos) tt p := ⟨pw_or1 h.pt, h.ok⟩
theorem dw_and (h : DB X a tt p) (h' : DW X (.BoolOp .And (b :: rest) pos) tt' p') : DW X (.BoolOp .And (a :: b :: rest) pos) (tAnd tt tt') (bAnd p p') := ⟨pw_and h.pt h'.pw, bt_and h.ok h'.ok⟩
theorem dw_or (h : DB X a tt p) (h' : DW X (.BoolOp .Or (b :: rest) pos) tt' p') : DW X (.BoolOp .Or (a :: b :: rest) pos) (tOr tt tt') (bOr p p') := ⟨pw_or h.pt h'.pw, bt_or h.ok h'.ok⟩
theorem DW.db (h : DW X a tt p) : DB X a tt p := ⟨h.pw.pt, h.ok⟩
theorem eok_and (h : EOk K ta t) (h' : EOk K tb u) : EOk K (tAndV ta tb) (dAnd t u) := fun F T σ H ds fp Q R rp e k =>
  bt_val h F T σ H ds fp _ _ rp e fun b ds1 H1 F1 fp1 k1 r1 g1 t1 => by
    cases b with
    | true =>
      show tb σ H1 R
      exact h' F1 T σ H1 ds1 fp1 Q R r1 k1 fun h ds2 v2 H2 F2 fp2 q2 k2 p2 => k _ _ _ _ _ _ _ k2 (p2.pre g1 t1)
    | false => exact k _ _ _ _ _ _ _ k1 ((Pst.bool r1).pre g1 t1)
theorem eok_not (h : EOk K ta t) : EOk K (tNotV ta) (dNot t) := fun F T σ H ds fp Q R rp e k =>
  bt_val h F T σ H ds fp _ _ rp e fun b ds1 H1 F1 fp1 k1 r1 g1 t1 => k _ _ _ _ _ _ _ k1 ((Pst.bool r1).pre g1 t1)
theorem eok_if (h : BTOk K tt p) (h1 : EOk K ta t) (h2 : EOk K tb u) : EOk K (tIf tt ta tb) (dIf p t u) := fun F T σ H ds fp Q R rp e k =>
  h F T σ H ds fp _ _ rp e fun b ds1 H1 F1 fp1 k1 r1 g1 t1 => by
    cases b with
    | true => exact h1 F1 T σ H1 ds1 fp1 Q R r1 k1 fun h ds2 v2 H2 F2 fp2 q2 k2 p2 => k _ _ _ _ _ _ _ k2 (p2.pre g1 t1)
    | false => exact h2 F1 T σ H1 ds1 fp1 Q R r1 k1 fun h ds2 v2 H2 F2 fp2 q2 k2 p2 => k _ _ _ _ _ _ _ k2 (p2.pre g1 t1)
theorem do_one {o} (h : DO X a ta t) : DO X (.BoolOp o [a] pos) ta t := ⟨pe_one h.pe, h.ok⟩
theorem do_and (h : DO X a ta t) (h' : DO X (.BoolOp .And (b :: rest) pos) tb u) : DO X (.BoolOp .And (a :: b :: rest) pos) (tAndV ta tb) (dAnd t u) := ⟨pe_and h.pe h'.pe, eok_and h.ok h'.ok⟩
theorem do_not (h : DO X a ta t) : DO X (.UnaryOp .Not a pos) (tNotV ta) (dNot t) := ⟨pe_not h.pe, eok_not h.ok⟩
theorem do_ifx (h : DB X c tt p) (h1 : DO X a ta t) (h2 : DO X b tb u) : DO X (.IfExp c a b pos) (tIf tt ta tb) (dIf p t u) := ⟨pe_ifExp h.pt h1.pe h2.pe, eok_if h.ok h1.ok h2.ok⟩
@[simp] def dChain (op op' : D2) (t u w : DT) : DT := fun ds Q => t ds fun h1 ds1 => u ds1 fun h2 ds2 => pk ds2 h1 fun d1 => pk ds2 h2 fun e => op d1 e fun h => hB h fun k =>
  if k = true then w ds2 fun h3 ds3 => pk ds3 h2 fun e' => pk ds3 h3 fun f => op' e' f fun h => Q h ds3 else Q (.tmp (.bool false)) ds2
theorem eok_chain (ha : EOk K ta t) (hb : EOk K tb u) (hc : EOk K tc w) (hr : ROk K r op) (hr' : ROk K r' op') : EOk K (tChain r r' ta tb tc) (dChain op op' t u w) := fun F T σ H ds fp Q R rp e k => by
  refine ha F T σ H ds fp _ _ rp e fun h1 ds1 v1 H1 F1 fp1 q1 k1 p1 => ?_
  refine hb F1 (T.or q1) σ H1 ds1 fp1 _ _ p1.rep k1 fun h2 ds2 v2 H2 F2 fp2 q2 k2 p2 => ?_
  obtain ⟨d1, i1, k3⟩ := pk_ok p2.rep (p1.r.keep p2.g fun a z => p2.t a (.inr z)) k2
  obtain ⟨e1, i2, k4⟩ := pk_ok p2.rep p2.r k3
  refine hr F2 ((T.or q1).or q2) σ H2 ds2 fp2 _ _ _ _ _ _ p2.rep i1 i2 k4 fun h v H3 F3 q3 k5 p3 => ?_
  have T2 : ∀ a, T a → H3 a = H a := fun a z => (p3.t a (.inl (.inl z))).trans ((p2.t a (.inl z)).trans (p1.t a z))
  have G2 := (p1.g.trans p2.g).trans p3.g
  cases h with
  | tmp d =>
    cases d <;> first | exact False.elim k5 | skip
    rename_i b
    obtain rfl : v = .bl b := by have := p3.r; cases (show Is K _ v (.bool b) from this); rfl
    refine ⟨b, rfl, ?_⟩
    cases b with
    | false => exact k _ _ _ _ _ _ _ k5 ((Pst.bool (p3.rep.less fun a z => .inl (.inl (.inl z)))).pre G2 T2)
    | true =>
      show tc σ H3 fun w' H4 => r' v2 w' H4 R
      refine hc F3 (((T.or q1).or q2).or q3) σ H3 ds2 fp2 _ _ p3.rep k5 fun h3 ds4 v4 H4 F4 fp4 q4 k6 p4 => ?_
      obtain ⟨e2, i3, k7⟩ := pk_ok p4.rep ((p2.r.keep p3.g fun a z => p3.t a (.inr z)).keep p4.g fun a z => p4.t a (.inl (.inr z))) k6
      obtain ⟨f2, i4, k8⟩ := pk_ok p4.rep p4.r k7
      refine hr' F4 T σ H4 ds4 fp4 _ _ _ _ _ _ (p4.rep.less fun a z => .inl (.inl (.inl (.inl z)))) i3 i4 k8 fun h v H5 F5 q5 k9 p5 => ?_
      exact k _ _ _ _ _ _ _ k9 (p5.pre (G2.trans p4.g) fun a z => (p4.t a (.inl (.inl (.inl z)))).trans (T2 a z))
  | slot _ => exact False.elim k5
  | fld _ _ _ => exact False.elim k5
  | new _ => exact False.elim k5
theorem do_chain {o o' : CmpOp} (ho : OpR X (compareOp o) r) (hr : ROk X.K r op) (ho' : OpR X (compareOp o') r') (hr' : ROk X.K r' op') (ha : DO X a ta t) (hb : DO X b tb u) (hc : DO X c tc w)
    (hm : lastMarks [o, o'] [b, c] = false := by with_unfolding_all rfl) : DO X (.Compare a [o, o'] [b, c] pos) (tChain r r' ta tb tc) (dChain op op' t u w) := ⟨pe_chain ho ho' ha.pe hb.pe hc.pe hm, eok_chain ha.ok hb.ok hc.ok hr hr'⟩
abbrev D1 := D → (Hd → Prop) → Prop
def UOk (K : PySem.W.Frag) (r : V → Hp → VK → Prop) (op : D1) : Prop :=
  ∀ (F T : Ad) (σ : Sl) (H : Hp) (ds : DS) (fp : Nat → Ad) (x : V) (d : D) (Q : Hd → Prop) (R : VK), Rep K F T σ H ds fp → PkR K F H x d → op d Q →
    (∀ h v H' F' q, Q h → Pst K F T H σ v h ds F' H' fp q → R v H') → r x H R
@[simp] def d1 (op : D1) (t : DT) : DT := fun ds Q => t ds fun h1 ds1 => pk ds1 h1 fun d => op d fun h => Q h ds1
theorem eok_1 {r : V → Hp → VK → Prop} {op : D1} (ha : EOk K ta t) (hr : UOk K r op) : EOk K (tUn r ta) (d1 op t) := fun F T σ H ds fp Q R rp e k => by
  refine ha F T σ H ds fp _ _ rp e fun h1 ds1 v1 H1 F1 fp1 q1 k1 p1 => ?_
  obtain ⟨d, i, k2⟩ := pk_ok p1.rep p1.r k1
  exact hr F1 T σ H1 ds1 fp1 _ _ _ _ (p1.rep.less fun _ z => .inl z) i k2 fun h v H2 F2 q qh p => k _ _ _ _ _ _ _ qh (p.pre p1.g p1.t)
@[simp] def dNeg : D1
  | .int i, Q => Q (.tmp (.int (-i)))
  | _, _ => False
theorem uok_neg : UOk K (rU fun i => .int (-i)) dNeg := by
  intro F T σ H ds fp x d Q R rp px h k
  cases d <;> first | exact False.elim h | skip
  rw [px.int]
  exact ⟨_, rfl, k _ _ _ _ _ h (.here rp (.int _))⟩
theorem do_un {o : UnaryOp} {r : V → Hp → VK → Prop} {op : D1} (ho : UnR X (unaryOp o) r) (hr : UOk X.K r op) (ha : DO X a ta t) : DO X (.UnaryOp o a pos) (tUn r ta) (d1 op t) := ⟨pe_un ho ha.pe, eok_1 ha.ok hr⟩
@[simp] def dIx : D2
  | .list xs, .int i, Q => match atI xs i with
    | some d => Q (.tmp d)
    | none => False
  | .tuple xs, .int i, Q => match atI xs i with
    | some d => Q (.tmp d)
    | none => False
  | .str z, .int i, Q => z.length ≤ sizeLine ∧ match atI z.cps.toList i with
    | some c => Q (.tmp (.str ⟨#[c]⟩))
    | none => False
  | _, _, _ => False
theorem atI_is {R : Hp} {vs : List V} {xs : List D} {i : Int} {d : D} (h : IsA K R vs xs) (e : atI xs i = some d) : ∃ v, atI vs i = some v ∧ Is K R v d := by
  unfold atI at e ⊢
  rw [h.length]
  cases q : ixN xs.length i with
  | none => rw [q] at e; cases e
  | some j =>
    rw [q] at e
    exact h.get e
theorem rok_ix : ROk K (rIx K) dIx := by
  intro F T σ H ds fp x y d e Q R r px py h k
  cases d <;> cases e <;> first | exact False.elim h | skip
  · rename_i z i
    obtain ⟨h1, h2⟩ := h
    cases q : atI z.cps.toList i with
    | none => rw [q] at h2; exact h2.elim
    | some c =>
      rw [q] at h2
      rw [px.str, py.int]
      exact .inr (.inr ⟨z, i, c, rfl, rfl, h1, q, k _ _ _ _ _ h2 (.here r (.str _))⟩)
  · rename_i xs i
    have h' : (match atI xs i with | some d => Q (.tmp d) | none => False) := h
    cases q : atI xs i with
    | none => rw [q] at h'; exact h'.elim
    | some d =>
      rw [q] at h'
      obtain ⟨a, vs, rfl, ha, ia⟩ := px.list
      obtain ⟨v, e1, iv⟩ := atI_is ia q
      rw [py.int]
      exact .inl ⟨a, vs, i, v, rfl, rfl, ha.sq, e1, k _ _ _ _ _ h' (.here r iv)⟩
  · rename_i xs i
    have h' : (match atI xs i with | some d => Q (.tmp d) | none => False) := h
    cases q : atI xs i with
    | none => rw [q] at h'; exact h'.elim
    | some d =>
      rw [q] at h'
      obtain ⟨a, vs, rfl, ha, ia, _⟩ := px.tuple
      obtain ⟨v, e1, iv⟩ := atI_is ia q
      rw [py.int]
      exact .inr (.inl ⟨a, vs, i, v, rfl, rfl, ha, e1, k _ _ _ _ _ h' (.here r iv)⟩)
theorem do_ix (ha : DO X a ta t) (hb : DO X b tb u) (hs : PlainIx b := by exact fun _ _ => rfl) : DO X (.Subscript a b pos) (tOp (rIx X.K) ta tb) (d2 dIx t u) := ⟨pe_ix ix_seq ha.pe hb.pe hs, eok_2 ha.ok hb.ok rok_ix⟩
end
end DL
namespace DL
open PySem PySem.Spec PyProof.Rows L2
theorem Pst.is {K : PySem.W.Frag} {F T : Ad} {σ : Sl} {H : Hp} {ds : DS} {fp : Nat → Ad} {v : V} {d : D} (r : Rep K F T σ H ds fp) (i : Is K (res F H) v d) : Pst K F T H σ v (.tmp d) ds F H fp Ad.nil := .here r i
abbrev DPT := DS → (Option Int → DS → Prop) → Prop
def POk (K : PySem.W.Frag) (to : TO) (p : DPT) : Prop :=
  ∀ (F T : Ad) (σ : Sl) (H : Hp) (ds : DS) (fp : Nat → Ad) (Q : Option Int → DS → Prop) (R : Option Int → Hp → Prop), Rep K F T σ H ds fp → p ds Q →
    (∀ b ds' H' F' fp', Q b ds' → Rep K F' T σ H' ds' fp' → Grow F H F' H' → (∀ a, T a → H' a = H a) → R b H') → to σ H R
structure DP (X : Cx) (e : Option Expr) (to : TO) (p : DPT) : Prop where
  po : PO X e to
  ok : POk X.K to p
@[simp] def pNone : DPT := fun ds Q => Q none ds
@[simp] def pSome (t : DT) : DPT := fun ds Q => t ds fun h ds1 => pk ds1 h fun d => match d with
  | .int i => Q (some i) ds1
  | _ => False
def cutD {α : Type} (xs : List α) (lo hi : Option Int) : List α := (xs.drop (HT.sIx xs.length 0 lo)).take (HT.sIx xs.length xs.length hi - HT.sIx xs.length 0 lo)
@[simp] def dCut : D → Option Int → Option Int → (Hd → Prop) → Prop
  | .list xs, l, u, Q => Q (.new (.own (cutD xs l u)))
  | .tuple xs, l, u, Q => Q (.tmp (.tuple (cutD xs l u)))
  | .str z, l, u, Q => z.length ≤ sizeLine ∧ Q (.tmp (.str (cutS z l u)))
  | _, _, _, _ => False
@[simp] def dSl (t : DT) (p p' : DPT) : DT := fun ds Q => t ds fun h ds1 => p ds1 fun l ds2 => p' ds2 fun u ds3 => pk ds3 h fun d => dCut d l u fun h => Q h ds3
def rSlAll (K : PySem.W.Frag) : V → Option Int → Option Int → Hp → VK → Prop := fun x lo hi H Q => rSlL K x lo hi H Q ∨ (rSlA K x lo hi H Q ∨ rSlS x lo hi H Q)
section
variable {X : Cx} {K : PySem.W.Frag} {a b c e : Expr} {lo hi : Option Expr} {es : List Expr} {ta tb te : TE} {tl th : TO} {t u : DT} {p p' : DPT} {pos p2 : Pos}
theorem dp_none : DP X none tNoPart pNone := ⟨po_none, fun F T σ H ds fp Q R r h k => k _ _ _ _ _ h r .refl fun _ _ => rfl⟩
theorem dp_some (h : DO X e te t) : DP X (some e) (tPart te) (pSome t) := ⟨po_some h.pe, fun F T σ H ds fp Q R r h' k => by
  refine h.ok F T σ H ds fp _ _ r h' fun h1 ds1 v1 H1 F1 fp1 q1 k1 p1 => ?_
  obtain ⟨d, i, k2⟩ := pk_ok p1.rep p1.r k1
  cases d <;> first | exact False.elim k2 | skip
  exact ⟨_, i.int, k _ _ _ _ fp1 k2 (p1.rep.less fun _ z => .inl z) p1.g p1.t⟩⟩
theorem sl_all : SlR X (rSlAll X.K) := sl_list.or (sl_tupA.or sl_str)
theorem sIx_whole {α : Type} {xs : List α} {lo hi : Option Int} (h : HT.sIx xs.length 0 lo = 0 ∧ HT.sIx xs.length xs.length hi = xs.length) : cutD xs lo hi = xs := by
  unfold cutD
  rw [h.1, h.2]
  simp
theorem IsA.cut {R : Hp} {vs : List V} {xs : List D} {lo hi : Option Int} (h : IsA K R vs xs) : IsA K R (cutV vs lo hi) (cutD xs lo hi) := by
  unfold cutV cutD
  rw [h.length]
  exact (h.drop _).take _
theorem eok_sl (h : EOk K ta t) (h1 : POk K tl p) (h2 : POk K th p') : EOk K (tSl (rSlAll K) ta tl th) (dSl t p p') := fun F T σ H ds fp Q R r e k => by
  refine h F T σ H ds fp _ _ r e fun h1' ds1 v1 H1 F1 fp1 q1 k1 p1 => ?_
  refine h1 F1 (T.or q1) σ H1 ds1 fp1 _ _ p1.rep k1 fun l ds2 H2 F2 fp2 k2 r2 g2 t2 => ?_
  refine h2 F2 (T.or q1) σ H2 ds2 fp2 _ _ r2 k2 fun u ds3 H3 F3 fp3 k3 r3 g3 t3 => ?_
  obtain ⟨d, i, k4⟩ := pk_ok r3 ((p1.r.keep g2 fun a z => t2 a (.inr z)).keep g3 fun a z => t3 a (.inr z)) k3
  have G : Grow F H F3 H3 := (p1.g.trans g2).trans g3
  have TT : ∀ a, T a → H3 a = H a := fun a z => (t3 a (.inl z)).trans ((t2 a (.inl z)).trans (p1.t a z))
  have r4 : Rep K F3 T σ H3 ds3 fp3 := r3.less fun _ z => .inl z
  cases d <;> first | exact False.elim k4 | skip
  · rename_i z
    rw [i.str]
    exact .inr (.inr ⟨z, rfl, k4.1, k _ _ _ _ _ _ _ k4.2 ((Pst.is r4 (Is.str _)).pre G TT)⟩)
  · obtain ⟨a, vs, rfl, ha, ia⟩ := i.list
    exact .inl ⟨a, vs, rfl, ha.sq, fun q hq => k _ _ _ _ _ _ _ k4 ((Pst.list r4 ia.cut hq).pre G TT)⟩
  · rename_i xs
    obtain ⟨a, vs, rfl, ha, ia, it⟩ := i.tuple
    refine .inr (.inl ⟨a, vs, rfl, ha, fun w => ?_, fun _ q hq => k _ _ _ _ _ _ _ k4 ((Pst.tuple r4 ia.cut hq).pre G TT)⟩)
    rw [ia.length] at w
    have k5 : Q (.tmp (.tuple (cutD xs l u))) ds3 := k4
    rw [sIx_whole w] at k5
    exact k _ _ _ _ _ _ _ k5 ((Pst.is r4 it).pre G TT)
theorem do_sl (h : DO X e te t) (h1 : DP X lo tl p) (h2 : DP X hi th p') : DO X (.Subscript e (.Slice lo hi none p2) pos) (tSl (rSlAll X.K) te tl th) (dSl t p p') := ⟨pe_slice sl_all h.pe h1.po h2.po, eok_sl h.ok h1.ok h2.ok⟩
end
@[simp] def peeks (ds : DS) : List Hd → (List D → Prop) → Prop
  | [], P => P []
  | h :: hs, P => pk ds h fun d => peeks ds hs fun dl => P (d :: dl)
abbrev PkRs (K : PySem.W.Frag) (F : Ad) (H : Hp) : List V → List D → Prop := Paired (PkR K F H)
abbrev DN := List D → (Hd → Prop) → Prop
def COk (K : PySem.W.Frag) (r : List V → Hp → VK → Prop) (op : DN) : Prop :=
  ∀ (F T : Ad) (σ : Sl) (H : Hp) (ds : DS) (fp : Nat → Ad) (vs : List V) (dl : List D) (Q : Hd → Prop) (R : VK), Rep K F T σ H ds fp → PkRs K F H vs dl → op dl Q →
    (∀ h v H' F' q, Q h → Pst K F T H σ v h ds F' H' fp q → R v H') → r vs H R
@[simp] def dB (op : DN) (t : DTA) : DT := fun ds Q => t ds fun hs ds1 => peeks ds1 hs fun dl => op dl fun h => Q h ds1
section
variable {X : Cx} {K : PySem.W.Frag} {F T q : Ad} {σ : Sl} {H : Hp} {ds : DS} {fp : Nat → Ad} {e : Expr} {es : List Expr} {ta : TA} {te : TE} {t : DTA} {u : DT} {n : Nat} {r : List V → Hp → VK → Prop} {op : DN} {bid T' : String} {x : Str} {p pos : Pos}
theorem peeks_ok {vs : List V} {hs : List Hd} (rp : Rep K F T σ H ds fp) (x : HdRs K F H σ vs q hs) : ∀ {P : List D → Prop}, peeks ds hs P → ∃ dl, PkRs K F H vs dl ∧ P dl := by
  induction x with
  | nil => intro P h; exact ⟨[], .nil, h⟩
  | cons a b c d ih =>
    intro P h
    obtain ⟨d1, i1, h1⟩ := pk_ok rp a h
    obtain ⟨dl, i2, h2⟩ := ih h1
    exact ⟨_, .cons i1 i2, h2⟩
theorem eok_b (ha : AOk K n ta t) (hr : COk K r op) : EOk K (tCB r ta) (dB op t) := fun F T σ H ds fp Q R rp e k => by
  refine ha F T σ H ds fp _ _ rp e fun hs ds1 vs H1 F1 fp1 q1 k1 p1 _ => ?_
  obtain ⟨dl, i, k2⟩ := peeks_ok p1.rep p1.r k1
  exact hr F1 T σ H1 ds1 fp1 _ _ _ _ (p1.rep.less fun _ z => .inl z) i k2 fun h v H2 F2 q qh p => k _ _ _ _ _ _ _ qh (p.pre p1.g p1.t)
theorem do_B (hc : CallR X (.builtin bid) r) (hr : COk X.K r op) (hg : Gl X x) (hm : X.mg x = none) (hv : bootBuiltins x = some (.builtin bid)) (ha : DA X (e :: es) ta t) (hn : x ≠ "__name__" := by decide) (hdb : (x == ("__debug__" : Str)) = false := by decide)
    (he : starEach (e :: es) X.env = (false, eval e X.env) :: starEach es X.env := by rfl) (hpl : (backTo pos (starEach es X.env)).any (·.1) = false := by rfl) : DO X (.Call (.Name x p) (e :: es) [] pos) (tCB r ta) (dB op t) :=
  ⟨pe_callB hc hg hm hv ha.pa hn hdb he hpl, eok_b ha.ok hr⟩
theorem do_Ty (hc : CallR X (.type T') r) (hr : COk X.K r op) (hg : Gl X x) (hm : X.mg x = none) (hv : bootBuiltins x = some (.type T')) (ha : DA X (e :: es) ta t) (hn : x ≠ "__name__" := by decide) (hdb : (x == ("__debug__" : Str)) = false := by decide)
    (he : starEach (e :: es) X.env = (false, eval e X.env) :: starEach es X.env := by rfl) (hpl : (backTo pos (starEach es X.env)).any (·.1) = false := by rfl) : DO X (.Call (.Name x p) (e :: es) [] pos) (tCB r ta) (dB op t) :=
  ⟨pe_callTy hc hg hm hv ha.pa hn hdb he hpl, eok_b ha.ok hr⟩
@[simp] def bLen : DN
  | [.list xs], Q => Q (.tmp (.int xs.length))
  | [.tuple xs], Q => Q (.tmp (.int xs.length))
  | [.str z], Q => z.length ≤ sizeLine ∧ Q (.tmp (.int z.length))
  | _, _ => False
def rLenA (K : PySem.W.Frag) : List V → Hp → VK → Prop := fun xs H Q => (∃ p ys, xs = [.ref p] ∧ (SqL K H p ys ∨ SqT K H p ys) ∧ Q (.int ys.length) H) ∨ ∃ z, xs = [.str z] ∧ z.length ≤ sizeLine ∧ Q (.int z.length) H
theorem call_lenA : CallR X (.builtin "len") (rLenA X.K) := CallR.or call_len_seq call_len_str
theorem one_of {P : V → D → Prop} {vs : List V} {dl : List D} {d : D} (h : Paired P vs dl) (e : dl = [d]) : ∃ v, vs = [v] ∧ P v d := by
  subst e
  cases h with
  | cons a b => cases b; exact ⟨_, rfl, a⟩
theorem two_of {P : V → D → Prop} {vs : List V} {dl : List D} {d d' : D} (h : Paired P vs dl) (e : dl = [d, d']) : ∃ v v', vs = [v, v'] ∧ P v d ∧ P v' d' := by
  subst e
  cases h with
  | cons a b =>
    obtain ⟨v', rfl, c⟩ := one_of b rfl
    exact ⟨_, _, rfl, a, c⟩
theorem cok_len : COk K (rLenA K) bLen := by
  intro F T σ H ds fp vs dl Q R rp pv h k
  match dl, pv, h with
  | [.list xs], pv, h =>
    obtain ⟨v, rfl, i⟩ := one_of pv rfl
    obtain ⟨a, ws, rfl, ha, ia⟩ := i.list
    exact .inl ⟨a, ws, rfl, .inl ha.sq, by rw [ia.length]; exact k _ _ _ _ _ h (.int rp)⟩
  | [.tuple xs], pv, h =>
    obtain ⟨v, rfl, i⟩ := one_of pv rfl
    obtain ⟨a, ws, rfl, ha, ia, _⟩ := i.tuple
    exact .inl ⟨a, ws, rfl, .inr ha, by rw [ia.length]; exact k _ _ _ _ _ h (.int rp)⟩
  | [.str z], pv, h =>
    obtain ⟨v, rfl, i⟩ := one_of pv rfl
    rw [i.str]
    exact .inr ⟨z, rfl, h.1, k _ _ _ _ _ h.2 (.int rp)⟩
@[simp] def bAbs : DN
  | [.int i], Q => Q (.tmp (.int (i.natAbs : Int)))
  | _, _ => False
@[simp] def bMin : DN
  | [.int i, .int j], Q => Q (.tmp (.int (min i j)))
  | _, _ => False
@[simp] def bMax : DN
  | [.int i, .int j], Q => Q (.tmp (.int (max i j)))
  | _, _ => False
theorem cok_min : COk K (fun xs H Q => ∃ i j, xs = [.int i, .int j] ∧ Q (.int (if j < i then j else i)) H) bMin := by
  intro F T σ H ds fp vs dl Q R rp pv h k
  match dl, pv, h with
  | [.int i, .int j], pv, h =>
    obtain ⟨v, v', rfl, x, y⟩ := two_of pv rfl
    rw [x.int, y.int]
    refine ⟨i, j, rfl, ?_⟩
    have e : (if j < i then j else i) = min i j := by split <;> omega
    rw [e]
    exact k _ _ _ _ _ h (.int rp)
theorem cok_max : COk K (fun xs H Q => ∃ i j, xs = [.int i, .int j] ∧ Q (.int (if j > i then j else i)) H) bMax := by
  intro F T σ H ds fp vs dl Q R rp pv h k
  match dl, pv, h with
  | [.int i, .int j], pv, h =>
    obtain ⟨v, v', rfl, x, y⟩ := two_of pv rfl
    rw [x.int, y.int]
    refine ⟨i, j, rfl, ?_⟩
    have e : (if j > i then j else i) = max i j := by split <;> omega
    rw [e]
    exact k _ _ _ _ _ h (.int rp)
@[simp] def bInt : DN
  | [.int i], Q => Q (.tmp (.int i))
  | [.bool b], Q => Q (.tmp (.int (if b then 1 else 0)))
  | _, _ => False
theorem cok_int : COk K (fun xs H Q => (∃ i, xs = [.int i] ∧ Q (.int i) H) ∨ ∃ k, xs = [.bl k] ∧ Q (.int (if k then 1 else 0)) H) bInt := by
  intro F T σ H ds fp vs dl Q R rp pv h k
  match dl, pv, h with
  | [.int i], pv, h =>
    obtain ⟨v, rfl, x⟩ := one_of pv rfl
    rw [x.int]
    exact .inl ⟨i, rfl, k _ _ _ _ _ h (.int rp)⟩
  | [.bool i], pv, h =>
    obtain ⟨v, rfl, x⟩ := one_of pv rfl
    rw [x.bool]
    exact .inr ⟨i, rfl, k _ _ _ _ _ h (.int rp)⟩
@[simp] def bSum : DN
  | [.list xs], Q => ∃ ns : List Int, xs = ns.map .int ∧ Q (.tmp (.int ns.sum))
  | _, _ => False
@[simp] def bAll : DN
  | [.list xs], Q => ∃ ns : List Bool, xs = ns.map .bool ∧ Q (.tmp (.bool (ns.all id)))
  | _, _ => False
@[simp] def bAny : DN
  | [.list xs], Q => ∃ ns : List Bool, xs = ns.map .bool ∧ Q (.tmp (.bool (ns.any id)))
  | _, _ => False
theorem cok_all : COk K (rAll K) bAll := by
  intro F T σ H ds fp vs dl Q R rp pv h k
  match dl, pv, h with
  | [.list xs], pv, h =>
    obtain ⟨ns, rfl, h⟩ := h
    obtain ⟨v, rfl, i⟩ := one_of pv rfl
    obtain ⟨a, ws, rfl, ha, ia⟩ := i.list
    have e := ia.bools
    subst e
    exact ⟨a, ns, rfl, ha.sq, k _ _ _ _ _ h (.bool rp)⟩
@[simp] def bList : DN
  | [.list xs], Q => Q (.new (.own xs))
  | [.tuple xs], Q => Q (.new (.own xs))
  | _, _ => False
theorem cok_list : COk K (fun xs H Q => ∃ p ys, xs = [.ref p] ∧ (SqL K H p ys ∨ SqT K H p ys) ∧ ∀ l, H l = none → Q (.ref l) (upd H l (.lst ys))) bList := by
  intro F T σ H ds fp vs dl Q R rp pv h k
  match dl, pv, h with
  | [.list xs], pv, h =>
    obtain ⟨v, rfl, i⟩ := one_of pv rfl
    obtain ⟨a, ws, rfl, ha, ia⟩ := i.list
    exact ⟨a, ws, rfl, .inl ha.sq, fun p hp => k _ _ _ _ _ h (.list rp ia hp)⟩
  | [.tuple xs], pv, h =>
    obtain ⟨v, rfl, i⟩ := one_of pv rfl
    obtain ⟨a, ws, rfl, ha, ia, _⟩ := i.tuple
    exact ⟨a, ws, rfl, .inr ha, fun p hp => k _ _ _ _ _ h (.list rp ia hp)⟩
@[simp] def bTuple : DN
  | [.list xs], Q => Q (.tmp (.tuple xs))
  | [.tuple xs], Q => Q (.tmp (.tuple xs))
  | _, _ => False
theorem cok_tuple : COk K (fun xs H Q => ∃ p ys, xs = [.ref p] ∧ ((SqL K H p ys ∧ ∀ l, H l = none → Q (.ref l) (upd H l (.tup ys))) ∨ (SqT K H p ys ∧ Q (.ref p) H))) bTuple := by
  intro F T σ H ds fp vs dl Q R rp pv h k
  match dl, pv, h with
  | [.list xs], pv, h =>
    obtain ⟨v, rfl, i⟩ := one_of pv rfl
    obtain ⟨a, ws, rfl, ha, ia⟩ := i.list
    exact ⟨a, ws, rfl, .inl ⟨ha.sq, fun p hp => k _ _ _ _ _ h (.tuple rp ia hp)⟩⟩
  | [.tuple xs], pv, h =>
    obtain ⟨v, rfl, i⟩ := one_of pv rfl
    obtain ⟨a, ws, rfl, ha, ia, it⟩ := i.tuple
    exact ⟨a, ws, rfl, .inr ⟨ha, k _ _ _ _ _ h (.here rp it)⟩⟩
def tyD : D → String
  | .none => "NoneType"
  | .bool _ => "bool"
  | .int _ => "int"
  | .str _ => "str"
  | .list _ => "list"
  | .tuple _ => "tuple"
  | .dict _ => "dict"
def isT (n : String) (d : D) : Bool := (kitB (tyD d) n).getD false
@[simp] def dIsi (n : String) (t : DT) : DT := fun ds Q => t ds fun h ds1 => pk ds1 h fun d => Q (.tmp (.bool (isT n d))) ds1
theorem tyX_of {v : V} {d : D} (h : PkR K F H v d) : TyX K H v (.type (tyD d)) := by
  cases d with
  | none => rw [h.none]; exact .base .non
  | bool b => rw [h.bool]; exact .base (.bl _)
  | int b => rw [h.int]; exact .base (.int _)
  | str b => rw [h.str]; exact .base (.str _)
  | list xs =>
    obtain ⟨a, vs, rfl, ha, _⟩ := h.list
    rcases ha with (ha | ⟨o, ha⟩) | ⟨its, n, h1, _⟩
    · exact .base (.lst ha)
    · exact .base (.frz ha)
    · exact .kList h1 rfl
  | tuple xs =>
    obtain ⟨a, vs, rfl, ha, _⟩ := h.tuple
    rcases ha with (ha | ⟨o, ha⟩) | ⟨o, its, n, h1, h2, _⟩
    · exact .base (.tup ha)
    · exact .fTuple ha
    · exact .kTuple h1 h2
  | dict kvs =>
    rcases h with h | ⟨_, _, _, _, e, _⟩
    · cases h with
      | dic ha _ => exact .fDict (res_some ha).2
    · cases e
/-- the names of classes that isinstance tells for all data -/
def isiOk (n : String) : Bool := (["NoneType", "bool", "int", "str", "list", "tuple", "dict"] : List String).all fun a => (kitB a n).isSome
theorem kit_of_ok {n : String} (hn : isiOk n = true) (d : D) : kitB (tyD d) n = some (isT n d) := by
  have key : ∀ a, a ∈ (["NoneType", "bool", "int", "str", "list", "tuple", "dict"] : List String) → (kitB a n).isSome = true := List.all_eq_true.mp hn
  have hm : tyD d ∈ (["NoneType", "bool", "int", "str", "list", "tuple", "dict"] : List String) := by cases d <;> simp [tyD]
  have h := key _ hm
  unfold isT
  cases e : kitB (tyD d) n with
  | none => rw [e] at h; cases h
  | some b => rfl
def tIsi (K : PySem.W.Frag) (n : String) (ta : TE) : TE := tCB (rIsi K) (tCons ta (tCons (tC (.ty n)) tNil))
theorem eok_isi {n : String} (hn : isiOk n = true) (ha : EOk K te u) : EOk K (tIsi K n te) (dIsi n u) := fun F T σ H ds fp Q R rp e k => by
  refine ha F T σ H ds fp _ _ rp e fun h1 ds1 v1 H1 F1 fp1 q1 k1 p1 => ?_
  obtain ⟨d, i, k2⟩ := pk_ok p1.rep p1.r k1
  exact ⟨v1, .ty n, .type (tyD d), .type n, isT n d, rfl, .ty n, tyX_of i, kit_ty (kit_of_ok hn d), k _ _ _ _ _ _ _ k2 ((Pst.bool (p1.rep.less fun _ z => .inl z)).pre p1.g p1.t)⟩
theorem do_isi {n : String} {y : Str} {p' : Pos} (hn : isiOk n = true) (hg : Gl X "isinstance") (hm : X.mg "isinstance" = none) (hg2 : Gl X y) (hm2 : X.mg y = none) (hv2 : bootBuiltins y = some (.type n)) (hn2 : y ≠ "__name__") (hd2 : (y == ("__debug__" : Str)) = false) (ha : DO X e te u)
    (he : starEach [e, .Name y p'] X.env = (false, eval e X.env) :: starEach [.Name y p'] X.env := by rfl) (he2 : starEach [.Name y p'] X.env = (false, eval (.Name y p') X.env) :: starEach [] X.env := by rfl) (hpl : (backTo pos (starEach [.Name y p'] X.env)).any (·.1) = false := by rfl) :
    DO X (.Call (.Name "isinstance" p) [e, .Name y p'] [] pos) (tIsi X.K n te) (dIsi n u) :=
  ⟨pe_callB call_isi hg hm (by decide +kernel) (pa_cons ha.pe (pa_cons (pe_bltn hg2 hm2 hv2 (show RelV (.ty n) (.type n) from rfl) hn2 hd2) pa_nil he2) he) (by decide) (by decide) he hpl, eok_isi hn ha.ok⟩
end
end DL
namespace DL
open PySem PySem.Spec PyProof.Rows L2
theorem hok_there {P : Program} {w : World} {H : Hp} {h : Heap} {a : Addr} {o : HO} (x : HOk P w H h) (e : H a = some o) : ∃ ob, h.get? a = some ob := by
  have y := x a o e
  cases o with
  | lst xs => obtain ⟨_, _, _, _, e⟩ := y; exact ⟨_, e⟩
  | tup xs => obtain ⟨_, _, _, ob, e, _⟩ := y; exact ⟨_, e⟩
  | dK kvs => obtain ⟨_, _, _, _, o, _, _, e, _⟩ := y; exact ⟨_, e⟩
  | dT kvs => obtain ⟨_, _, _, _, o, _, _, e, _⟩ := y; exact ⟨_, e⟩
  | set S n => obtain ⟨o, _, _, _, e, _⟩ := y; exact ⟨_, e⟩
  | ins C dx fs => obtain ⟨_, _, _, e, _⟩ := y; exact ⟨_, e⟩
  | own z => obtain ⟨_, e⟩ := y; exact ⟨_, e⟩
  | xd fs => obtain ⟨_, ⟨_, _, _, e, _⟩, _⟩ := y; exact ⟨_, e⟩
  | rng lo hi => obtain ⟨_, _, _, e⟩ := y; exact ⟨_, e⟩
  | frz ob u => obtain ⟨e, _⟩ := y; exact ⟨_, e⟩
  | tbl ps => exact ⟨_, (show h.get? a = some _ from y)⟩
  | met f z => exact ⟨_, (show h.get? a = some _ from y)⟩
  | ext φ => obtain ⟨_, ⟨_, e⟩, _⟩ := y; exact ⟨_, e⟩
def hidden (G : Ad) (H : Hp) : Ad := fun a => G a ∨ ∃ x, G x ∧ H a = some (.own x)
open Classical in
noncomputable def hide (G : Ad) (H : Hp) : Hp := fun a => if hidden G H a then none else H a
open Classical in
noncomputable def back (G : Ad) (H H' : Hp) : Hp := fun a => if hidden G H a then H a else H' a
theorem hide_in {G : Ad} {H : Hp} {a : Addr} (h : hidden G H a) : hide G H a = none := if_pos h
theorem hide_out {G : Ad} {H : Hp} {a : Addr} (h : ¬ hidden G H a) : hide G H a = H a := if_neg h
theorem back_in {G : Ad} {H H' : Hp} {a : Addr} (h : hidden G H a) : back G H H' a = H a := if_pos h
theorem back_out {G : Ad} {H H' : Hp} {a : Addr} (h : ¬ hidden G H a) : back G H H' a = H' a := if_neg h
def frm (sp : Sp) : Sp := fun vs H Q _ => ∃ G : Ad, (∀ a, G a → ∃ o, H a = some o ∧ bigO o) ∧ sp vs (hide G H) (fun v H' => (∀ a, hidden G H a → H' a = none) → Q v (back G H H')) (fun _ _ _ => False)
theorem hidden_some {G : Ad} {H : Hp} (hG : ∀ a, G a → ∃ o, H a = some o ∧ bigO o) {a : Addr} (h : hidden G H a) : ∃ o, H a = some o ∧ (bigO o ∨ ∃ x, G x ∧ o = .own x) := by
  rcases h with h | ⟨x, hx, e⟩
  · obtain ⟨o, e, b⟩ := hG a h; exact ⟨o, e, .inl b⟩
  · exact ⟨_, e, .inr ⟨x, hx, rfl⟩⟩
/-- what is neither big nor an own dict is in sight -/
theorem seen_of {G : Ad} {H : Hp} (hG : ∀ a, G a → ∃ o, H a = some o ∧ bigO o) {a : Addr} {o : HO} (e : H a = some o) (nb : ¬ bigO o) (no : ∀ x, o ≠ .own x) : ¬ hidden G H a := fun h => by
  obtain ⟨o', e', h⟩ := hidden_some hG h
  rw [e] at e'; cases e'
  rcases h with h | ⟨x, _, h⟩
  · exact nb h
  · exact no x h
theorem frame_fn {P : Program} {w : World} {K : PySem.W.Frag} {mg : Str → Option Value} {base : Heap} {k : Nat} {f : Addr} {fd : FuncData} {ps : List Str} {sp : Sp} (F : FnOk P w K mg base CX0 k f fd ps sp) :
    FnOk P w K mg base CX0 k f fd ps (frm sp) := by
  refine ⟨fun vs H Q E ⟨G, _, h⟩ => F.len _ _ _ _ h, fun A outer s H args us vs Q E hr e0 hb hv ⟨G, hG, h⟩ => ?_⟩
  have hok1 : HOk P w (hide G H) s.heap := fun b o e => by
    by_cases hb : hidden G H b
    · rw [hide_in hb] at e; cases e
    · rw [hide_out hb] at e
      refine (e0.hok b o e).stay (fun _ _ _ q => q) (fun c hc => ?_) fun c xs hc => ?_
      · rw [hide_out]; exact hc
        rintro (g | ⟨x, gx, ex⟩)
        · obtain ⟨o', e1, b1⟩ := hG c g
          rw [hc] at e1; cases e1; exact b1
        · rw [hc] at ex; cases ex; exact hb (.inl gx)
      · rw [hide_out (seen_of hG hc (fun z => z) (fun x z => by cases z))]; exact hc
  have e1 : Env0 P w K mg base A outer s (hide G H) := ⟨e0.frames, e0.mod, fun b o q => ⟨(e0.bs b o q).1, by
    by_cases hb : hidden G H b
    · exact hide_in hb
    · rw [hide_out hb]; exact (e0.bs b o q).2⟩, e0.bsz, e0.funs, fun b q => by
    by_cases hb : hidden G H b
    · exact hide_in hb
    · rw [hide_out hb]; exact e0.frf b q, hok1, e0.bare⟩
  refine codeAny_mono (F.run A outer s (hide G H) args us vs _ _ hr e1 hb hv h) fun r s' hq => ?_
  cases r with
  | error e => exact False.elim hq
  | ok fl =>
    cases fl with
    | next => exact False.elim hq
    | brk => exact False.elim hq
    | cont => exact False.elim hq
    | ret u =>
      obtain ⟨v, H', os, bare, un, hok', rv, q⟩ := hq
      have hn : ∀ a, hidden G H a → H' a = none := fun a ha => by
        obtain ⟨o, e, _⟩ := hidden_some hG ha
        obtain ⟨ob, he⟩ := hok_there e0.hok e
        exact un.free a ob he (hide_in ha) (by simp)
      have hnf : ∀ a, hidden G H a → a ∉ frs outer := fun a ha z => by
        obtain ⟨o, e, _⟩ := hidden_some hG ha
        rw [e0.frf a z] at e; cases e
      have none1 : ∀ b, H b = none → hide G H b = none ∧ ¬ hidden G H b := fun b n => by
        have nh : ¬ hidden G H b := fun z => by
          obtain ⟨o, e, _⟩ := hidden_some hG z
          rw [n] at e; cases e
        exact ⟨by rw [hide_out nh]; exact n, nh⟩
      refine ⟨v, back G H H', os, bare, ⟨fun b o e n => un.keep b o e (none1 b n).1, fun b o e n => un.slot b o e (none1 b n).1, fun b o e n x => ?_, un.there, fun b xs e => ?_, fun b o u e => ?_, fun b ps e => ?_⟩, fun b o e => ?_, rv, q hn⟩
      · rw [back_out (none1 b n).2]
        exact un.free b o e (none1 b n).1 x
      · have nh := seen_of hG e (fun z => z) (fun x z => by cases z)
        rw [back_out nh]
        exact un.tups b xs (by rw [hide_out nh]; exact e)
      · have nh := seen_of hG e (fun z => z) (fun x z => by cases z)
        rw [back_out nh]
        exact un.frzs b o u (by rw [hide_out nh]; exact e)
      · have nh := seen_of hG e (fun z => z) (fun x z => by cases z)
        rw [back_out nh]
        exact un.tbls b ps (by rw [hide_out nh]; exact e)
      · by_cases hb : hidden G H b
        · rw [back_in hb] at e
          have stayed : ∀ c u, hidden G H c → s.heap.get? c = some u → s'.heap.get? c = some u := fun c u hc q => un.keep c u q (hide_in hc) (hnf c hc) (by simp)
          rcases hidden_some hG hb with ⟨o', e', hh⟩
          rw [e] at e'; cases e'
          rcases hh with hh | ⟨x, _, rfl⟩
          · have gb : G b := by
              rcases hb with g | ⟨x, _, ex⟩
              · exact g
              · rw [e] at ex; cases ex; exact hh.elim
            refine (e0.hok b o e).stay (fun c u hc r => ?_) (fun c hc => ?_) fun c xs hc => ?_
            · rcases hc with rfl | hc
              · exact stayed _ u hb r
              · exact stayed c u (.inr ⟨b, gb, hc⟩) r
            · rw [back_in (.inr ⟨b, gb, hc⟩)]; exact hc
            · have nh := seen_of hG hc (fun z => z) (fun x z => by cases z)
              rw [back_out nh]
              exact un.tups c xs (by rw [hide_out nh]; exact hc)
          · obtain ⟨ob, he⟩ := e0.hok b _ e
            exact ⟨ob, stayed b ob hb he⟩
        · rw [back_out hb] at e
          refine (hok' b o e).stay (fun _ _ _ r => r) (fun c hc => ?_) fun c xs hc => ?_
          · rw [back_out fun z => by rw [hn c z] at hc; cases hc]; exact hc
          · rw [back_out fun z => by rw [hn c z] at hc; cases hc]; exact hc
abbrev DF := List D → (SD → Prop) → Prop
def seqAll (F : Ad) (H : Hp) : Prop := ∀ a, F a → ∃ o, H a = some o ∧ seqO o
def spP (K : PySem.W.Frag) (n : Nat) (g : DF) : Sp := fun vs H Q _ => vs.length = n ∧ ∃ F dl, IsA K (res F H) vs dl ∧ seqAll F H ∧
  ∃ P : SD → Prop, g dl P ∧ ∀ r, P r → ∀ (H' : Hp) (v : V) (F' q : Ad), Grow F H F' H' → seqAll F' H' → (∀ a, q a → ¬ F' a ∧ ∃ o, H' a = some o ∧ bigO o) → SlotOk K (res F' H') H' (some (some v)) q r → Q v H'
@[simp] def hdOf : SD → Hd
  | .val d => .tmp d
  | s => .new s
@[simp] def dCall (g : DF) (t : DTA) : DT := fun ds Q => t ds fun hs ds1 => takes hs ds1 fun dl ds2 => g dl fun r => Q (hdOf r) ds2
section
variable {X : Cx} {K : PySem.W.Frag} {F T q : Ad} {σ : Sl} {H : Hp} {ds : DS} {fp : Nat → Ad} {e : Expr} {es : List Expr} {ta tk : TA} {t tkD : DTA} {n k : Nat} {g : DF} {f : Addr} {fd : FuncData} {ps ks : List Str} {x : Str} {p pos : Pos}
/-- the call itself -/
theorem call_core {vs : List V} {dl : List D} {Q : Hd → Prop} {R : VK} {E : XK} (r2 : Rep K F T σ H ds fp) (ia : IsA K (res F H) vs dl) (hn : vs.length = n) (h : g dl fun r => Q (hdOf r))
    (k : ∀ h v H' F' q, Q h → Pst K F T H σ v h ds F' H' fp q → R v H') : frm (spP K n g) vs H R E := by
  have hG : ∀ a, (T a ∨ ∃ i, fp i a) → ∃ o, H a = some o ∧ bigO o := fun a z => by
    rcases z with z | ⟨i, z⟩
    · exact r2.td a z
    · exact r2.fdom z
  have nF : ∀ a, F a → ¬ hidden (fun a => T a ∨ ∃ i, fp i a) H a := fun a f z => by
    rcases z with (z | ⟨i, z⟩) | ⟨y, _, z⟩
    · exact r2.tF a z f
    · exact r2.fF i a z f
    · obtain ⟨o, e, b⟩ := r2.fd a f
      rw [z] at e; cases e; exact b
  refine ⟨fun a => T a ∨ ∃ i, fp i a, hG, hn, F, dl, ia.mono fun a o e => ?_, fun a f => ?_, ?_⟩
  · obtain ⟨f, e⟩ := res_some e
    rw [res_in f, hide_out (nF a f)]; exact e
  · rw [hide_out (nF a f)]; exact r2.fd a f
  · refine ⟨_, h, fun r hr H' v F' q g' sa qa so hh => ?_⟩
    have nh' : ∀ a o, H' a = some o → ¬ hidden (fun a => T a ∨ ∃ i, fp i a) H a := fun a o e z => by rw [hh a z] at e; cases e
    have nF' : ∀ a, F' a → ¬ hidden (fun a => T a ∨ ∃ i, fp i a) H a := fun a f => by
      obtain ⟨o, e, _⟩ := sa a f
      exact nh' a o e
    have nq : ∀ a, q a → ¬ hidden (fun a => T a ∨ ∃ i, fp i a) H a := fun a f => by
      obtain ⟨_, o, e, _⟩ := qa a f
      exact nh' a o e
    have G : Grow F H F' (back (fun a => T a ∨ ∃ i, fp i a) H H') := fun a f => ⟨(g' a f).1, by
      rw [back_out (nF a f), (g' a f).2, hide_out (nF a f)]⟩
    have so' : SlotOk K (res F' (back (fun a => T a ∨ ∃ i, fp i a) H H')) (back (fun a => T a ∨ ∃ i, fp i a) H H') (some (some v)) q r :=
      so.mono (fun a o e => by
        obtain ⟨f, e⟩ := res_some e
        rw [res_in f, back_out (nF' a f)]; exact e) fun a z => back_out (nq a z)
    refine k (hdOf r) v _ F' q hr ⟨r2.go G (fun i a z => ⟨back_in (.inl (.inr ⟨i, z⟩)), fun f => nF' a f (.inl (.inr ⟨i, z⟩)), ?_⟩) (fun a z => ?_) (fun a f => ?_) (fun a z => ?_), fun a z y => nq a z (.inl (.inl y)), G, fun a z => back_in (.inl (.inl z)), ?_⟩
    · rintro (y | y)
      · exact r2.fT i a z y
      · exact nq a y (.inl (.inr ⟨i, z⟩))
    · rcases z with z | z
      · exact fun f => nF' a f (.inl (.inl z))
      · exact (qa a z).1
    · obtain ⟨o, e, b⟩ := sa a f
      exact ⟨o, by rw [back_out (nF' a f)]; exact e, b⟩
    · rcases z with z | z
      · rw [back_in (.inl (.inl z))]; exact r2.td a z
      · obtain ⟨_, o, e, b⟩ := qa a z
        exact ⟨o, by rw [back_out (nq a z)]; exact e, b⟩
    · cases r with
      | val d =>
        obtain ⟨⟨v', e, i⟩, _⟩ := so'
        cases e
        exact i
      | no => exact so'
      | own _ => exact so'
      | dic _ => exact so'
      | wd _ => exact so'
      | ob _ => exact so'
theorem eok_call (ha : AOk K n ta t) : EOk K (tCall (frm (spP K n g)) [] E0 ta) (dCall g t) := fun F T σ H ds fp Q R rp e k => by
  refine ha F T σ H ds fp _ _ rp e fun hs ds1 vs H1 F1 fp1 q1 k1 p1 l1 => ?_
  obtain ⟨dl, ds2, F2, fp2, e2, r2, g2, i2⟩ := takes_ok p1.r .refl p1.rep p1.qT k1
  rw [List.append_nil]
  exact call_core r2 i2 l1 e2 fun h v H' F' q qh p => k _ _ _ _ _ _ _ qh (p.pre (p1.g.trans g2) p1.t)
theorem do_call (F : FnOk X.prog X.w X.K X.mg X.base CX0 k f fd ps (spP X.K n g)) (hr : Room k X.A) (hg : Gl X x) (hm : X.mg x = some (.ref f)) (hk : PySem.W.keepIn X.K (.ref f) = true) (hb : Binds X.K fd ps [])
    (ha : DA X (e :: es) ta t) (hn : (e :: es).length = n := by rfl) (hdb : (x == ("__debug__" : Str)) = false := by decide) (he : starEach (e :: es) X.env = (false, eval e X.env) :: starEach es X.env := by rfl) (hpl : (backTo pos (starEach es X.env)).any (·.1) = false := by rfl) :
    DO X (.Call (.Name x p) (e :: es) [] pos) (tCall (frm (spP X.K n g)) [] E0 ta) (dCall g t) :=
  ⟨pe_call (frame_fn F) hr hg hm hk hb .nil pass0 ha.pa hdb he hpl, eok_call (hn ▸ ha.ok)⟩
end
end DL
namespace DL
open PySem PySem.Spec PyProof.Rows L2
structure En where
  nx : DS → Prop
  rt : Hd → DS → Prop
  bk : DS → Prop
  ct : DS → Prop
abbrev DM := En → DS → Prop
structure EndsOk (K : PySem.W.Frag) (F : Ad) (H : Hp) (E : En) (D : Ends) : Prop where
  nx : ∀ σ' H' ds' F' fp', E.nx ds' → Rep K F' Ad.nil σ' H' ds' fp' → Grow F H F' H' → D.nx σ' H'
  rt : ∀ h ds' v σ' H' F' fp' q, E.rt h ds' → Pst K F Ad.nil H σ' v h ds' F' H' fp' q → D.rt v H'
  bk : ∀ σ' H' ds' F' fp', E.bk ds' → Rep K F' Ad.nil σ' H' ds' fp' → Grow F H F' H' → D.bk σ' H'
  ct : ∀ σ' H' ds' F' fp', E.ct ds' → Rep K F' Ad.nil σ' H' ds' fp' → Grow F H F' H' → D.ct σ' H'
theorem EndsOk.grow {K : PySem.W.Frag} {F F' : Ad} {H H' : Hp} {E : En} {D : Ends} (e : EndsOk K F H E D) (g : Grow F H F' H') : EndsOk K F' H' E D :=
  ⟨fun _ _ _ _ _ a r b => e.nx _ _ _ _ _ a r (g.trans b), fun _ _ _ _ _ _ _ _ a p => e.rt _ _ _ _ _ _ _ _ a (p.pre g fun _ z => z.elim), fun _ _ _ _ _ a r b => e.bk _ _ _ _ _ a r (g.trans b), fun _ _ _ _ _ a r b => e.ct _ _ _ _ _ a r (g.trans b)⟩
def SOk (K : PySem.W.Frag) (ts : TS) (t : DM) : Prop :=
  ∀ (F : Ad) (σ : Sl) (H : Hp) (ds : DS) (fp : Nat → Ad) (E : En) (D : Ends), Rep K F Ad.nil σ H ds fp → t E ds → EndsOk K F H E D → ts D σ H
structure DSt (X : Cx) (st : Stmt) (ts : TS) (t : DM) : Prop where
  ps : PS X st ts
  ok : SOk X.K ts t
structure DSs (X : Cx) (st : List Stmt) (ts : TS) (t : DM) : Prop where
  ps : PSs X st ts
  ok : SOk X.K ts t
@[simp] def mNil : DM := fun E ds => E.nx ds
@[simp] def mSeq (t u : DM) : DM := fun E ds => t { E with nx := u E } ds
@[simp] def mExpr (t : DT) : DM := fun E ds => t ds fun _ ds1 => E.nx ds1
@[simp] def mRet (t : DT) : DM := fun E ds => t ds E.rt
@[simp] def mRetN : DM := fun E ds => E.rt (.tmp .none) ds
@[simp] def mIf (c : DTT) (t u : DM) : DM := fun E ds => c ds fun b ds1 => if b = true then t E ds1 else u E ds1
@[simp] def mBrk : DM := fun E ds => E.bk ds
@[simp] def mCont : DM := fun E ds => E.ct ds
@[simp] def mNever : DM := fun _ _ => False
section
variable {X : Cx} {K : PySem.W.Frag} {st : Stmt} {sts : List Stmt} {ts us : TS} {t u : DM} {e c : Expr} {te : TE} {d : DT} {tt : TT} {p : DTT} {pos : Pos}
theorem dss_nil : DSs X [] tNext mNil := ⟨pss_nil, fun F σ H ds fp E D r h k => k.nx _ _ _ _ _ h r .refl⟩
theorem sok_seq (h1 : SOk K ts t) (h2 : SOk K us u) : SOk K (tSeq ts us) (mSeq t u) := fun F σ H ds fp E D r h k =>
  h1 F σ H ds fp _ _ r h ⟨fun σ' H' ds' F' fp' a r' g => h2 F' σ' H' ds' fp' E D r' a (k.grow g), k.rt, k.bk, k.ct⟩
theorem dss_cons (h1 : DSt X st ts t) (h2 : DSs X sts us u) : DSs X (st :: sts) (tSeq ts us) (mSeq t u) := ⟨pss_cons h1.ps h2.ps, sok_seq h1.ok h2.ok⟩
theorem dss_one (h1 : DSt X st ts t) : DSs X [st] ts t := ⟨pss_one h1.ps, h1.ok⟩
theorem ds_expr (h : DO X e te d) (hs : swapsWith e none pos.line X.env = pure false := by rfl) : DSt X (.Expr e pos) (tDrop te) (mExpr d) := ⟨ps_expr h.pe hs, fun F σ H ds fp E D r a k =>
  h.ok F _ σ H ds fp _ _ r a fun h ds' v H' F' fp' q b p => k.nx _ _ _ _ fp' b (p.rep.less fun _ z => .inl z) p.g⟩
theorem ds_ret (h : DO X e te d) : DSt X (.Return (some e) pos) (tRet te) (mRet d) := ⟨ps_ret h.pe, fun F σ H ds fp E D r a k =>
  h.ok F _ σ H ds fp _ _ r a fun h ds' v H' F' fp' q b p => k.rt _ _ _ _ _ _ _ _ b p⟩
theorem ds_if {a b : List Stmt} (hc : DB X c tt p) (ha : DSs X a ts t) (hb : DSs X b us u) : DSt X (.If c a b pos) (tIfS tt ts us) (mIf p t u) := ⟨ps_if hc.pt ha.ps hb.ps, fun F σ H ds fp E D r h k =>
  hc.ok F _ σ H ds fp _ _ r h fun b ds' H' F' fp' h' r' g _ => by
    cases b with
    | true => exact ha.ok F' σ H' ds' fp' E D r' h' (k.grow g)
    | false => exact hb.ok F' σ H' ds' fp' E D r' h' (k.grow g)⟩
theorem ds_continue : DSt X (.Continue pos) tCont mCont := ⟨ps_continue, fun F σ H ds fp E D r h k => k.ct _ _ _ _ _ h r .refl⟩
theorem ds_never : DSt X st tNever mNever := ⟨ps_never, fun F σ H ds fp E D r h k => h⟩
end
/-- what a handle is when it is stored: new things stay owned -/
@[simp] def sett : Hd → DS → (SD → DS → Prop) → Prop
  | .tmp d, ds, Q => Q (.val d) ds
  | .slot i, ds, Q => match ds[i]? with
    | some (.val d) => Q (.val d) ds
    | some (.own xs) => Q (.val (.list xs)) (ds.set i (.val (.list xs)))
    | _ => False
  | .new s, ds, Q => Q s ds
  | .fld _ _ _, _, _ => False
@[simp] def put (i : Nat) (s : SD) (ds : DS) (P : DS → Prop) : Prop := match ds[i]? with
  | some _ => P (ds.set i s)
  | none => False
section
variable {K : PySem.W.Frag} {F F' T q : Ad} {σ : Sl} {H H' : Hp} {ds : DS} {fp : Nat → Ad} {v : V} {h : Hd}
theorem sett_ok {Q : SD → DS → Prop} (r : Rep K F (T.or q) σ H ds fp) (dj : ∀ a, q a → ¬ T a) (x : HdR K F H σ v q h) (e : sett h ds Q) :
    ∃ s ds' F' fp' q', Q s ds' ∧ Rep K F' (T.or q') σ H ds' fp' ∧ (∀ a, q' a → q a) ∧ Grow F H F' H ∧ SlotOk K (res F' H) H (some (some v)) q' s := by
  cases h with
  | tmp d => exact ⟨_, _, F, fp, Ad.nil, e, r.less fun a z => .inl (or_empty a z), fun _ z => z.elim, .refl, ⟨v, rfl, x⟩, fun _ z => z⟩
  | slot i =>
    have x' : σ[i]? = some (some v) := x
    cases hd : ds[i]? with
    | none => simp [sett, hd] at e
    | some s =>
      cases s with
      | val d' =>
        simp [sett, hd] at e
        obtain ⟨⟨v', h1, h2⟩, _⟩ := r.slot i _ hd
        rw [x'] at h1; cases h1
        exact ⟨_, _, F, fp, Ad.nil, e, r.less fun a z => .inl (or_empty a z), fun _ z => z.elim, .refl, ⟨v, rfl, h2⟩, fun _ z => z⟩
      | own xs =>
        simp [sett, hd] at e
        obtain ⟨r1, g, a, h1, h2⟩ := (r.less (T' := T.or Ad.nil) fun a z => .inl (or_empty a z)).freeze hd
        rw [x'] at h1; cases h1
        exact ⟨_, _, _, _, Ad.nil, e, r1, fun _ z => z.elim, g, ⟨_, rfl, h2⟩, fun _ z => z⟩
      | no => simp [sett, hd] at e
      | dic _ => simp [sett, hd] at e
      | wd _ => simp [sett, hd] at e
      | ob _ => simp [sett, hd] at e
  | new s => exact ⟨s, ds, F, fp, q, e, r, fun _ z => z, .refl, x⟩
  | fld _ _ _ => exact e.elim
end
@[simp] def mSet (i : Nat) (t : DT) : DM := fun E ds => t ds fun h ds1 => sett h ds1 fun s ds2 => put i s ds2 E.nx
@[simp] def mPar (i j : Nat) (t u : DT) : DM := fun E ds => t ds fun h1 ds1 => u ds1 fun h2 ds2 => sett h1 ds2 fun s1 ds3 => sett h2 ds3 fun s2 ds4 => put i s1 ds4 fun ds5 => put j s2 ds5 E.nx
section
variable {X : Cx} {K : PySem.W.Frag} {i j : Nat} {x y : Str} {e a b : Expr} {te ta tb : TE} {t u : DT} {pos pos' px py pt pt2 : Pos} {kt k2 : Nat}
theorem put_ok {F T q : Ad} {σ : Sl} {H : Hp} {ds : DS} {fp : Nat → Ad} {P : DS → Prop} {v : V} {s : SD} (r : Rep K F (T.or q) σ H ds fp) (d : ∀ a, q a → ¬ T a) (hs : SlotOk K (res F H) H (some (some v)) q s) (h : put i s ds P) :
    P (ds.set i s) ∧ ∃ fp', Rep K F T (σ.set i (some v)) H (ds.set i s) fp' := by
  unfold put at h
  split at h
  · rename_i s' e
    exact ⟨h, _, r.put d hs (List.getElem?_eq_some_iff.mp e).1⟩
  · exact h.elim
theorem sok_set (he : EOk K te t) : SOk K (tAsg te (gName i)) (mSet i t) := fun F σ H ds fp E D r h k => by
  refine he F _ σ H ds fp _ _ r h fun h ds' v H' F' fp' q b p => ?_
  obtain ⟨s, ds2, F2, fp2, q2, e2, r2, sub, g2, so⟩ := sett_ok p.rep p.qT p.r b
  obtain ⟨e3, fp3, r3⟩ := put_ok r2 (fun a z => p.qT a (sub a z)) so e2
  exact k.nx _ _ _ _ fp3 e3 r3 (p.g.trans g2)
theorem ds_set (hN : X.N.Nodup) (he : DO X e te t) (hi : X.N[i]? = some x := by rfl) (hx : Loc X.env.scope x := by first | exact .inl rfl | exact .inr rfl) (hs : swapsWith e (some (.Name x pos')) pos.line X.env = pure false := by rfl) (hf : X.fn x = true ∨ X.env.scope.names.lookup x = some .local := by first | exact .inl rfl | exact .inr rfl | assumption) :
    DSt X (.Assign [.Name x pos'] e pos) (tAsg te (gName i)) (mSet i t) := ⟨ps_set hN hi hx he.pe hs hf, sok_set he.ok⟩
theorem ds_par (hN : X.N.Nodup) (ha : DO X a ta t) (hb : DO X b tb u) (hc : X.calm = true := by rfl) (hi : X.N[i]? = some x := by rfl) (hj : X.N[j]? = some y := by rfl) (hij : i ≠ j := by decide)
    (hx : X.env.scope.names.lookup x = some .local := by rfl) (hy : X.env.scope.names.lookup y = some .local := by rfl)
    (h1 : starEach [a, b] X.env = (false, eval a X.env) :: starEach [b] X.env := by rfl) (h2 : starEach [b] X.env = (false, eval b X.env) :: starEach [] X.env := by rfl)
    (hw : swappedStores [.Tuple [.Name x px, .Name y py] kt pt] (.Tuple [a, b] k2 pt2) X.env = pure (some [x, y]) := by rfl)
    (hs : swapsWithSole [.Tuple [.Name x px, .Name y py] kt pt] (.Tuple [a, b] k2 pt2) pos.line X.env = pure false := by rfl) :
    DSt X (.Assign [.Tuple [.Name x px, .Name y py] kt pt] (.Tuple [a, b] k2 pt2) pos) (tPar i j (tCons ta (tCons tb tNil))) (mPar i j t u) := ⟨ps_par hc hN hi hj hij hx hy (pa_cons ha.pe (pa_cons hb.pe pa_nil h2) h1) hw hs, fun F σ H ds fp E D r h k => by
  refine ha.ok F _ σ H ds fp _ _ r h fun h1 ds1 v1 H1 F1 fp1 q1 k1 p1 => ?_
  refine hb.ok F1 (Ad.nil.or q1) σ H1 ds1 fp1 _ _ p1.rep k1 fun h2 ds2 v2 H2 F2 fp2 q2 k2 p2 => ?_
  refine ⟨v1, v2, rfl, ?_⟩
  have x1 := p1.r.keep p2.g fun a z => p2.t a (.inr z)
  have r2 : Rep X.K F2 (q2.or q1) σ H2 ds2 fp2 := p2.rep.less fun a z => z.elim .inr fun z => .inl (.inr z)
  obtain ⟨s3, ds3, F3, fp3, q3, e3, r3, sub3, g3, so3⟩ := sett_ok r2 (fun a z y => p2.qT a y (.inr z)) x1 k2
  have r3' : Rep X.K F3 (q3.or q2) σ H2 ds3 fp3 := r3.less fun a z => z.elim .inr .inl
  obtain ⟨s4, ds4, F4, fp4, q4, e4, r4, sub4, g4, so4⟩ := sett_ok r3' (fun a z y => p2.qT a z (.inr (sub3 a y))) (p2.r.keep g3 fun _ _ => rfl) e3
  have r4' : Rep X.K F4 (q4.or q3) σ H2 ds4 fp4 := r4.less fun a z => z.elim .inr .inl
  obtain ⟨e5, fp5, r5⟩ := put_ok r4' (fun a z y => p2.qT a (sub4 a y) (.inr (sub3 a z))) (so3.mono g4.same fun _ _ => rfl) e4
  have r5' : Rep X.K F4 (Ad.nil.or q4) (σ.set i (some v1)) H2 (ds4.set i s3) fp5 := r5.less fun a z => z.elim (fun z => z.elim) id
  obtain ⟨e6, fp6, r6⟩ := put_ok r5' (fun _ _ z => z) so4 e5
  exact k.nx _ _ _ _ fp6 e6 r6 (((p1.g.trans p2.g).trans g3).trans g4)⟩
end
abbrev DGT := D → DS → (DS → Prop) → Prop
def GOk (K : PySem.W.Frag) (g : TG) (us : List Nat) (t : DGT) : Prop :=
  ∀ (F T : Ad) (σ : Sl) (H : Hp) (ds : DS) (fp : Nat → Ad) (v : V) (d : D) (Q : DS → Prop) (R : L2.St → Hp → Prop), Rep K F T σ H ds fp → Is K (res F H) v d → t d ds Q →
    (∀ σ' ds' fp', Q ds' → Rep K F T σ' H ds' fp' → σ'.length = σ.length → (∀ j, j ∉ us → σ'[j]? = σ[j]?) → R σ' H) → g v σ H R
structure DG (X : Cx) (tg : Expr) (g : TG) (us : List Nat) (t : DGT) : Prop where
  pg : PG X tg g
  ok : GOk X.K g us t
abbrev DGTs := List D → DS → (DS → Prop) → Prop
def GsOk (K : PySem.W.Frag) (g : TGs) (us : List Nat) (t : DGTs) : Prop :=
  ∀ (F T : Ad) (σ : Sl) (H : Hp) (ds : DS) (fp : Nat → Ad) (vs : List V) (dl : List D) (Q : DS → Prop) (R : L2.St → Hp → Prop), Rep K F T σ H ds fp → IsA K (res F H) vs dl → t dl ds Q →
    (∀ σ' ds' fp', Q ds' → Rep K F T σ' H ds' fp' → σ'.length = σ.length → (∀ j, j ∉ us → σ'[j]? = σ[j]?) → R σ' H) → g vs σ H R
structure DGs (X : Cx) (tgs : List Expr) (g : TGs) (us : List Nat) (t : DGTs) : Prop where
  pg : PGs X tgs g
  ok : GsOk X.K g us t
@[simp] def gNm (i : Nat) : DGT := fun d ds P => put i (.val d) ds P
@[simp] def gsNil : DGTs := fun dl ds P => match dl with
  | [] => P ds
  | _ => False
@[simp] def gsCons (t : DGT) (u : DGTs) : DGTs := fun dl ds P => match dl with
  | d :: r => t d ds fun ds1 => u r ds1 P
  | [] => False
@[simp] def gTp (n : Nat) (t : DGTs) : DGT := fun d ds P => match d with
  | .tuple xs => xs.length = n ∧ t xs ds P
  | .list xs => xs.length = n ∧ t xs ds P
  | _ => False
section
variable {X : Cx} {K : PySem.W.Frag} {i : Nat} {x : Str} {e : Expr} {es : List Expr} {g : TG} {gs : TGs} {t : DGT} {u : DGTs} {us us' : List Nat} {pos : Pos} {n k : Nat}
theorem gok_nm : GOk K (gName i) [i] (gNm i) := fun F T σ H ds fp v d Q R r x h k => by
  obtain ⟨e, fp', r'⟩ := put_ok (q := Ad.nil) (r.less or_empty) (fun _ z => z.elim) (show SlotOk K (res F H) H (some (some v)) Ad.nil (.val d) from ⟨⟨v, rfl, x⟩, fun _ z => z⟩) h
  exact k _ _ fp' e r' (List.length_set ..) fun j hj => List.getElem?_set_ne fun z => hj (by rw [z]; exact List.mem_singleton.mpr rfl)
theorem dg_nm (hN : X.N.Nodup) (hi : X.N[i]? = some x := by rfl) (hx : Loc X.env.scope x := by first | exact .inl rfl | exact .inr rfl) (hf : X.fn x = true ∨ X.env.scope.names.lookup x = some .local := by first | exact .inl rfl | exact .inr rfl | assumption) : DG X (.Name x pos) (gName i) [i] (gNm i) :=
  ⟨pg_name hN hi hx hf, gok_nm⟩
theorem dgs_nil : DGs X [] gNil [] gsNil := ⟨pgs_nil, fun F T σ H ds fp vs dl Q R r x h k => by
  cases dl with
  | nil => cases x; exact ⟨rfl, k _ _ _ h r rfl fun _ _ => rfl⟩
  | cons _ _ => exact False.elim h⟩
theorem gsok_cons (a : GOk K g us t) (b : GsOk K gs us' u) : GsOk K (gCons g gs) (us ++ us') (gsCons t u) := fun F T σ H ds fp vs dl Q R r x h k => by
  cases dl with
  | nil => exact False.elim h
  | cons d dl =>
    cases x with
    | @cons v vs _ _ x1 x2 =>
      refine ⟨v, vs, rfl, a F T σ H ds fp v d _ _ r x1 h fun σ' ds' fp' h' r' l' o' => ?_⟩
      exact b F T σ' H ds' fp' vs dl _ _ r' x2 h' fun σ'' ds'' fp'' h'' r'' l'' o'' => k _ _ _ h'' r'' (l''.trans l') fun j hj => (o'' j fun z => hj (List.mem_append_right _ z)).trans (o' j fun z => hj (List.mem_append_left _ z))
theorem dgs_cons (a : DG X e g us t) (b : DGs X es gs us' u) (hs : (assignEach (e :: es) X.env).map (·.2) = assign e X.env :: (assignEach es X.env).map (·.2) := by rfl) : DGs X (e :: es) (gCons g gs) (us ++ us') (gsCons t u) := ⟨pgs_cons a.pg b.pg hs, gsok_cons a.ok b.ok⟩
end
end DL
namespace DL
open PySem PySem.Spec PyProof.Rows L2
section
variable {X : Cx} {K : PySem.W.Frag} {i : Nat} {x : Str} {e tg : Expr} {es : List Expr} {g : TG} {gs : TGs} {t : DGT} {u : DGTs} {us : List Nat} {te : TE} {d : DT} {pos p2 p3 pos' : Pos} {n k : Nat}
theorem pg_or {g g' : TG} (h : PG X e g) (h' : PG X e g') : PG X e (fun v σ H Q => g v σ H Q ∨ g' v σ H Q) :=
  ⟨fun pins s σ H v u Q I r w => w.elim (h.run pins s σ H v u Q I r) (h'.run pins s σ H v u Q I r)⟩
theorem dg_tup (h : DGs X es gs us u) (hc : X.calm = true := by rfl) (hn : (assignEach es X.env).length = n := by rfl) (hst : (assignEach es X.env).findIdx? (·.1) = none := by rfl) :
    DG X (.Tuple es k pos) (fun v σ H Q => gTup X.K n gs v σ H Q ∨ gUnl X.K n gs v σ H Q) us (gTp n u) := ⟨pg_or (pg_tup hc h.pg hn hst) (pg_unl hc h.pg hn hst), fun F T σ H ds fp v dd Q R r x h' kk => by
  cases dd <;> first | exact False.elim h' | skip
  · cases x with
    | lst ha hs => exact .inr ⟨_, _, rfl, (same_l (res_same _ _) ha).sq, by rw [hs.length]; exact h'.1, h.ok F T σ H ds fp _ _ _ _ r hs h'.2 kk⟩
  · cases x with
    | tup ha hs => exact .inl ⟨_, _, rfl, same_t (res_same _ _) ha, by rw [hs.length]; exact h'.1, h.ok F T σ H ds fp _ _ _ _ r hs h'.2 kk⟩⟩
/-- target = e, the value taken apart -/
@[simp] def mUnp (d : DT) (t : DGT) : DM := fun E ds => d ds fun h ds1 => take1 h ds1 fun x ds2 => t x ds2 E.nx
theorem ds_unp (he : DO X e te d) (hg : DG X tg g us t) (hs : swapsWithSole [tg] e pos.line X.env = pure false := by rfl) (hw : swappedStores [tg] e X.env = pure none := by rfl) (h1 : (assignEach [tg] X.env).map (·.2) = [assign tg X.env] := by rfl) : DSt X (.Assign [tg] e pos) (tAsg te g) (mUnp d t) :=
  ⟨ps_asg he.pe hg.pg hs hw h1, fun F σ H ds fp E D r a k => by
    refine he.ok F _ σ H ds fp _ _ r a fun h ds' v H' F' fp' q b p => ?_
    obtain ⟨x, ds2, F2, fp2, e2, r2, g2, i2⟩ := take1_ok p.rep p.qT p.r b
    exact hg.ok F2 _ σ H' ds2 fp2 v x _ _ r2 i2 e2 fun σ' ds3 fp3 h3 r3 _ _ => k.nx _ _ _ _ fp3 h3 r3 (p.g.trans g2)⟩
@[simp] def augD : SD → D → (SD → Prop) → Prop
  | .val (.int a), .int b, P => P (.val (.int (a + b)))
  | .own xs, .list ys, P => xs.length + ys.length ≤ sizeLine ∧ P (.own (xs ++ ys))
  | _, _, _ => False
@[simp] def hasV (ds : DS) (i : Nat) : Prop := match ds[i]? with
  | some .no => False
  | some _ => True
  | none => False
@[simp] def mAug (i : Nat) (t : DT) : DM := fun E ds => hasV ds i ∧ t ds fun h ds1 => pk ds1 h fun d => match ds1[i]? with
  | some s => augD s d fun s' => E.nx (ds1.set i s')
  | none => False
open Classical in
/-- the list that slot i owns is another one now -/
theorem Rep.relist {F T : Ad} {σ : Sl} {H : Hp} {ds : DS} {fp : Nat → Ad} {xs ys : List D} (r : Rep K F T σ H ds fp) (e : ds[i]? = some (.own xs)) :
    ∃ a vs, σ[i]? = some (some (.ref a)) ∧ H a = some (.lst vs) ∧ IsA K (res F H) vs xs ∧ ∀ ws, IsA K (res F H) ws ys → Rep K F T σ (upd H a (.lst ws)) (ds.set i (.own ys)) fp ∧ Grow F H F (upd H a (.lst ws)) ∧ ∀ b, T b → upd H a (.lst ws) b = H b := by
  obtain ⟨a, vs, h1, h2, h3, h4⟩ := r.slot i _ e
  have hi : i < ds.length := (List.getElem?_eq_some_iff.mp e).1
  have ha : fp i a := (h2 a).mpr rfl
  refine ⟨a, vs, h1, h3, h4, fun ws hw => ?_⟩
  have g : Grow F H F (upd H a (.lst ws)) := fun b f => ⟨f, upd_ne (ne_by f (r.fF i a ha))⟩
  refine ⟨⟨by rw [List.length_set]; exact r.len, fun j s e' => ?_, fun j b h => by rw [List.length_set]; exact r.out j b h, r.fF, r.fT, r.sep, r.tF, fun b f => ?_, fun b t => ?_⟩, g, fun b t => upd_ne (ne_by t (r.fT i a ha))⟩
  · by_cases hj : j = i
    · subst hj
      rw [List.getElem?_set_self hi] at e'; cases e'
      exact ⟨a, ws, h1, h2, upd_same, hw.mono g.same⟩
    · rw [List.getElem?_set_ne (Ne.symm hj)] at e'
      exact (r.slot j s e').mono g.same fun b hb => upd_ne fun z => by rw [z] at hb; exact hj (r.sep j i a hb ha)
  · rw [upd_ne (ne_by f (r.fF i a ha))]; exact r.fd b f
  · rw [upd_ne (ne_by t (r.fT i a ha))]; exact r.td b t
end
end DL
namespace DL
open PySem PySem.Spec PyProof.Rows L2
@[simp] def isOwn (ds : DS) (i : Nat) : Prop := match ds[i]? with
  | some (.own _) => True
  | _ => False
@[simp] def ownAt (ds : DS) (i : Nat) (P : List D → Prop) : Prop := match ds[i]? with
  | some (.own xs) => P xs
  | _ => False
theorem ownAt_inv {ds : DS} {i : Nat} {P : List D → Prop} (h : ownAt ds i P) : ∃ xs, ds[i]? = some (.own xs) ∧ P xs := by
  cases hs : ds[i]? with
  | none => simp [ownAt, hs] at h
  | some s =>
    cases s with
    | own xs => simp [ownAt, hs] at h; exact ⟨xs, rfl, h⟩
    | no => simp [ownAt, hs] at h
    | val _ => simp [ownAt, hs] at h
    | dic _ => simp [ownAt, hs] at h
    | wd _ => simp [ownAt, hs] at h
    | ob _ => simp [ownAt, hs] at h
@[simp] def mApp (i : Nat) (t : DT) : DM := fun E ds => ownAt ds i fun _ => t ds fun h ds1 => take1 h ds1 fun d ds2 => ownAt ds2 i fun xs => xs.length < sizeLine ∧ E.nx (ds2.set i (.own (xs ++ [d])))
section
variable {X : Cx} {K : PySem.W.Frag} {i : Nat} {x : Str} {e tg iter : Expr} {es : List Expr} {g : TG} {gt : DGT} {us : List Nat} {te : TE} {t : DT} {pos px apos cpos : Pos} {n : Nat}
theorem ds_app (he : DO X e te t) (hi : X.N[i]? = some x := by rfl) (hv : Vis X.env.scope x := by first | exact Or.inl rfl | exact Or.inr (Or.inl rfl) | exact Or.inr (Or.inr rfl)) (hd : (x == ("__debug__" : Str)) = false := by decide)
    (hcd : (x == ("__classdict__" : Str)) = false := by decide) (hse : starEach [e] X.env = (false, eval e X.env) :: starEach [] X.env := by rfl)
    (h1 : attributeBase (.Name x px) "append" X.env (eval (.Name x px) X.env) = eval (.Name x px) X.env := by rfl)
    (h2 : ((backTo cpos (starEach [e] X.env)).all (fun x => !x.1) && (backToKw cpos (keywordEach [] X.env)).all (fun x => x.1.isSome) && decide (([e] : List Expr).length + ([] : List Keyword).length + (if ([] : List Keyword).isEmpty then 0 else 1) < 30)) = true := by rfl)
    (h3 : (apos.endLine == cpos.line) = true := by rfl) (h4 : (backTo cpos (starEach [] X.env)).any (·.1) = false := by rfl)
    (hs : swapsWith (.Call (.Attribute (.Name x px) "append" apos) [e] [] cpos) none pos.line X.env = pure false := by rfl) :
    DSt X (.Expr (.Call (.Attribute (.Name x px) "append" apos) [e] [] cpos) pos) (tDrop (tBM X.K "list" rAppend (tVar i) (tCons te tNil))) (mApp i t) := ⟨ps_expr (pe_bm PySem.F.plainAttrs_list PySem.F.slot_list_append PySem.F.type_list_append mt_append (pe_var hi hv hd hcd) (pa_cons he.pe pa_nil hse) h1 h2 h3 hse h4) hs, fun F σ H ds fp E D r a k => by
  obtain ⟨xs0, h0, a⟩ := ownAt_inv a
  obtain ⟨b, vs0, e0, _, hb, _⟩ := r.slot i _ h0
  refine ⟨.ref b, e0, .inl ⟨rfl, _, .of hb⟩, ?_⟩
  refine he.ok F _ σ H ds fp _ _ r a fun h ds1 v H1 F1 fp1 q c p => ?_
  obtain ⟨d, ds2, F2, fp2, e2, r2, g2, i2⟩ := take1_ok p.rep p.qT p.r c
  obtain ⟨xs, h2, hz, e3⟩ := ownAt_inv e2
  obtain ⟨b', vs, e1, hb', ib, rl⟩ := r2.relist (ys := xs ++ [d]) h2
  rw [e0] at e1; cases e1
  obtain ⟨r5, g5, _⟩ := rl (vs ++ [v]) (ib.append (.cons i2 .nil))
  exact ⟨_, _, _, rfl, rfl, hb', by rw [ib.length]; exact hz, k.nx _ _ _ _ fp2 e3 r5 ((p.g.trans g2).trans g5)⟩⟩
structure ItD (K : PySem.W.Frag) (F : Ad) (H : Hp) (J : It) (items : List D) : Prop where
  go : ∀ F' H' i, Grow F H F' H' → i < items.length → J.go i H'
  stop : ∀ F' H', Grow F H F' H' → J.stop items.length H'
  yld : ∀ F' H' i x H'' d, Grow F H F' H' → items[i]? = some d → J.yld i H' x H'' → (H'' = H' ∧ Is K (res F' H') x d) ∨ ∃ p o, H' p = none ∧ H'' = upd H' p o ∧ seqO o ∧ ∀ F'' : Ad, (∀ a, F' a → F'' a) → F'' p → Is K (res F'' H'') x d
abbrev DIT := DS → (List D → DS → Prop) → Prop
def IOk (K : PySem.W.Frag) (wi : TI) (t : DIT) : Prop :=
  ∀ (F T : Ad) (σ : Sl) (H : Hp) (ds : DS) (fp : Nat → Ad) (Q : List D → DS → Prop) (R : It → Hp → Prop), Rep K F T σ H ds fp → t ds Q →
    (∀ items ds' J H' F' fp', Q items ds' → Rep K F' T σ H' ds' fp' → Grow F H F' H' → (∀ a, T a → H' a = H a) → ItD K F' H' J items → R J H') → wi σ H R
structure DI (X : Cx) (tg iter : Expr) (wi : TI) (t : DIT) : Prop where
  pi : PI X tg iter wi
  ok : IOk X.K wi t
def strItems (z : Str) : List D := z.cps.toList.map fun c => .str ⟨#[c]⟩
@[simp] def iSeq (t : DT) : DIT := fun ds Q => t ds fun h ds1 => take1 h ds1 fun d ds2 => match d with
  | .list xs => Q xs ds2
  | .tuple xs => Q xs ds2
  | .str z => Q (strItems z) ds2
  | _ => False
def iAny (K : PySem.W.Frag) (tl : TE) : TI := fun σ H R => tl σ H fun x H1 => (∃ a, x = .ref a ∧ (∃ xs, SqL K H1 a xs) ∧ R (Itl K a) H1) ∨ ((∃ a, x = .ref a ∧ (∃ xs, SqT K H1 a xs) ∧ R (Itt K a) H1) ∨ ∃ z, x = .str z ∧ R (Its z) H1)
theorem pi_any (hl : PE X e te) : PI X tg e (iAny X.K te) := by
  refine ⟨fun pins s σ H R I h => ?_⟩
  refine thn (hl.run pins s σ H _ I h) fun v s1 ⟨x, H1, I1, r1, q1⟩ => ?_
  rcases q1 with ⟨a, e, ⟨xs, hq⟩, q⟩ | ⟨a, e, ⟨xs, hq⟩, q⟩ | ⟨z, e, q⟩
  · subst e
    cases r1
    obtain ⟨its, rv, p, hz⟩ := I1.list hq
    refine wpAny_pyIter_list p.isList ?_
    refine ⟨s1.heap.objs.size, [s1.heap.objs.size], _, _, H1, rfl, I1.kept (t' := s1.toks) fun b o e => Heap.get?_push_of_some _ e, turn_list a _, ⟨_, Heap.get?_push_size _ rfl, rfl, rfl⟩, fun b hb => ?_, q⟩
    have e : b = s1.heap.objs.size := by simpa using hb
    subst e
    exact I1.fpOk (Nat.le_refl _) (I1.hok.fresh (Nat.le_refl _))
  · subst e
    cases r1
    obtain ⟨its, rv, p, hz⟩ := I1.tuple hq
    refine wpAny_pyIter_tuple (show s1.heap.IsTuple a its.toArray from p) ?_
    refine ⟨s1.heap.objs.size, [s1.heap.objs.size], _, _, H1, rfl, I1.kept (t' := s1.toks) fun b o e => Heap.get?_push_of_some _ e, turn_tuple a _, ⟨_, Heap.get?_push_size _ rfl, rfl, rfl⟩, fun b hb => ?_, q⟩
    have e : b = s1.heap.objs.size := by simpa using hb
    subst e
    exact I1.fpOk (Nat.le_refl _) (I1.hok.fresh (Nat.le_refl _))
  · subst e
    obtain ⟨t, rfl⟩ := r1
    cases ha : z.cps.all (· < 128)
    · exact wpAny_pyIter_wide ha (pi_one (tk := s1.toks) I1 _ (turn_str _ z t "str_iterator" (.inr rfl)) ⟨_, Heap.get?_push_size _ rfl, rfl, rfl⟩ q)
    · exact wpAny_pyIter_ascii ha (pi_one (tk := s1.toks) I1 _ (turn_str _ z t "str_ascii_iterator" (.inl rfl)) ⟨_, Heap.get?_push_size _ rfl, rfl, rfl⟩ q)
theorem itd_list {F : Ad} {H : Hp} {a : Addr} {vs : List V} {xs : List D} (ha : Ls K (res F H) a vs) (h : IsA K (res F H) vs xs) : ItD K F H (Itl K a) xs := by
  have key : ∀ F' H', Grow F H F' H' → SqL K H' a vs ∧ IsA K (res F' H') vs xs := fun F' H' g => ⟨(same_l (res_same _ _) (same_l g.same ha)).sq, h.mono g.same⟩
  refine ⟨fun F' H' i g hi => ?_, fun F' H' g => ?_, fun F' H' i x H'' d g hd y => ?_⟩
  · exact walk_list.goes i H' (by rw [h.length]; exact hi) (key F' H' g).1
  · rw [← h.length]; exact walk_list.stops H' (key F' H' g).1
  · obtain ⟨k1, k2⟩ := key F' H' g
    have hi : i < vs.length := by rw [h.length]; exact (List.getElem?_eq_some_iff.mp hd).1
    obtain ⟨e, hx⟩ := walk_list.yields i H' x H'' hi k1 y
    obtain ⟨d', hd', iv⟩ := k2.get' hx
    rw [hd] at hd'; cases hd'
    exact .inl ⟨e, iv⟩
theorem itd_tup {F : Ad} {H : Hp} {a : Addr} {vs : List V} {xs : List D} (ha : SqT K (res F H) a vs) (h : IsA K (res F H) vs xs) : ItD K F H (Itt K a) xs := by
  have key : ∀ F' H', Grow F H F' H' → SqT K H' a vs ∧ IsA K (res F' H') vs xs := fun F' H' g => ⟨same_t (res_same F' H') (same_t g.same ha), h.mono g.same⟩
  refine ⟨fun F' H' i g hi => ?_, fun F' H' g => ?_, fun F' H' i x H'' d g hd y => ?_⟩
  · exact walk_tup.goes i H' (by rw [h.length]; exact hi) (key F' H' g).1
  · rw [← h.length]; exact walk_tup.stops H' (key F' H' g).1
  · obtain ⟨k1, k2⟩ := key F' H' g
    have hi : i < vs.length := by rw [h.length]; exact (List.getElem?_eq_some_iff.mp hd).1
    obtain ⟨e, hx⟩ := walk_tup.yields i H' x H'' hi k1 y
    obtain ⟨d', hd', iv⟩ := k2.get' hx
    rw [hd] at hd'; cases hd'
    exact .inl ⟨e, iv⟩
theorem itd_str {F : Ad} {H : Hp} {z : Str} : ItD K F H (Its z) (strItems z) := by
  have hl : (strItems z).length = z.cps.size := by unfold strItems; rw [List.length_map, Array.length_toList]
  refine ⟨fun F' H' i g hi => walk_str.goes i H' (by rw [hl] at hi; exact hi) trivial, fun F' H' g => by rw [hl]; exact walk_str.stops H' trivial, fun F' H' i x H'' d g hd y => ?_⟩
  have hi : i < z.cps.size := by rw [← hl]; exact (List.getElem?_eq_some_iff.mp hd).1
  obtain ⟨e, c, hc, rfl⟩ := walk_str.yields i H' x H'' hi trivial y
  unfold strItems at hd
  rw [List.getElem?_map, Array.getElem?_toList, hc] at hd
  cases hd
  exact .inl ⟨e, .str _⟩
theorem iok_seq (h : EOk K te t) : IOk K (iAny K te) (iSeq t) := fun F T σ H ds fp Q R r a k => by
  refine h F T σ H ds fp _ _ r a fun h ds1 v H1 F1 fp1 q c p => ?_
  obtain ⟨d, ds2, F2, fp2, e2, r2, g2, i2⟩ := take1_ok p.rep p.qT p.r c
  cases d <;> first | exact False.elim e2 | skip
  · cases i2
    exact .inr (.inr ⟨_, rfl, k _ _ _ _ _ _ e2 r2 (p.g.trans g2) p.t itd_str⟩)
  · cases i2 with
    | lst ha hs => exact .inl ⟨_, rfl, ⟨_, (same_l (res_same _ _) ha).sq⟩, k _ _ _ _ _ _ e2 r2 (p.g.trans g2) p.t (itd_list ha hs)⟩
  · cases i2 with
    | tup ha hs => exact .inr (.inl ⟨_, rfl, ⟨_, same_t (res_same _ _) ha⟩, k _ _ _ _ _ _ e2 r2 (p.g.trans g2) p.t (itd_tup ha hs)⟩)
theorem di_seq (h : DO X e te t) : DI X tg e (iAny X.K te) (iSeq t) := ⟨pi_any h.pe, iok_seq h.ok⟩
def rngD (lo : Int) (n : Nat) : List D := (List.range n).map fun i : Nat => .int (lo + (i : Int))
theorem itd_rng {F : Ad} {H : Hp} {lo : Int} {n : Nat} : ItD K F H (Itr lo n) (rngD lo n) := by
  have hl : (rngD lo n).length = n := by unfold rngD; rw [List.length_map, List.length_range]
  refine ⟨fun F' H' i g hi => walk_range.goes i H' (by rw [hl] at hi; exact hi) trivial, fun F' H' g => by rw [hl]; exact walk_range.stops H' trivial, fun F' H' i x H'' d g hd y => ?_⟩
  have hi : i < n := by rw [← hl]; exact (List.getElem?_eq_some_iff.mp hd).1
  obtain ⟨e, rfl⟩ := walk_range.yields i H' x H'' hi trivial y
  unfold rngD at hd
  rw [List.getElem?_map, List.getElem?_range hi] at hd
  cases hd
  exact .inl ⟨e, .int _⟩
@[simp] def iR1 (t : DT) : DIT := fun ds Q => t ds fun h ds1 => pk ds1 h fun d => match d with
  | .int n => (-(2 ^ 62) ≤ n ∧ n < 2 ^ 62) ∧ Q (rngD 0 n.toNat) ds1
  | _ => False
@[simp] def iR2 (t u : DT) : DIT := fun ds Q => t ds fun h ds1 => u ds1 fun h2 ds2 => pk ds2 h fun d => pk ds2 h2 fun d2 => match d, d2 with
  | .int m, .int n => (-(2 ^ 62) ≤ m ∧ m < 2 ^ 62 ∧ -(2 ^ 62) ≤ n ∧ n < 2 ^ 62) ∧ Q (rngD m (n - m).toNat) ds2
  | _, _ => False
theorem di_r1 {p' : Pos} (hg : Gl X "range") (hm : X.mg "range" = none) (h : DO X e te t) (hs : starEach [e] X.env = [(false, eval e X.env)] := by rfl) : DI X tg (.Call (.Name "range" p') [e] [] pos) (iRng1 (tCons te tNil)) (iR1 t) :=
  ⟨pi_range1 hg hm (pa_cons h.pe pa_nil hs) hs, fun F T σ H ds fp Q R r a k => by
    refine h.ok F T σ H ds fp _ _ r a fun h ds1 v H1 F1 fp1 q c p => ?_
    obtain ⟨d, i, k2⟩ := pk_ok p.rep p.r c
    cases d <;> first | exact False.elim k2 | skip
    rename_i n
    rw [i.int]
    exact ⟨n, rfl, k2.1.1, k2.1.2, k _ _ _ _ _ fp1 k2.2 (p.rep.less fun _ z => .inl z) p.g p.t itd_rng⟩⟩
def zipD (xs ys : List D) : List D := (xs.zip ys).map fun p => .tuple [p.1, p.2]
@[simp] def iZp (t u : DT) : DIT := fun ds Q => t ds fun h ds1 => u ds1 fun h2 ds2 => takes [h, h2] ds2 fun dl ds3 => match dl with
  | [.list xs, .list ys] => Q (zipD xs ys) ds3
  | [.tuple xs, .tuple ys] => Q (zipD xs ys) ds3
  | _ => False
theorem pair_new {F' : Ad} {H' : Hp} {p : Addr} {x y : V} {a b : D} (hp : H' p = none) (ix : Is K (res F' H') x a) (iy : Is K (res F' H') y b) : ∀ F'' : Ad, (∀ a, F' a → F'' a) → F'' p → Is K (res F'' (upd H' p (.tup [x, y]))) (.ref p) (.tuple [a, b]) := fun F'' h1 h2 => by
  have s : Same (res F' H') (res F'' (upd H' p (.tup [x, y]))) := fun c o e => by
    obtain ⟨f, e⟩ := res_some e
    rw [res_in (h1 c f), upd_ne (ne_of_none e hp)]; exact e
  exact .tup (.of (by rw [res_in h2, upd_same])) (.cons (ix.mono s) (.cons (iy.mono s) .nil))
theorem itd_zip {F : Ad} {H : Hp} {J : It} {xs ys : List D} {G : Hp → Prop} {vs ws : List V} (w : Walk J (min vs.length ws.length) G (YPair (fun i => vs[i]?) fun i => ws[i]?)) (hv : IsA K (res F H) vs xs) (hw : IsA K (res F H) ws ys) (hG : ∀ F' H', Grow F H F' H' → G H') : ItD K F H J (zipD xs ys) := by
  have hl : (zipD xs ys).length = min vs.length ws.length := by unfold zipD; rw [List.length_map, List.length_zip, hv.length, hw.length]
  refine ⟨fun F' H' i g hi => w.goes i H' (by rw [hl] at hi; exact hi) (hG F' H' g), fun F' H' g => by rw [hl]; exact w.stops H' (hG F' H' g), fun F' H' i x H'' d g hd y => ?_⟩
  have hi : i < min vs.length ws.length := by rw [← hl]; exact (List.getElem?_eq_some_iff.mp hd).1
  obtain ⟨p, a, b, rfl, hp, rfl, h1, h2⟩ := w.yields i H' x H'' hi (hG F' H' g) y
  obtain ⟨a', ha, ia⟩ := (hv.mono g.same).get' h1
  obtain ⟨b', hb, ib⟩ := (hw.mono g.same).get' h2
  unfold zipD at hd
  rw [List.getElem?_map, show (xs.zip ys)[i]? = some (a', b') from List.getElem?_zip_eq_some.mpr ⟨ha, hb⟩] at hd
  cases hd
  exact .inr ⟨p, _, hp, rfl, trivial, pair_new hp ia ib⟩
end
def loopD (g : DGT) (b : DM) : List D → DM
  | [], E, ds => E.nx ds
  | d :: r, E, ds => g d ds fun ds1 => b { E with nx := loopD g b r E, ct := loopD g b r E, bk := E.nx } ds1
@[simp] def mFor (ti : DIT) (g : DGT) (b : DM) : DM := fun E ds => ti ds fun items ds1 => loopD g b items E ds1
section
variable {X : Cx} {K : PySem.W.Frag} {tg iter c : Expr} {body : List Stmt} {wi : TI} {g : TG} {us : List Nat} {ts : TS} {ti : DIT} {gt : DGT} {b : DM} {pos : Pos} {tt : TT} {p : DTT}
/-- what a turn hands over -/
theorem yld_rep {F T : Ad} {σ : Sl} {H H'' : Hp} {ds : DS} {fp : Nat → Ad} {x : V} {d : D} (r : Rep K F T σ H ds fp) (y : (H'' = H ∧ Is K (res F H) x d) ∨ ∃ p o, H p = none ∧ H'' = upd H p o ∧ seqO o ∧ ∀ F'' : Ad, (∀ a, F a → F'' a) → F'' p → Is K (res F'' H'') x d) :
    ∃ F'', Rep K F'' T σ H'' ds fp ∧ Grow F H F'' H'' ∧ (∀ a, T a → H'' a = H a) ∧ Is K (res F'' H'') x d ∧ ∀ a o, H a = some o → H'' a = some o := by
  rcases y with ⟨rfl, i⟩ | ⟨p, o, hp, rfl, so, i⟩
  · exact ⟨F, r, .refl, fun _ _ => rfl, i, fun _ _ e => e⟩
  · obtain ⟨r1, g, k⟩ := r.newF hp so
    exact ⟨_, r1, g, k, i _ (fun a f => .inl f) (.inr rfl), fun a o e => by rw [upd_ne (ne_of_none e hp)]; exact e⟩
theorem sok_for (hi : IOk K wi ti) (hg : GOk K g us gt) (hb : SOk K ts b) : SOk K (tFor wi g ts) (mFor ti gt b) := fun F σ H ds fp E D r a k => by
  refine hi F _ σ H ds fp _ _ r a fun items ds1 J H1 F1 fp1 h1 r1 g1 _ I => ?_
  refine ⟨fun i m σ' H' => i + m = items.length ∧ ∃ ds' F' fp', loopD gt b (items.drop i) E ds' ∧ Rep K F' Ad.nil σ' H' ds' fp' ∧ Grow F1 H1 F' H', ⟨items.length, by omega, ds1, F1, fp1, h1, r1, .refl⟩, ?_⟩
  rintro i m σ' H' ⟨hm, ds', F', fp', h', r', g'⟩
  by_cases hlt : i < items.length
  · refine .inr ⟨I.go F' H' i g' hlt, fun σ'' H'' => ∃ ds' F' fp', loopD gt b (items.drop (i + 1)) E ds' ∧ Rep K F' Ad.nil σ'' H'' ds' fp' ∧ Grow F1 H1 F' H'', fun σ'' H'' z => ⟨m - 1, by omega, by omega, z⟩, fun x H2 y => ?_⟩
    rw [List.drop_eq_getElem_cons hlt] at h'
    obtain ⟨F2, r2, g2, _, i2, _⟩ := yld_rep r' (I.yld F' H' i x H2 items[i] g' (List.getElem?_eq_getElem hlt) y)
    refine hg F2 _ σ' H2 ds' fp' x items[i] _ _ r2 i2 h' fun σ3 ds3 fp3 h3 r3 _ _ => ?_
    refine hb F2 σ3 H2 ds3 fp3 _ _ r3 h3 ⟨fun σ4 H4 ds4 F4 fp4 a4 r4 g4 => ⟨ds4, F4, fp4, a4, r4, (g'.trans g2).trans g4⟩, fun h ds4 v σ4 H4 F4 fp4 q a4 p4 => ?_, fun σ4 H4 ds4 F4 fp4 a4 r4 g4 => ?_, fun σ4 H4 ds4 F4 fp4 a4 r4 g4 => ⟨ds4, F4, fp4, a4, r4, (g'.trans g2).trans g4⟩⟩
    · exact k.rt _ _ _ _ _ _ _ _ a4 (p4.pre (((g1.trans g').trans g2)) fun _ z => z.elim)
    · exact k.nx _ _ _ _ _ a4 r4 (((g1.trans g').trans g2).trans g4)
  · have e : i = items.length := by omega
    subst e
    rw [List.drop_length] at h'
    exact .inl ⟨I.stop F' H' g', k.nx _ _ _ _ _ h' r' (g1.trans g')⟩
theorem ds_for (hp : PassesOwn (model X.prog X.w) X.A X.env X.xe) (hi : DI X tg iter wi ti) (hg : DG X tg g us gt) (hb : DSs X body ts b) (hc : X.calm = true := by rfl) (hs : ∀ x, foldedSetIterable iter X.env x = pure x := by intro _; rfl) :
    DSt X (.For tg iter body [] pos) (tFor wi g ts) (mFor ti gt b) := ⟨ps_for hp hc hi.pi hg.pg hb.ps hs, sok_for hi.ok hg.ok hb.ok⟩
end
end DL
namespace DL
open PySem PySem.Spec PyProof.Rows L2
structure DCs (X : Cx) (ifs : List Expr) (tt : TT) (t : DTT) : Prop where
  pt : PTs X ifs tt
  ok : BTOk X.K tt t
/-- what an expression needs, told by its data alone -/
def tStar (K : PySem.W.Frag) (t : DT) : TE := fun σ H R => ∃ (F T : Ad) (ds : DS) (fp : Nat → Ad) (Q : QE), Rep K F T σ H ds fp ∧ t ds Q ∧ ∀ h ds' v H' F' fp' q, Q h ds' → Pst K F T H σ v h ds' F' H' fp' q → R v H'
theorem DO.star {X : Cx} {e : Expr} {te : TE} {t : DT} (h : DO X e te t) : DO X e (tStar X.K t) t :=
  ⟨⟨fun pins s σ H Q I ⟨F, T, ds, fp, D, r, a, k⟩ => h.pe.run pins s σ H Q I (h.ok F T σ H ds fp D Q r a k)⟩, fun F T σ H ds fp Q R r a k => ⟨F, T, ds, fp, Q, r, a, k⟩⟩
def tStarB (K : PySem.W.Frag) (t : DTT) : TT := fun σ H R => ∃ (F T : Ad) (ds : DS) (fp : Nat → Ad) (Q : Bool → DS → Prop), Rep K F T σ H ds fp ∧ t ds Q ∧ ∀ b ds' H' F' fp', Q b ds' → Rep K F' T σ H' ds' fp' → Grow F H F' H' → (∀ a, T a → H' a = H a) → R b H'
theorem DCs.star {X : Cx} {ifs : List Expr} {tt : TT} {t : DTT} (h : DCs X ifs tt t) : DCs X ifs (tStarB X.K t) t :=
  ⟨⟨fun pins s σ H Q I ⟨F, T, ds, fp, D, r, a, k⟩ => h.pt.run pins s σ H Q I (h.ok F T σ H ds fp D Q r a k)⟩, fun F T σ H ds fp Q R r a k => ⟨F, T, ds, fp, Q, r, a, k⟩⟩
@[simp] def cYes : DTT := fun ds Q => Q true ds
theorem dcs_nil {X : Cx} : DCs X [] tYes cYes := ⟨pts_nil, fun F T σ H ds fp Q R r h k => k _ _ _ _ _ h r .refl fun _ _ => rfl⟩
theorem dcs_one {X : Cx} {c : Expr} {tt : TT} {t : DTT} (h : DB X c tt t) : DCs X [c] tt t := ⟨pts_one h.pt, h.ok⟩
@[simp] def wipeD (ds : DS) : List Nat → DS
  | [] => ds
  | v :: vs => (wipeD ds vs).set v .no
@[simp] def keepV : SD → SD
  | .val d => .val d
  | _ => .no
@[simp] def restD (vs : List Nat) : Nat → DS → DS → DS
  | k, a :: as, b :: bs => (if vs.contains k = true then keepV a else b) :: restD vs (k + 1) as bs
  | _, _, bs => bs
section
variable {K : PySem.W.Frag} {F F' F1 T T1 : Ad} {σ : Sl} {H H' H1 : Hp} {ds ds1 ds2 : DS} {fp fp1 fp2 : Nat → Ad} {v : Nat} {vs : List Nat}
theorem Rep.unset (r : Rep K F T σ H ds fp) (v : Nat) : Rep K F T (σ.set v none) H (ds.set v .no) (fun j a => j ≠ v ∧ fp j a) := by
  refine ⟨by rw [List.length_set, List.length_set]; exact r.len, fun j s e => ?_, fun j a h => by rw [List.length_set]; exact r.out j a h.2, fun j a h => r.fF j a h.2, fun j a h => r.fT j a h.2, fun i j a h h' => r.sep i j a h.2 h'.2, r.tF, r.fd, r.td⟩
  by_cases hj : j = v
  · subst hj
    have hi : j < ds.length := by have := (List.getElem?_eq_some_iff.mp e).1; rw [List.length_set] at this; exact this
    rw [List.getElem?_set_self hi] at e; cases e
    exact fun a z => z.1 rfl
  · rw [List.getElem?_set_ne (Ne.symm hj)] at e
    rw [List.getElem?_set_ne (Ne.symm hj)]
    exact (r.slot j s e).fpx fun a => ⟨fun z => z.2, fun z => ⟨hj, z⟩⟩
theorem Rep.wipe (r : Rep K F T σ H ds fp) : ∀ vs : List Nat, ∃ fp', Rep K F T (wipe σ vs) H (wipeD ds vs) fp'
  | [] => ⟨fp, r⟩
  | v :: vs => by
    obtain ⟨fp', r'⟩ := Rep.wipe r vs
    exact ⟨_, r'.unset v⟩
theorem restD_get : ∀ (vs : List Nat) (k : Nat) (ds1 ds2 : DS) (i : Nat), ds1.length = ds2.length → (restD vs k ds1 ds2)[i]? = if vs.contains (k + i) = true then ds1[i]?.map keepV else ds2[i]?
  | vs, k, [], [], i, _ => by simp [restD]
  | vs, k, a :: as, b :: bs, 0, _ => by
    simp only [restD, Nat.add_zero, List.getElem?_cons_zero, Option.map_some]
    split <;> rfl
  | vs, k, a :: as, b :: bs, i + 1, h => by
    simp only [restD, List.getElem?_cons_succ]
    rw [restD_get vs (k + 1) as bs i (by simpa using h)]
    rw [show k + 1 + i = k + (i + 1) by omega]
theorem restD_len : ∀ (vs : List Nat) (k : Nat) (ds1 ds2 : DS), (restD vs k ds1 ds2).length = ds2.length
  | _, _, [], _ => by simp [restD]
  | _, _, _ :: _, [] => by simp [restD]
  | vs, k, a :: as, b :: bs => by simp [restD, restD_len vs (k + 1) as bs]
theorem wipe_in {σ : Sl} {i : Nat} : ∀ {vs : List Nat}, i ∈ vs → (L2.wipe σ vs)[i]? = if i < σ.length then some none else none
  | v :: vs, h => by
    unfold L2.wipe
    by_cases e : i = v
    · subst e
      by_cases hi : i < σ.length
      · rw [List.getElem?_set_self (by rw [wipe_length]; exact hi), if_pos hi]
      · rw [List.getElem?_eq_none (by rw [List.length_set, wipe_length]; omega), if_neg hi]
    · rw [List.getElem?_set_ne (Ne.symm e)]
      exact wipe_in ((List.mem_cons.mp h).resolve_left e)
theorem wipe_eq {σ σ2 : Sl} {us vs : List Nat} (hl : σ2.length = (L2.wipe σ vs).length) (h : ∀ j, j ∉ us → σ2[j]? = (L2.wipe σ vs)[j]?) (hs : ∀ i ∈ us, i ∈ vs) : L2.wipe σ2 vs = L2.wipe σ vs := by
  rw [wipe_length] at hl
  apply List.ext_getElem?
  intro j
  by_cases hj : j ∈ vs
  · rw [wipe_in hj, wipe_in hj, hl]
  · rw [wipe_out hj, h j fun z => hj (hs j z)]
open Classical in
theorem Rep.unwipe (r : Rep K F' T (L2.wipe σ vs) H' ds2 fp2) (r1 : Rep K F1 T1 σ H1 ds1 fp1) (g : Grow F1 H1 F' H') : Rep K F' T σ H' (restD vs 0 ds1 ds2) (fun j a => j ∉ vs ∧ fp2 j a) := by
  have l2 : ds2.length = σ.length := by rw [r.len, wipe_length]
  refine ⟨by rw [restD_len]; exact l2, fun j s e => ?_, fun j a h => by rw [restD_len]; exact r.out j a h.2, fun j a h => r.fF j a h.2, fun j a h => r.fT j a h.2, fun i j a h h' => r.sep i j a h.2 h'.2, r.tF, r.fd, r.td⟩
  rw [restD_get vs 0 ds1 ds2 j (r1.len.trans l2.symm), Nat.zero_add] at e
  by_cases hj : j ∈ vs
  · rw [if_pos (List.contains_iff_mem.mpr hj)] at e
    cases h1 : ds1[j]? with
    | none => rw [h1] at e; cases e
    | some s1 =>
      rw [h1] at e
      cases e
      have z := r1.slot j s1 h1
      cases s1 with
      | val d =>
        obtain ⟨⟨v, e1, i1⟩, _⟩ := z
        exact ⟨⟨v, e1, i1.mono g.same⟩, fun a z => z.1 hj⟩
      | no => exact fun a z => z.1 hj
      | own _ => exact fun a z => z.1 hj
      | dic _ => exact fun a z => z.1 hj
      | wd _ => exact fun a z => z.1 hj
      | ob _ => exact fun a z => z.1 hj
  · rw [if_neg fun z => hj (List.contains_iff_mem.mp z)] at e
    have z := r.slot j s e
    rw [wipe_out hj] at z
    exact z.fpx fun a => ⟨fun z => z.2, fun z => ⟨hj, z⟩⟩
end
def compD (g : DGT) (c : DTT) (t : DT) (vs : List Nat) : List D → List D → DS → (List D → DS → Prop) → Prop
  | [], acc, ds, P => P acc ds
  | d :: r, acc, ds, P => g d ds fun ds1 => c ds1 fun b ds2 => if b = true then t ds2 fun h ds3 => take1 h ds3 fun x ds4 => compD g c t vs r (acc ++ [x]) (wipeD ds4 vs) P else compD g c t vs r acc (wipeD ds2 vs) P
@[simp] def dComp (ti : DIT) (g : DGT) (c : DTT) (t : DT) (vs : List Nat) : DT := fun ds Q => ti ds fun items ds1 => items.length ≤ sizeLine ∧ compD g c t vs items [] (wipeD ds1 vs) fun out ds2 => Q (.new (.own out)) (restD vs 0 ds1 ds2)
section
variable {X : Cx} {K : PySem.W.Frag} {elt tg iter : Expr} {ifs : List Expr} {scope : Scope} {own : List (Str × Nat)} {wi : TI} {g : TG} {us vs : List Nat} {tt : TT} {te : TE} {ti : DIT} {gt : DGT} {ct : DTT} {et : DT} {pos spos py : Pos} {i : Nat} {y : Str}
theorem eok_comp (hi : IOk K wi ti) (hg : GOk K g us gt) (hsub : ∀ i ∈ us, i ∈ vs) (hc : BTOk K tt ct) (he : EOk K te et) : EOk K (tLc wi g tt te vs) (dComp ti gt ct et vs) := fun F T σ H ds fp Q R r a k => by
  refine hi F T σ H ds fp _ _ r a fun items ds1 J H1 F1 fp1 h1 r1 g1 t1 I => ?_
  intro L hL
  obtain ⟨r2, g2, t2⟩ := r1.newT (o := .lst []) hL trivial
  obtain ⟨fp2, r2⟩ := r2.wipe vs
  obtain ⟨nF, nT, _⟩ := r1.new_ne hL
  refine ⟨fun i m H' => i + m = items.length ∧ ∃ acc accV ds' F' fp', compD gt ct et vs (items.drop i) acc ds' (fun out ds2 => Q (.new (.own out)) (restD vs 0 ds1 ds2)) ∧ Rep K F' (T.or (· = L)) (L2.wipe σ vs) H' ds' fp' ∧ Grow F1 H1 F' H' ∧
    (∀ a, T a → H' a = H1 a) ∧ H' L = some (.lst accV) ∧ IsA K (res F' H') accV acc ∧ acc.length ≤ i, ⟨items.length, by omega, [], [], _, F1, fp2, h1.2, r2, g2, t2, upd_same, .nil, Nat.le_refl _⟩, ?_⟩
  rintro i m H' ⟨hm, acc, accV, ds', F', fp', h', r', g', t', hL', ia, hacc⟩
  by_cases hlt : i < items.length
  · refine .inr ⟨I.go F' H' i g' hlt, fun H'' => ∃ acc accV ds' F' fp', compD gt ct et vs (items.drop (i + 1)) acc ds' (fun out ds2 => Q (.new (.own out)) (restD vs 0 ds1 ds2)) ∧ Rep K F' (T.or (· = L)) (L2.wipe σ vs) H'' ds' fp' ∧ Grow F1 H1 F' H'' ∧
      (∀ a, T a → H'' a = H1 a) ∧ H'' L = some (.lst accV) ∧ IsA K (res F' H'') accV acc ∧ acc.length ≤ i + 1, fun H'' z => ⟨m - 1, by omega, by omega, z⟩, fun x H2 y => ?_⟩
    rw [List.drop_eq_getElem_cons hlt] at h'
    obtain ⟨F2, r2, g2, t2, i2, kp⟩ := yld_rep r' (I.yld F' H' i x H2 items[i] g' (List.getElem?_eq_getElem hlt) y)
    refine hg F2 _ _ H2 ds' fp' x items[i] _ _ r2 i2 h' fun σ3 ds3 fp3 h3 r3 l3 o3 => ?_
    have hw : L2.wipe σ3 vs = L2.wipe σ vs := wipe_eq l3 o3 hsub
    refine ⟨hw, ?_⟩
    refine hc F2 _ σ3 H2 ds3 fp3 _ _ r3 h3 fun b ds4 H4 F4 fp4 h4 r4 g4 t4 => ?_
    have hL4 : H4 L = some (.lst accV) := by rw [t4 L (.inr rfl), t2 L (.inr rfl)]; exact hL'
    cases b with
    | false =>
      obtain ⟨fp5, r5⟩ := r4.wipe vs
      rw [hw] at r5
      exact ⟨acc, accV, _, F4, fp5, h4, r5, (g'.trans g2).trans g4, fun a z => (t4 a (.inl z)).trans ((t2 a (.inl z)).trans (t' a z)), hL4, (ia.mono g2.same).mono g4.same, by omega⟩
    | true =>
      show te σ3 H4 _
      refine he F4 _ σ3 H4 ds4 fp4 _ _ r4 h4 fun h ds5 v H5 F5 fp5 q5 k5 p5 => ?_
      obtain ⟨d, ds6, F6, fp6, k6, r6, g6, i6⟩ := take1_ok p5.rep p5.qT p5.r k5
      have hL5 : H5 L = some (.lst accV) := by rw [p5.t L (.inr rfl)]; exact hL4
      have nF6 : ¬ F6 L := r6.tF L (.inr rfl)
      have G6 : Grow F6 H5 F6 (upd H5 L (.lst (accV ++ [v]))) := fun a f => ⟨f, upd_ne (ne_by f nF6)⟩
      have r7 : Rep K F6 (T.or (· = L)) σ3 (upd H5 L (.lst (accV ++ [v]))) ds6 fp6 := by
        refine r6.go G6 (fun i a z => ⟨upd_ne fun e => ?_, r6.fF i a z, r6.fT i a z⟩) r6.tF (fun a f => ?_) fun a z => ?_
        · exact r6.fT i a z (.inr e)
        · rw [upd_ne (ne_by f nF6)]; exact r6.fd a f
        · by_cases e : a = L
          · rw [e, upd_same]; exact ⟨_, rfl, trivial⟩
          · rw [upd_ne e]; exact r6.td a z
      obtain ⟨fp8, r8⟩ := r7.wipe vs
      rw [hw] at r8
      have G : Grow F1 H1 F6 (upd H5 L (.lst (accV ++ [v]))) := ((((g'.trans g2).trans g4).trans p5.g).trans g6).trans G6
      have ia6 : IsA K (res F6 H5) accV acc := (((ia.mono g2.same).mono g4.same).mono p5.g.same).mono g6.same
      refine ⟨accV, hL5, ?_, acc ++ [d], accV ++ [v], _, F6, fp8, k6, r8, G, fun a z => ?_, upd_same, (ia6.append (.cons i6 .nil)).mono G6.same, ?_⟩
      · rw [ia6.length]
        have := h1.1
        omega
      · have : a ≠ L := ne_by z nT
        rw [upd_ne this, p5.t a (.inl z), t4 a (.inl z), t2 a (.inl z), t' a z]
      · rw [List.length_append, List.length_singleton]; omega
  · have e : i = items.length := by omega
    subst e
    rw [List.drop_length] at h'
    refine .inl ⟨I.stop F' H' g', ?_⟩
    refine k _ _ _ _ _ _ (· = L) h' ⟨r'.unwipe r1 g', fun a z t => nT (z ▸ t), g1.trans g', fun a z => (t' a z).trans (t1 a z), ⟨L, accV, rfl, fun _ => Iff.rfl, hL', ia⟩⟩
theorem do_comp0 (hN : X.N.Nodup) (hi : DI X tg iter wi ti) (ok : BlkOk X.N X.env.scope scope own)
    (hg : ∀ (s : Shared) (H : Hp) (C : Addr) (cl : List (Str × Addr)) (fp : List Addr), DG (X.blk s H scope (compEnvC scope cl C X.env) fp) tg g us gt)
    (ht : ∀ (s : Shared) (H : Hp) (C : Addr) (cl : List (Str × Addr)) (fp : List Addr), DCs (X.blk s H scope (compEnvC scope cl C X.env) fp) ifs tt ct)
    (he : ∀ (s : Shared) (H : Hp) (C : Addr) (cl : List (Str × Addr)) (fp : List Addr), DO (X.blk s H scope (compEnvC scope cl C X.env) fp) elt te et)
    (hsub : ∀ i ∈ us, i ∈ own.map (·.2)) (hc : X.calm = true) (hs : ∀ x, foldedSetIterable iter X.env x = pure x) :
    DO X (.ListComp elt [⟨tg, iter, ifs, 0⟩] scope pos) (tLc wi g tt te (own.map (·.2))) (dComp ti gt ct et (own.map (·.2))) :=
  ⟨pe_lc hc hN hi.pi ok (fun s H C cl fp => (hg s H C cl fp).pg) (fun s H C cl fp => (ht s H C cl fp).pt) (fun s H C cl fp => (he s H C cl fp).pe) hs,
    eok_comp hi.ok (hg X.s_0 X.H_0 0 [] []).ok hsub (ht X.s_0 X.H_0 0 [] []).ok (he X.s_0 X.H_0 0 [] []).ok⟩
theorem ds_setc0 (hN : X.N.Nodup) (hi : DI X tg iter wi ti) (ok : BlkOk X.N X.env.scope scope own)
    (hg : ∀ (s : Shared) (H : Hp) (C : Addr) (cl : List (Str × Addr)) (fp : List Addr), DG (X.blk s H scope (compEnvC scope cl C X.env) fp) tg g us gt)
    (ht : ∀ (s : Shared) (H : Hp) (C : Addr) (cl : List (Str × Addr)) (fp : List Addr), DCs (X.blk s H scope (compEnvC scope cl C X.env) fp) ifs tt ct)
    (he : ∀ (s : Shared) (H : Hp) (C : Addr) (cl : List (Str × Addr)) (fp : List Addr), DO (X.blk s H scope (compEnvC scope cl C X.env) fp) elt te et)
    (hsw : swapsWith (.ListComp elt [⟨tg, iter, ifs, 0⟩] scope pos) (some (.Name y py)) spos.line X.env = pure true)
    (hy : X.N[i]? = some y := by rfl) (hyl : X.env.scope.names.lookup y = some .local := by rfl)
    (hsub : ∀ i ∈ us, i ∈ own.map (·.2)) (hc : X.calm = true) (hs : ∀ x, foldedSetIterable iter X.env x = pure x) :
    DSt X (.Assign [.Name y py] (.ListComp elt [⟨tg, iter, ifs, 0⟩] scope pos) spos) (tAsg (tLc wi g tt te (own.map (·.2))) (gName i)) (mSet i (dComp ti gt ct et (own.map (·.2)))) :=
  ⟨ps_setLc hc hN hy hyl hsw hi.pi ok (fun s H C cl fp => (hg s H C cl fp).pg) (fun s H C cl fp => (ht s H C cl fp).pt) (fun s H C cl fp => (he s H C cl fp).pe) hs,
    sok_set (eok_comp hi.ok (hg X.s_0 X.H_0 0 [] []).ok hsub (ht X.s_0 X.H_0 0 [] []).ok (he X.s_0 X.H_0 0 [] []).ok)⟩
theorem do_comp (hN : X.N.Nodup) (hi : DI X tg iter wi ti) (ok : BlkOk X.N X.env.scope scope own)
    (hg : ∀ (s : Shared) (H : Hp) (C : Addr) (cl : List (Str × Addr)) (fp : List Addr), DG (X.blk s H scope (compEnvC scope cl C X.env) fp) tg g us gt)
    (ht : ∀ (s : Shared) (H : Hp) (C : Addr) (cl : List (Str × Addr)) (fp : List Addr), ∃ tt, DCs (X.blk s H scope (compEnvC scope cl C X.env) fp) ifs tt ct)
    (he : ∀ (s : Shared) (H : Hp) (C : Addr) (cl : List (Str × Addr)) (fp : List Addr), ∃ te, DO (X.blk s H scope (compEnvC scope cl C X.env) fp) elt te et)
    (hsub : ∀ i ∈ us, i ∈ own.map (·.2)) (hc : X.calm = true) (hs : ∀ x, foldedSetIterable iter X.env x = pure x) :
    DO X (.ListComp elt [⟨tg, iter, ifs, 0⟩] scope pos) (tLc wi g (tStarB X.K ct) (tStar X.K et) (own.map (·.2))) (dComp ti gt ct et (own.map (·.2))) :=
  do_comp0 hN hi ok hg (fun s H C cl fp => (ht s H C cl fp).elim fun _ z => z.star) (fun s H C cl fp => (he s H C cl fp).elim fun _ z => z.star) hsub hc hs
theorem ds_setc (hN : X.N.Nodup) (hi : DI X tg iter wi ti) (ok : BlkOk X.N X.env.scope scope own)
    (hg : ∀ (s : Shared) (H : Hp) (C : Addr) (cl : List (Str × Addr)) (fp : List Addr), DG (X.blk s H scope (compEnvC scope cl C X.env) fp) tg g us gt)
    (ht : ∀ (s : Shared) (H : Hp) (C : Addr) (cl : List (Str × Addr)) (fp : List Addr), ∃ tt, DCs (X.blk s H scope (compEnvC scope cl C X.env) fp) ifs tt ct)
    (he : ∀ (s : Shared) (H : Hp) (C : Addr) (cl : List (Str × Addr)) (fp : List Addr), ∃ te, DO (X.blk s H scope (compEnvC scope cl C X.env) fp) elt te et)
    (hsw : swapsWith (.ListComp elt [⟨tg, iter, ifs, 0⟩] scope pos) (some (.Name y py)) spos.line X.env = pure true)
    (hy : X.N[i]? = some y := by rfl) (hyl : X.env.scope.names.lookup y = some .local := by rfl)
    (hsub : ∀ i ∈ us, i ∈ own.map (·.2)) (hc : X.calm = true) (hs : ∀ x, foldedSetIterable iter X.env x = pure x) :
    DSt X (.Assign [.Name y py] (.ListComp elt [⟨tg, iter, ifs, 0⟩] scope pos) spos) (tAsg (tLc wi g (tStarB X.K ct) (tStar X.K et) (own.map (·.2))) (gName i)) (mSet i (dComp ti gt ct et (own.map (·.2)))) :=
  ds_setc0 hN hi ok hg (fun s H C cl fp => (ht s H C cl fp).elim fun _ z => z.star) (fun s H C cl fp => (he s H C cl fp).elim fun _ z => z.star) hsw hy hyl hsub hc hs
end
@[simp] def retD : Hd → DS → (SD → Prop) → Prop
  | .tmp d, _, Q => Q (.val d)
  | .new s, _, Q => Q s
  | .slot i, ds, Q => match ds[i]? with
    | some (.val d) => Q (.val d)
    | some (.own xs) => Q (.own xs)
    | _ => False
  | .fld _ _ _, _, _ => False
@[simp] def enF (P : SD → Prop) : En := ⟨fun _ => P (.val .none), fun h ds => retD h ds P, fun _ => False, fun _ => False⟩
@[simp] def slots0 (n : Nat) (dl : List D) : DS := dl.map .val ++ List.replicate (n - dl.length) .no
section
variable {P : Program} {w : World} {K : PySem.W.Frag} {mg : Str → Option Value} {base : Heap}
theorem isA_rep {F : Ad} {H : Hp} (sa : seqAll F H) {vs : List V} {dl : List D} (h : IsA K (res F H) vs dl) (m : Nat) : Rep K F Ad.nil (vs.map some ++ List.replicate m none) H (dl.map .val ++ List.replicate m .no) (fun _ => Ad.nil) := by
  refine ⟨by simp [h.length], fun i s e => ?_, fun _ _ z => z.elim, fun _ _ z => z.elim, fun _ _ z => z.elim, fun _ _ _ z => z.elim, fun _ z => z.elim, sa, fun _ z => z.elim⟩
  by_cases hi : i < dl.length
  · rw [List.getElem?_append_left (by simpa using hi), List.getElem?_map, List.getElem?_eq_getElem hi] at e
    cases e
    obtain ⟨v, hv, iv⟩ := h.get (List.getElem?_eq_getElem hi)
    refine ⟨⟨v, ?_, iv⟩, fun _ z => z⟩
    rw [List.getElem?_append_left (by rw [List.length_map, h.length]; exact hi), List.getElem?_map, hv]
    rfl
  · rw [List.getElem?_append_right (by simpa using hi), List.getElem?_replicate] at e
    split at e
    · cases e; exact fun _ z => z
    · cases e
theorem dfun {x qual : Str} {st : Stmt} {f : Addr} {fd : FuncData} {N ps : List Str} {k : Nat} {g : DF} {tb : DM} (F : Fun K x qual st f fd) (S : FnScope N ps (defScope st))
    (hd : ∀ (cdv : Value) (A : Around) (outer : List Env) (s : Shared) (H : Hp) (E : XK), Room k (A.deeper (envOfC qual (defScope st) s.heap.objs.size f cdv)) → ∃ ts, DSs (cxOf CX0 P w K mg base N qual (defScope st) f cdv A outer s H E).nox (defBody st) ts tb)
    (hr : ∀ dl Q, dl.length = ps.length → g dl Q → tb (enF Q) (slots0 N.length dl)) : FnOk P w K mg base CX0 (k + 1) f fd ps (spP K ps.length g) := by
  refine F.ok S (fun vs H Q E h => h.1) (fun cdv A outer s H vs Q E hroom h => ?_)
  obtain ⟨hn, F0, dl, ia, sa, W, hg, hk⟩ := h
  obtain ⟨ts, b⟩ := hd cdv A outer s H E hroom
  refine ⟨ts, b.ps, ?_⟩
  have hl : dl.length = ps.length := by rw [← ia.length]; exact hn
  have r := isA_rep sa ia (N.length - vs.length)
  have e1 : (dl.map .val ++ List.replicate (N.length - vs.length) .no : DS) = slots0 N.length dl := by unfold slots0; rw [ia.length]
  rw [e1] at r
  have r : Rep K F0 Ad.nil (start N vs) H (slots0 N.length dl) (fun _ => Ad.nil) := r
  refine b.ok F0 _ H _ _ _ _ r (hr dl W hl hg) ⟨fun σ' H' ds' F' fp' e r' g' => ?_, fun h ds' v σ' H' F' fp' q e p => ?_, fun _ _ _ _ _ e => e.elim, fun _ _ _ _ _ e => e.elim⟩
  · exact hk _ e H' .non F' Ad.nil g' r'.fd (fun _ z => z.elim) ⟨⟨_, rfl, .non⟩, fun _ z => z⟩
  · cases h with
    | tmp d => exact hk _ e H' v F' Ad.nil p.g p.rep.fd (fun _ z => z.elim) ⟨⟨_, rfl, p.r⟩, fun _ z => z⟩
    | new s => exact hk _ e H' v F' q p.g p.rep.fd (fun a z => ⟨p.rep.tF a (.inr z), p.rep.td a (.inr z)⟩) p.r
    | fld _ _ _ => exact False.elim e
    | slot i =>
      have e : retD (.slot i) ds' W := e
      have hv : σ'[i]? = some (some v) := p.r
      cases hs : ds'[i]? with
      | none => simp [retD, hs] at e
      | some s =>
        have z := p.rep.slot i s hs
        cases s with
        | val d =>
          simp [retD, hs] at e
          obtain ⟨⟨v', e1, i1⟩, _⟩ := z
          rw [hv] at e1; cases e1
          exact hk _ e H' v F' Ad.nil p.g p.rep.fd (fun _ z => z.elim) ⟨⟨_, rfl, i1⟩, fun _ z => z⟩
        | own xs =>
          simp [retD, hs] at e
          have z' := z
          obtain ⟨a, vs', e1, e2, e3, e4⟩ := z'
          rw [hv] at z
          exact hk _ e H' v F' (fp' i) p.g p.rep.fd (fun a z => ⟨p.rep.fF i a z, p.rep.fdom z⟩) z
        | no => simp [retD, hs] at e
        | dic _ => simp [retD, hs] at e
        | wd _ => simp [retD, hs] at e
        | ob _ => simp [retD, hs] at e
end
end DL
namespace DL
open PySem PySem.Spec PyProof.Rows L2
abbrev DFW := Wd → List D → (SD → Wd → Prop) → Prop
def spW (K : PySem.W.Frag) (n : Nat) (g : DFW) : Sp := fun vs H Q _ => vs.length = n + 1 ∧ ∃ F w ws dl, vs = w.val :: ws ∧ IsA K (res F H) ws dl ∧ seqAll F H ∧ w.ok (res F H) H ∧ (∀ a, w.fp a → ¬ F a) ∧
  ∃ P : SD → Wd → Prop, g w dl P ∧ ∀ r w', P r w' → ∀ (H' : Hp) (v : V) (F' q : Ad), Grow F H F' H' → seqAll F' H' → (∀ a, q a → ¬ F' a ∧ ¬ w'.fp a ∧ ∃ o, H' a = some o ∧ bigO o) → w'.val = w.val → w'.ok (res F' H') H' → (∀ a, w'.fp a → ¬ F' a) →
    SlotOk K (res F' H') H' (some (some v)) q r → Q v H'
@[simp] def wdAt (ds : DS) (i : Nat) (P : Wd → Prop) : Prop := match ds[i]? with
  | some (.wd w) => P w
  | _ => False
theorem wdAt_inv {ds : DS} {i : Nat} {P : Wd → Prop} (h : wdAt ds i P) : ∃ w, ds[i]? = some (.wd w) ∧ P w := by
  cases hs : ds[i]? with
  | none => simp [wdAt, hs] at h
  | some s =>
    cases s with
    | wd w => simp [wdAt, hs] at h; exact ⟨w, rfl, h⟩
    | ob _ => simp [wdAt, hs] at h
    | no => simp [wdAt, hs] at h
    | val _ => simp [wdAt, hs] at h
    | dic _ => simp [wdAt, hs] at h
    | own _ => simp [wdAt, hs] at h
/-- f(x, ..), x the thing at slot j -/
@[simp] def dCallW (j : Nat) (g : DFW) (t : DTA) : DT := fun ds Q => wdAt ds j fun _ => t ds fun hs ds1 => takes hs ds1 fun dl ds2 => wdAt ds2 j fun w => g w dl fun r w' => w'.val = w.val ∧ Q (hdOf r) (ds2.set j (.wd w'))
section
variable {X : Cx} {K : PySem.W.Frag} {F T q : Ad} {σ : Sl} {H : Hp} {ds : DS} {fp : Nat → Ad} {e : Expr} {es : List Expr} {ta tk : TA} {t tkD : DTA} {n k j : Nat} {g : DFW} {f : Addr} {fd : FuncData} {ps ks : List Str} {x y : Str} {p pos py : Pos}
open Classical in
theorem callW_core {w : Wd} {vs : List V} {dl : List D} {Q : Hd → Wd → Prop} {R : VK} {E : XK} (r2 : Rep K F T σ H ds fp) (hj : ds[j]? = some (.wd w)) (ia : IsA K (res F H) vs dl) (hn : vs.length = n) (h : g w dl fun r w' => w'.val = w.val ∧ Q (hdOf r) w')
    (k : ∀ h w' v H' F' q fp', Q h w' → Pst K F T H σ v h (ds.set j (.wd w')) F' H' fp' q → R v H') : frm (spW K n g) (w.val :: vs) H R E := by
  obtain ⟨jv, jf, jo⟩ := r2.slot j _ hj
  have hlt : j < ds.length := (List.getElem?_eq_some_iff.mp hj).1
  let G : Ad := fun a => T a ∨ ∃ i, i ≠ j ∧ fp i a
  have hG : ∀ a, G a → ∃ o, H a = some o ∧ bigO o := fun a z => by
    rcases z with z | ⟨i, _, z⟩
    · exact r2.td a z
    · exact r2.fdom z
  have nF : ∀ a, F a → ¬ hidden G H a := fun a f z => by
    rcases z with (z | ⟨i, _, z⟩) | ⟨y, _, z⟩
    · exact r2.tF a z f
    · exact r2.fF i a z f
    · obtain ⟨o, e, b⟩ := r2.fd a f
      rw [z] at e; cases e; exact b
  have nW : ∀ a, w.fp a → ¬ hidden G H a := fun a f z => by
    have fj : fp j a := (jf a).mpr f
    rcases z with (z | ⟨i, ni, z⟩) | ⟨y, _, z⟩
    · exact r2.fT j a fj z
    · exact ni (r2.sep i j a z fj)
    · obtain ⟨o, e, b⟩ := w.dom jo f
      rw [z] at e; cases e; exact b
  have sm : Same (res F H) (res F (hide G H)) := fun a o e => by
    obtain ⟨f, e⟩ := res_some e
    rw [res_in f, hide_out (nF a f)]; exact e
  refine ⟨G, hG, by rw [List.length_cons, hn], F, w, vs, dl, rfl, ia.mono sm, fun a f => by rw [hide_out (nF a f)]; exact r2.fd a f, w.mono sm (fun a f => hide_out (nW a f)) jo, fun a f => r2.fF j a ((jf a).mpr f), _, h, fun r w' hr H' v F' q g' sa qa ev wo wF so hh => ?_⟩
  have nh' : ∀ a o, H' a = some o → ¬ hidden G H a := fun a o e z => by rw [hh a z] at e; cases e
  have nF' : ∀ a, F' a → ¬ hidden G H a := fun a f => by
    obtain ⟨o, e, _⟩ := sa a f
    exact nh' a o e
  have nq : ∀ a, q a → ¬ hidden G H a := fun a f => by
    obtain ⟨_, _, o, e, _⟩ := qa a f
    exact nh' a o e
  have nW' : ∀ a, w'.fp a → ¬ hidden G H a := fun a f => by
    obtain ⟨o, e, _⟩ := w'.dom wo f
    exact nh' a o e
  have GG : Grow F H F' (back G H H') := fun a f => ⟨(g' a f).1, by
    rw [back_out (nF a f), (g' a f).2, hide_out (nF a f)]⟩
  have sm' : Same (res F' H') (res F' (back G H H')) := fun a o e => by
    obtain ⟨f, e⟩ := res_some e
    rw [res_in f, back_out (nF' a f)]; exact e
  have so' : SlotOk K (res F' (back G H H')) (back G H H') (some (some v)) q r := so.mono sm' fun a z => back_out (nq a z)
  refine k (hdOf r) w' v _ F' q (fun i => if i = j then w'.fp else fp i) hr.2 ⟨⟨by rw [List.length_set]; exact r2.len, fun i s e => ?_, fun i a z => ?_, fun i a z f => ?_, fun i a z y => ?_, fun i i' a z z' => ?_, fun a z => ?_, fun a f => ?_, fun a z => ?_⟩, fun a z y => nq a z (.inl (.inl y)), GG, fun a z => back_in (.inl (.inl z)), ?_⟩
  · by_cases hi : i = j
    · subst hi
      rw [List.getElem?_set_self hlt] at e; cases e
      rw [if_pos rfl]
      exact ⟨by rw [jv, hr.1], fun _ => Iff.rfl, w'.mono sm' (fun a z => back_out (nW' a z)) wo⟩
    · rw [List.getElem?_set_ne (Ne.symm hi)] at e
      rw [if_neg hi]
      exact (r2.slot i s e).mono GG.same fun a z => back_in (.inl (.inr ⟨i, hi, z⟩))
  · rw [List.length_set]
    by_cases hi : i = j
    · rw [hi]; exact hlt
    · rw [if_neg hi] at z; exact r2.out i a z
  · by_cases hi : i = j
    · rw [if_pos hi] at z; exact wF a z f
    · rw [if_neg hi] at z; exact nF' a f (.inl (.inr ⟨i, hi, z⟩))
  · by_cases hi : i = j
    · rw [if_pos hi] at z
      rcases y with y | y
      · exact nW' a z (.inl (.inl y))
      · exact (qa a y).2.1 z
    · rw [if_neg hi] at z
      rcases y with y | y
      · exact r2.fT i a z y
      · exact nq a y (.inl (.inr ⟨i, hi, z⟩))
  · by_cases hi : i = j
    · by_cases hi' : i' = j
      · rw [hi, hi']
      · rw [if_pos hi] at z; rw [if_neg hi'] at z'
        exact absurd (.inl (.inr ⟨i', hi', z'⟩)) (nW' a z)
    · by_cases hi' : i' = j
      · rw [if_neg hi] at z; rw [if_pos hi'] at z'
        exact absurd (.inl (.inr ⟨i, hi, z⟩)) (nW' a z')
      · rw [if_neg hi] at z; rw [if_neg hi'] at z'
        exact r2.sep i i' a z z'
  · rcases z with z | z
    · exact fun f => nF' a f (.inl (.inl z))
    · exact (qa a z).1
  · obtain ⟨o, e, b⟩ := sa a f
    exact ⟨o, by rw [back_out (nF' a f)]; exact e, b⟩
  · rcases z with z | z
    · rw [back_in (.inl (.inl z))]; exact r2.td a z
    · obtain ⟨_, _, o, e, b⟩ := qa a z
      exact ⟨o, by rw [back_out (nq a z)]; exact e, b⟩
  · cases r with
    | val d =>
      obtain ⟨⟨v', e, i⟩, _⟩ := so'
      cases e
      exact i
    | no => exact so'
    | own _ => exact so'
    | dic _ => exact so'
    | wd _ => exact so'
    | ob _ => exact so'
theorem eok_callW (ha : AOk K n ta t) : EOk K (tCall (frm (spW K n g)) [] E0 (tCons (tVar j) ta)) (dCallW j g t) := fun F T σ H ds fp Q R rp e k => by
  obtain ⟨w0, hj, e⟩ := wdAt_inv e
  obtain ⟨jv, _, _⟩ := rp.slot j _ hj
  refine ⟨w0.val, jv, ?_⟩
  refine ha F T σ H ds fp _ _ rp e fun hs ds1 vs H1 F1 fp1 q1 k1 p1 l1 => ?_
  obtain ⟨dl, ds2, F2, fp2, e2, r2, g2, i2⟩ := takes_ok p1.r .refl p1.rep p1.qT k1
  obtain ⟨w, hj2, e2⟩ := wdAt_inv e2
  obtain ⟨jv2, _, _⟩ := r2.slot j _ hj2
  rw [jv] at jv2
  have ev : w0.val = w.val := Option.some.inj (Option.some.inj jv2)
  rw [List.append_nil, ev]
  exact callW_core (Q := fun h w' => Q h (ds2.set j (.wd w'))) r2 hj2 i2 l1 e2 fun h w' v H' F' q fp' qh p => k _ _ _ _ _ _ _ qh (p.pre (p1.g.trans g2) p1.t)
theorem do_callW (F : FnOk X.prog X.w X.K X.mg X.base CX0 k f fd ps (spW X.K n g)) (hr : Room k X.A) (hg : Gl X x) (hm : X.mg x = some (.ref f)) (hk : PySem.W.keepIn X.K (.ref f) = true) (hb : Binds X.K fd ps [])
    (ha : DA X es ta t) (hn : es.length = n := by rfl) (hN : X.N[j]? = some y := by rfl) (hv : Vis X.env.scope y := by first | exact Or.inl rfl | exact Or.inr (Or.inl rfl) | exact Or.inr (Or.inr rfl)) (hd : (y == ("__debug__" : Str)) = false := by decide)
    (hcd : (y == ("__classdict__" : Str)) = false := by decide)
    (hdb : (x == ("__debug__" : Str)) = false := by decide) (he : starEach (.Name y py :: es) X.env = (false, eval (.Name y py) X.env) :: starEach es X.env := by rfl) (hpl : (backTo pos (starEach es X.env)).any (·.1) = false := by rfl) :
    DO X (.Call (.Name x p) (.Name y py :: es) [] pos) (tCall (frm (spW X.K n g)) [] E0 (tCons (tVar j) ta)) (dCallW j g t) :=
  ⟨pe_call (frame_fn F) hr hg hm hk hb .nil pass0 (pa_cons (pe_var hN hv hd hcd) ha.pa he) hdb he hpl, eok_callW (hn ▸ ha.ok)⟩
end
@[simp] def enW (w : Wd) (P : SD → Wd → Prop) : En := ⟨fun ds => wdAt ds 0 fun w' => w'.val = w.val ∧ P (.val .none) w', fun h ds => wdAt ds 0 fun w' => w'.val = w.val ∧ retD h ds fun r => P r w', fun _ => False, fun _ => False⟩
@[simp] def slotsW (n : Nat) (w : Wd) (dl : List D) : DS := .wd w :: (dl.map .val ++ List.replicate (n - (dl.length + 1)) .no)
section
variable {P : Program} {w : World} {K : PySem.W.Frag} {mg : Str → Option Value} {base : Heap}
open Classical in
theorem isA_repW {F : Ad} {H : Hp} (sa : seqAll F H) {vs : List V} {dl : List D} {wd : Wd} (h : IsA K (res F H) vs dl) (ho : wd.ok (res F H) H) (hf : ∀ a, wd.fp a → ¬ F a) (m : Nat) :
    Rep K F Ad.nil (some wd.val :: (vs.map some ++ List.replicate m none)) H (.wd wd :: (dl.map .val ++ List.replicate m .no)) (fun i => if i = 0 then wd.fp else Ad.nil) := by
  have r := isA_rep sa h m
  refine ⟨by simp [h.length], fun i s e => ?_, fun i a z => ?_, fun i a z => ?_, fun _ _ _ z => z.elim, fun i j a z z' => ?_, fun _ z => z.elim, sa, fun _ z => z.elim⟩
  · cases i with
    | zero =>
      cases e
      rw [if_pos rfl]
      exact ⟨rfl, fun _ => Iff.rfl, ho⟩
    | succ i =>
      rw [if_neg (Nat.succ_ne_zero i)]
      exact r.slot i s e
  · cases i with
    | zero => simp
    | succ i => rw [if_neg (Nat.succ_ne_zero i)] at z; exact z.elim
  · cases i with
    | zero => rw [if_pos rfl] at z; exact hf a z
    | succ i => rw [if_neg (Nat.succ_ne_zero i)] at z; exact z.elim
  · cases i with
    | zero =>
      cases j with
      | zero => rfl
      | succ j => rw [if_neg (Nat.succ_ne_zero j)] at z'; exact z'.elim
    | succ i => rw [if_neg (Nat.succ_ne_zero i)] at z; exact z.elim
theorem dfunW {x qual : Str} {st : Stmt} {f : Addr} {fd : FuncData} {N ps : List Str} {k n : Nat} {g : DFW} {tb : DM} (F : Fun K x qual st f fd) (S : FnScope N ps (defScope st)) (hps : ps.length = n + 1)
    (hd : ∀ (cdv : Value) (A : Around) (outer : List Env) (s : Shared) (H : Hp) (E : XK), Room k (A.deeper (envOfC qual (defScope st) s.heap.objs.size f cdv)) → ∃ ts, DSs (cxOf CX0 P w K mg base N qual (defScope st) f cdv A outer s H E).nox (defBody st) ts tb)
    (hr : ∀ w dl Q, dl.length = n → g w dl Q → tb (enW w Q) (slotsW N.length w dl)) : FnOk P w K mg base CX0 (k + 1) f fd ps (spW K n g) := by
  refine F.ok S (fun vs H Q E h => by rw [hps]; exact h.1) (fun cdv A outer s H vs Q E hroom h => ?_)
  obtain ⟨hn, F0, wd, ws, dl, rfl, ia, sa, wo, wF, W, hg, hk⟩ := h
  obtain ⟨ts, b⟩ := hd cdv A outer s H E hroom
  refine ⟨ts, b.ps, ?_⟩
  have hl : dl.length = n := by rw [← ia.length]; exact Nat.succ.inj hn
  have r := isA_repW sa ia wo wF (N.length - (ws.length + 1))
  have e1 : (.wd wd :: (dl.map .val ++ List.replicate (N.length - (ws.length + 1)) .no) : DS) = slotsW N.length wd dl := by unfold slotsW; rw [ia.length]
  rw [e1] at r
  have r : Rep K F0 Ad.nil (start N (wd.val :: ws)) H (slotsW N.length wd dl) _ := r
  refine b.ok F0 _ H _ _ _ _ r (hr wd dl W hl hg) ⟨fun σ' H' ds' F' fp' e r' g' => ?_, fun h ds' v σ' H' F' fp' q e p => ?_, fun _ _ _ _ _ e => e.elim, fun _ _ _ _ _ e => e.elim⟩
  · obtain ⟨w', h0, ev, e⟩ := wdAt_inv e
    obtain ⟨_, jf, jo⟩ := r'.slot 0 _ h0
    exact hk _ _ e H' .non F' Ad.nil g' r'.fd (fun _ z => z.elim) ev jo (fun a z => r'.fF 0 a ((jf a).mpr z)) ⟨⟨_, rfl, .non⟩, fun _ z => z⟩
  · obtain ⟨w', h0, ev, e⟩ := wdAt_inv e
    obtain ⟨_, jf, jo⟩ := p.rep.slot 0 _ h0
    have jF : ∀ a, w'.fp a → ¬ F' a := fun a z => p.rep.fF 0 a ((jf a).mpr z)
    cases h with
    | tmp d => exact hk _ _ e H' v F' Ad.nil p.g p.rep.fd (fun _ z => z.elim) ev jo jF ⟨⟨_, rfl, p.r⟩, fun _ z => z⟩
    | new s => exact hk _ _ e H' v F' q p.g p.rep.fd (fun a z => ⟨p.rep.tF a (.inr z), fun y => p.rep.fT 0 a ((jf a).mpr y) (.inr z), p.rep.td a (.inr z)⟩) ev jo jF p.r
    | fld _ _ _ => exact False.elim e
    | slot i =>
      have hv : σ'[i]? = some (some v) := p.r
      cases hs : ds'[i]? with
      | none => simp [retD, hs] at e
      | some s =>
        have z := p.rep.slot i s hs
        cases s with
        | val d =>
          simp [retD, hs] at e
          obtain ⟨⟨v', e1, i1⟩, _⟩ := z
          rw [hv] at e1; cases e1
          exact hk _ _ e H' v F' Ad.nil p.g p.rep.fd (fun _ z => z.elim) ev jo jF ⟨⟨_, rfl, i1⟩, fun _ z => z⟩
        | own xs =>
          simp [retD, hs] at e
          rw [hv] at z
          have hi : i ≠ 0 := fun z0 => by subst z0; rw [h0] at hs; cases hs
          exact hk _ _ e H' v F' (fp' i) p.g p.rep.fd (fun a z => ⟨p.rep.fF i a z, fun y => hi (p.rep.sep i 0 a z ((jf a).mpr y)), p.rep.fdom z⟩) ev jo jF z
        | no => simp [retD, hs] at e
        | dic _ => simp [retD, hs] at e
        | wd _ => simp [retD, hs] at e
        | ob _ => simp [retD, hs] at e
end
structure DK (X : Cx) (kws : List Keyword) (ta : TA) (t : DTA) : Prop where
  pk : PK X kws ta
  ok : AOk X.K kws.length ta t
theorem dk_nil {X : Cx} : DK X [] tNil aNil := ⟨pk_nil, aok_nil⟩
theorem dk_cons {X : Cx} {e : Expr} {kws : List Keyword} {te : TE} {ta : TA} {t : DT} {u : DTA} {nm : Option Str} {kpos : Pos} (a : DO X e te t) (b : DK X kws ta u) : DK X (⟨nm, e, kpos⟩ :: kws) (tCons te ta) (aCons t u) := ⟨pk_cons a.pe b.pk, aok_cons a.ok b.ok⟩
/-- how the keywords' values come to the parameters: a permutation of them -/
structure KPerm (K : PySem.W.Frag) (fd : FuncData) (ps ks : List Str) (ix : List Nat) : Prop where
  to : ∀ (s : Shared) (ws : List Value), K.In s.heap → ws.length = ks.length → BindsTo s fd ⟨[], ks.zip ws⟩ (ps.zip (ix.filterMap fun i => ws[i]?))
  len : ix.length = ps.length
  lt : ∀ i ∈ ix, i < ks.length
@[simp] def pick {α : Type} (ix : List Nat) (l : List α) : List α := ix.filterMap fun i => l[i]?
@[simp] def dCallK (ix : List Nat) (g : DF) (t : DTA) : DT := fun ds Q => t ds fun hs ds1 => takes hs ds1 fun dl ds2 => g (pick ix dl) fun r => Q (hdOf r) ds2
theorem pick_len {α : Type} {ix : List Nat} {l : List α} (h : ∀ i ∈ ix, i < l.length) : (pick ix l).length = ix.length := by
  induction ix with
  | nil => rfl
  | cons i r ih =>
    unfold pick
    rw [List.filterMap_cons, List.getElem?_eq_getElem (h i List.mem_cons_self), List.length_cons]
    exact congrArg (· + 1) (ih fun j hj => h j (List.mem_cons_of_mem _ hj))
theorem pick_is {K : PySem.W.Frag} {R : Hp} {vs : List V} {dl : List D} (h : IsA K R vs dl) : ∀ {ix : List Nat}, (∀ i ∈ ix, i < dl.length) → IsA K R (pick ix vs) (pick ix dl)
  | [], _ => .nil
  | i :: r, hi => by
    have h1 := List.getElem?_eq_getElem (l := dl) (hi i List.mem_cons_self)
    obtain ⟨v, hv, iv⟩ := h.get h1
    unfold pick
    rw [List.filterMap_cons, List.filterMap_cons, h1, hv]
    exact .cons iv (pick_is h fun j hj => hi j (List.mem_cons_of_mem _ hj))
theorem pick_vals {vs : List V} {us : List Value} (h : Vals vs us) : ∀ {ix : List Nat}, (∀ i ∈ ix, i < us.length) → Vals (pick ix vs) (pick ix us)
  | [], _ => .nil
  | i :: r, hi => by
    have hl := h.length
    have h1 := List.getElem?_eq_getElem (l := vs) (i := i) (by rw [hl]; exact hi i List.mem_cons_self)
    obtain ⟨u, hu, ru⟩ := h.get h1
    unfold pick
    rw [List.filterMap_cons, List.filterMap_cons, h1, hu]
    exact .cons ru (pick_vals h fun j hj => hi j (List.mem_cons_of_mem _ hj))
section
variable {X : Cx} {K : PySem.W.Frag} {ta : TA} {t : DTA} {n k : Nat} {g : DF} {f : Addr} {fd : FuncData} {ps ks : List Str} {x : Str} {p pos : Pos} {kws : List Keyword} {ix : List Nat}
def tCallKw (sp : Sp) (ix : List Nat) (n : Nat) (ta : TA) : TE := fun σ H Q => ta σ H fun zs H2 => zs.length = n ∧ sp (pick ix zs) H2 Q E0
theorem do_callK (F : FnOk X.prog X.w X.K X.mg X.base CX0 k f fd ps (spP X.K n g)) (hr : Room k X.A) (hg : Gl X x) (hm : X.mg x = some (.ref f)) (hk : PySem.W.keepIn X.K (.ref f) = true) (hb : KPerm X.K fd ps ks ix) (hn : ps.length = n)
    (ha : DK X kws ta t) (hks : (backToKw pos (keywordEach kws X.env)).filterMap (·.1) = ks := by rfl) (hkl : kws.length = ks.length := by rfl) (hall : (backToKw pos (keywordEach kws X.env)).all (·.1.isSome) = true := by rfl)
    (hdb : (x == ("__debug__" : Str)) = false := by decide)
    (hpl : ((backTo pos (starEach [] X.env)).any (·.1) || (backToKw pos (keywordEach kws X.env)).any (·.1.isNone)) = false := by rfl) :
    DO X (.Call (.Name x p) [] kws pos) (tCallKw (frm (spP X.K n g)) ix ks.length ta) (dCallK ix g t) := ⟨by
  refine ⟨fun pins s σ H Q I h => ?_⟩
  refine wpAny_Call_Name_kw (ld_glob I hg hm ?_ hdb)
  refine PySem.W.callWith_KW0 (h₀ := X.base) I.ok.mod.kin hk hall (thn (ha.pk.run pos pins s σ H _ I h) fun ws s1 ⟨zs, H1, I1, rz, hz, q⟩ => ⟨I1.kIn, ?_⟩) hpl
  rw [hks]
  have hl : ws.length = ks.length := by rw [← rz.length]; exact hz
  have lt : ∀ i ∈ ix, i < ws.length := fun i hi => by rw [hl]; exact hb.lt i hi
  refine wpAny_call (codeAny_mono ((frame_fn F).run X.A X.stack s1 H1 ⟨[], ks.zip ws⟩ (pick ix ws) (pick ix zs) Q E0 hr I1.env0 (hb.to s1 ws I1.kIn hl) (pick_vals rz lt) q) fun r s' hq => ?_)
  cases r with
  | error e => exact False.elim hq
  | ok fl =>
    cases fl with
    | ret u => exact I1.after hq
    | next => exact False.elim hq
    | brk => exact False.elim hq
    | cont => exact False.elim hq, fun F' T σ H ds fp Q R rp e k => by
  refine ha.ok F' T σ H ds fp _ _ rp e fun hs ds1 vs H1 F1 fp1 q1 k1 p1 l1 => ?_
  obtain ⟨dl, ds2, F2, fp2, e2, r2, g2, i2⟩ := takes_ok p1.r .refl p1.rep p1.qT k1
  have lt : ∀ i ∈ ix, i < dl.length := fun i hi => by rw [← i2.length, l1, hkl]; exact hb.lt i hi
  refine ⟨l1.trans hkl, call_core r2 (pick_is i2 lt) ?_ e2 fun h v H' F' q qh p => k _ _ _ _ _ _ _ qh (p.pre (p1.g.trans g2) p1.t)⟩
  rw [pick_len (by rw [i2.length]; exact lt), hb.len, hn]⟩
end
end DL
namespace DL
open PySem PySem.Spec PyProof.Rows L2
theorem compD_ind {g : DGT} {c : DTT} {t : DT} {vs : List Nat} {P : List D → DS → Prop} (Inv : List D → List D → DS → Prop) (h0 : ∀ acc ds, Inv [] acc ds → P acc ds)
    (hs : ∀ d r acc ds (L : List D → DS → Prop), (∀ acc' ds', Inv r acc' ds' → L acc' ds') → Inv (d :: r) acc ds →
      g d ds fun ds1 => c ds1 fun b ds2 => if b = true then t ds2 fun h ds3 => take1 h ds3 fun x ds4 => L (acc ++ [x]) (wipeD ds4 vs) else L acc (wipeD ds2 vs)) : ∀ items acc ds, Inv items acc ds → compD g c t vs items acc ds P
  | [], acc, ds, h => h0 acc ds h
  | d :: r, acc, ds, h => hs d r acc ds (fun acc' ds' => compD g c t vs r acc' ds' P) (fun acc' ds' h' => compD_ind Inv h0 hs r acc' ds' h') h
/-- a comprehension whose element is a function of the item, and which leaves the slots as they are -/
theorem compD_map {g : DGT} {t : DT} {vs : List Nat} {P : List D → DS → Prop} (f : D → D) (ds : DS) (items : List D) (acc : List D)
    (hs : ∀ d ∈ items, ∀ (L : D → DS → Prop), L (f d) ds → g d ds fun ds2 => t ds2 fun h ds3 => take1 h ds3 fun x ds4 => L x (wipeD ds4 vs)) (hp : P (acc ++ items.map f) ds) : compD g cYes t vs items acc ds P := by
  refine compD_ind (fun r acc' ds' => ds' = ds ∧ acc' ++ r.map f = acc ++ items.map f ∧ ∀ d ∈ r, d ∈ items) ?_ ?_ items acc ds ⟨rfl, rfl, fun _ h => h⟩
  · rintro acc' ds' ⟨rfl, e, _⟩
    rw [List.map_nil, List.append_nil] at e
    rw [e]; exact hp
  · rintro d r acc' ds' L hL ⟨rfl, e, hm⟩
    refine hs d (hm d List.mem_cons_self) (fun x ds4 => L (acc' ++ [x]) ds4) (hL _ _ ⟨rfl, ?_, fun z hz => hm z (List.mem_cons_of_mem _ hz)⟩)
    rw [← e, List.map_cons, List.append_assoc]; rfl
theorem isT_int (d : D) : isT "int" d = match d with | .int _ => true | .bool _ => true | _ => false := by cases d <;> (simp only [isT, tyD]; decide +kernel)
theorem isT_bool (d : D) : isT "bool" d = match d with | .bool _ => true | _ => false := by cases d <;> (simp only [isT, tyD]; decide +kernel)
theorem isT_str (d : D) : isT "str" d = match d with | .str _ => true | _ => false := by cases d <;> (simp only [isT, tyD]; decide +kernel)
theorem isT_tuple (d : D) : isT "tuple" d = match d with | .tuple _ => true | _ => false := by cases d <;> (simp only [isT, tyD]; decide +kernel)
theorem isT_list (d : D) : isT "list" d = match d with | .list _ => true | _ => false := by cases d <;> (simp only [isT, tyD]; decide +kernel)
@[simp] theorem atI_0 {α : Type} (a : α) (l : List α) : atI (a :: l) 0 = some a := by
  have := atI_nat (xs := a :: l) (j := 0) (v := a) rfl
  exact this
@[simp] theorem atI_1 {α : Type} (a b : α) (l : List α) : atI (a :: b :: l) 1 = some b := atI_nat (xs := a :: b :: l) (j := 1) (v := b) rfl
@[simp] theorem atI_2 {α : Type} (a b c : α) (l : List α) : atI (a :: b :: c :: l) 2 = some c := atI_nat (xs := a :: b :: c :: l) (j := 2) (v := c) rfl
@[simp] theorem atI_3 {α : Type} (a b c d : α) (l : List α) : atI (a :: b :: c :: d :: l) 3 = some d := atI_nat (xs := a :: b :: c :: d :: l) (j := 3) (v := d) rfl
end DL
namespace DL
open PySem PySem.Spec PyProof.Rows L2
theorem depthAll_le {n : Nat} : ∀ {xs : List D}, (∀ x ∈ xs, PyData.depth x ≤ n) → PyData.depthAll xs ≤ n
  | [], _ => by simp [PyData.depthAll]
  | x :: xs, h => by
    have h1 := h x List.mem_cons_self
    have h2 := depthAll_le fun y hy => h y (List.mem_cons_of_mem _ hy)
    simp only [PyData.depthAll]
    omega
theorem canAll {xs : List D} (h : ∀ x ∈ xs, PyData.canLay0 x = true) : PyData.canLayAll0 xs = true := by
  induction xs with
  | nil => rfl
  | cons x xs ih =>
    simp only [PyData.canLayAll0, Bool.and_eq_true]
    exact ⟨h x List.mem_cons_self, ih fun y hy => h y (List.mem_cons_of_mem _ hy)⟩
/-- a datum of at most this depth, its texts right -/
def Shp (n : Nat) (d : D) : Prop := PyData.canLay0 d = true ∧ PyData.depth d ≤ n
theorem Shp.mono {m n : Nat} {d : D} (h : Shp m d) (hm : m ≤ n) : Shp n d := ⟨h.1, Nat.le_trans h.2 hm⟩
theorem Shp.shaped {n : Nat} {d : D} (h : Shp n d) (hn : n ≤ 64 := by decide) : SeqAt.shaped d = true := by
  unfold SeqAt.shaped
  rw [h.1, decide_eq_true (Nat.le_trans h.2 hn)]; rfl
theorem Shp.int {n : Nat} {i : Int} : Shp (n + 1) (.int i) := ⟨rfl, by simp [PyData.depth]⟩
theorem Shp.bool {n : Nat} {i : Bool} : Shp (n + 1) (.bool i) := ⟨rfl, by simp [PyData.depth]⟩
theorem Shp.none {n : Nat} : Shp (n + 1) .none := ⟨rfl, by simp [PyData.depth]⟩
theorem Shp.list {n : Nat} {xs : List D} (h : ∀ x ∈ xs, Shp n x) : Shp (n + 1) (.list xs) := ⟨canAll fun x hx => (h x hx).1, by
  have := depthAll_le fun x hx => (h x hx).2
  simp only [PyData.depth]; omega⟩
theorem Shp.tuple {n : Nat} {xs : List D} (h : ∀ x ∈ xs, Shp n x) : Shp (n + 1) (.tuple xs) := ⟨canAll fun x hx => (h x hx).1, by
  have := depthAll_le fun x hx => (h x hx).2
  simp only [PyData.depth]; omega⟩
theorem Shp.ints (ns : List Int) : Shp 2 (.list (ns.map .int)) := Shp.list fun x hx => by
  obtain ⟨i, _, rfl⟩ := List.mem_map.mp hx
  exact Shp.int
end DL
namespace DL
open PySem PySem.Spec PyProof.Rows L2
def intB : D → Bool
  | .int _ => true
  | _ => false
def tupN (n : Int) : D → Bool
  | .tuple xs => decide ((xs.length : Int) = n)
  | _ => false
@[simp] theorem intB_none : intB (.none) = false := rfl
@[simp] theorem tupN_none {n : Int} : tupN n (.none) = false := rfl
@[simp] theorem intB_bool {b : Bool} : intB (.bool b) = false := rfl
@[simp] theorem tupN_bool {n : Int} {b : Bool} : tupN n (.bool b) = false := rfl
@[simp] theorem intB_int {i : Int} : intB (.int i) = true := rfl
@[simp] theorem tupN_int {n : Int} {i : Int} : tupN n (.int i) = false := rfl
@[simp] theorem intB_str {s : Str} : intB (.str s) = false := rfl
@[simp] theorem tupN_str {n : Int} {s : Str} : tupN n (.str s) = false := rfl
@[simp] theorem intB_list {xs : List D} : intB (.list xs) = false := rfl
@[simp] theorem tupN_list {n : Int} {xs : List D} : tupN n (.list xs) = false := rfl
@[simp] theorem intB_tuple {xs : List D} : intB (.tuple xs) = false := rfl
@[simp] theorem tupN_tuple {n : Int} {xs : List D} : tupN n (.tuple xs) = decide ((xs.length : Int) = n) := rfl
@[simp] theorem intB_dict {kvs : List (D × D)} : intB (.dict kvs) = false := rfl
@[simp] theorem tupN_dict {n : Int} {kvs : List (D × D)} : tupN n (.dict kvs) = false := rfl
def g_is_integer : DF := fun dl P => ∃ d, dl = [d] ∧ P (.val (.bool (intB d)))
@[simp] theorem at_is_integer {d : D} {P : SD → Prop} : g_is_integer [d] P = P (.val (.bool (intB d))) := by
  refine propext ⟨?_, fun h => ⟨_, rfl, h⟩⟩
  rintro ⟨_, e, h⟩
  cases e; exact h
def tb_is_integer : DM := (mRet (dAnd (dIsi "int" (dVar 0)) (dNot (dIsi "bool" (dVar 0)))))
theorem rd_is_integer : ∀ dl Q, dl.length = 1 → g_is_integer dl Q → tb_is_integer (enF Q) (slots0 1 dl) := by
  rintro dl Q - ⟨d, rfl, h⟩
  cases d <;> simpa [tb_is_integer, isT_int, isT_bool] using h
def g_is_tuple_of : DF := fun dl P => ∃ n d, dl = [.int n, d] ∧ P (.val (.bool (tupN n d)))
@[simp] theorem at_is_tuple_of {n : Int} {d : D} {P : SD → Prop} : g_is_tuple_of [.int n, d] P = P (.val (.bool (tupN n d))) := by
  refine propext ⟨?_, fun h => ⟨_, _, rfl, h⟩⟩
  rintro ⟨_, _, e, h⟩
  cases e; exact h
def betw (lo hi : Int) : D → Bool
  | .int v => decide (lo ≤ v ∧ v ≤ hi)
  | _ => false
def g_is_between : DF := fun dl P => ∃ lo d hi, dl = [.int lo, d, .int hi] ∧ P (.val (.bool (betw lo hi d)))
@[simp] theorem betw_int {lo hi v : Int} : betw lo hi (.int v) = decide (lo ≤ v ∧ v ≤ hi) := rfl
@[simp] theorem at_is_between {lo hi : Int} {d : D} {P : SD → Prop} : g_is_between [.int lo, d, .int hi] P = P (.val (.bool (betw lo hi d))) := by
  refine propext ⟨?_, fun h => ⟨_, _, _, rfl, h⟩⟩
  rintro ⟨_, _, _, e, h⟩
  cases e; exact h
def tb_is_between : DM := (mRet (dAnd (dIsi "int" (dVar 1)) (dAnd (dNot (dIsi "bool" (dVar 1))) (dChain dLe dLe (dVar 0) (dVar 1) (dVar 2)))))
theorem rd_is_between : ∀ dl Q, dl.length = 3 → g_is_between dl Q → tb_is_between (enF Q) (slots0 3 dl) := by
  rintro dl Q - ⟨lo, d, hi, rfl, h⟩
  cases d with
  | int v => by_cases h1 : lo ≤ v <;> by_cases h2 : v ≤ hi <;> simpa [tb_is_between, isT_int, isT_bool, dRel, h1, h2] using h
  | _ => simpa [tb_is_between, isT_int, isT_bool, betw] using h
def g_common : DF := fun dl P => ∃ a b : Int, dl = [.int a, .int b] ∧ 0 ≤ a ∧ 0 ≤ b ∧ P (.val (.int (Int.gcd a b)))
@[simp] theorem at_common {a b : Int} {P : SD → Prop} : g_common [.int a, .int b] P = (0 ≤ a ∧ 0 ≤ b ∧ P (.val (.int (Int.gcd a b)))) := by
  refine propext ⟨?_, fun h => ⟨_, _, rfl, h⟩⟩
  rintro ⟨_, _, e, h⟩
  cases e; exact h
@[simp] theorem shaped_bool (b : Bool) : SeqAt.shaped (.bool b) = true := by cases b <;> rfl
@[simp] theorem shaped_int (b : Int) : SeqAt.shaped (.int b) = true := by rw [Shp.shaped (n := 1) Shp.int]
@[simp] theorem shaped_none : SeqAt.shaped .none = true := by rw [Shp.shaped (n := 1) Shp.none]
@[simp] theorem eqv_bool (a b : Bool) : PyData.eqv (.bool a) (.bool b) = (a == b) := by cases a <;> cases b <;> decide +kernel
def SameD : Nat → D → Prop
  | n + 1, .list xs => xs.length ≤ sizeLine ∧ ∀ x ∈ xs, SameD n x
  | n + 1, .tuple xs => xs.length ≤ sizeLine ∧ ∀ x ∈ xs, SameD n x
  | _ + 1, .int _ => True
  | _ + 1, .bool _ => True
  | _ + 1, .str _ => True
  | _ + 1, .none => True
  | _, _ => False
theorem SameD.mono : ∀ {m n : Nat} {d : D}, SameD m d → m ≤ n → SameD n d
  | m + 1, n + 1, .list xs, h, l => ⟨h.1, fun x hx => SameD.mono (h.2 x hx) (Nat.le_of_succ_le_succ l)⟩
  | m + 1, n + 1, .tuple xs, h, l => ⟨h.1, fun x hx => SameD.mono (h.2 x hx) (Nat.le_of_succ_le_succ l)⟩
  | _ + 1, n + 1, .int _, _, _ => trivial
  | _ + 1, n + 1, .bool _, _, _ => trivial
  | _ + 1, n + 1, .str _, _, _ => trivial
  | _ + 1, n + 1, .none, _, _ => trivial
def gSame (n : Nat) : DF := fun dl P => ∃ d, dl = [d, d] ∧ SameD n d ∧ P (.val (.bool true))
@[simp] theorem at_same {n : Nat} {d e : D} {P : SD → Prop} : gSame n [d, e] P = (d = e ∧ SameD n d ∧ P (.val (.bool true))) := by
  refine propext ⟨?_, ?_⟩
  · rintro ⟨_, e, h, k⟩
    cases e; exact ⟨rfl, h, k⟩
  · rintro ⟨rfl, h, k⟩
    exact ⟨_, rfl, h, k⟩
theorem mem_rng {a : Int} {n : Nat} {d : D} (h : d ∈ rngD a n) : ∃ k : Nat, k < n ∧ d = .int (a + k) := by
  unfold rngD at h
  simp at h
  obtain ⟨k, hk, e⟩ := h
  exact ⟨k, hk, e.symm⟩
end DL
namespace DL
open PySem PySem.Spec PyProof.Rows L2
theorem SameD_0 {d : D} : ¬ SameD 0 d := by cases d <;> exact id
theorem bigD_ex : ∃ n : Nat, n = 2 ^ 8000 := ⟨_, rfl⟩
/-- what the divisors stay below; nobody unfolds it -/
noncomputable def bigD : Nat := bigD_ex.choose
def dnF (t b : Int) : Int := if b < 0 then -(Int.gcd t b : Int) else Int.gcd t b
def ratD (t b : Int) : D := .tuple [.int (t.fdiv (dnF t b)), .int (b.fdiv (dnF t b))]
@[simp] theorem gcd_abs2 (t b : Int) : Nat.gcd t.natAbs b.natAbs = Int.gcd t b := rfl
def g_ratio_of : DF := fun dl P => ∃ t b : Int, dl = [.int t, .int b] ∧ b ≠ 0 ∧ b.natAbs < bigD ∧ P (.val (ratD t b))
@[simp] theorem at_ratio_of {t b : Int} {P : SD → Prop} : g_ratio_of [.int t, .int b] P = (b ≠ 0 ∧ b.natAbs < bigD ∧ P (.val (ratD t b))) := by
  refine propext ⟨?_, fun h => ⟨_, _, rfl, h⟩⟩
  rintro ⟨_, _, e, h⟩
  cases e; exact h
end DL
namespace DL
open PySem PySem.Spec PyProof.Rows L2
structure HdIs (ds : DS) (h : Hd) (d : D) : Prop where
  tk : ∀ P : D → DS → Prop, P d ds → take1 h ds P
  pk : peek ds h = some d
theorem HdIs.pk' {ds : DS} {h : Hd} {d : D} (x : HdIs ds h d) {P : D → Prop} (p : P d) : DL.pk ds h P := by
  unfold DL.pk
  rw [x.pk]; exact p
theorem HdIs.tmp {ds : DS} {d : D} : HdIs ds (.tmp d) d := ⟨fun _ p => p, rfl⟩
def EvT (t : DT) (ds : DS) (d : D) : Prop := ∀ Q : QE, (∀ h, HdIs ds h d → Q h ds) → t ds Q
def EvA (t : DTA) (ds : DS) (dl : List D) : Prop := ∀ Q : List Hd → DS → Prop, (∀ hs, Paired (HdIs ds) hs dl → Q hs ds) → t ds Q
theorem takes_is {ds : DS} {hs : List Hd} {dl : List D} (x : Paired (HdIs ds) hs dl) {P : List D → DS → Prop} (p : P dl ds) : takes hs ds P := by
  induction x generalizing P with
  | nil => exact p
  | cons a b ih => exact a.tk _ (ih p)
theorem peeks_is {ds : DS} {hs : List Hd} {dl : List D} (x : Paired (HdIs ds) hs dl) {P : List D → Prop} (p : P dl) : peeks ds hs P := by
  induction x generalizing P with
  | nil => exact p
  | cons a b ih => exact a.pk' (ih p)
theorem ev_c {ds : DS} {d : D} : EvT (dC d) ds d := fun Q k => k _ .tmp
theorem ev_v {ds : DS} {i : Nat} {d : D} (h : ds[i]? = some (.val d) := by rfl) : EvT (dVar i) ds d := fun Q k => by
  unfold dVar
  rw [h]
  refine k _ ⟨fun P p => ?_, ?_⟩
  · simp only [take1, h]; exact p
  · simp only [peek, h]
theorem ev_nil {ds : DS} : EvA aNil ds [] := fun Q k => k _ .nil
theorem ev_cons {ds : DS} {t : DT} {u : DTA} {d : D} {dl : List D} (a : EvT t ds d) (b : EvA u ds dl) : EvA (aCons t u) ds (d :: dl) := fun Q k => a _ fun h x => b _ fun hs y => k _ (.cons x y)
theorem ev_tup {ds : DS} {u : DTA} {dl : List D} (a : EvA u ds dl) : EvT (dTup u) ds (.tuple dl) := fun Q k => a _ fun hs x => takes_is x (k _ .tmp)
theorem ev_pr {ds : DS} {a b : DT} {x y : D} (h1 : EvT a ds x) (h2 : EvT b ds y) : EvT (dTup (aCons a (aCons b aNil))) ds (.tuple [x, y]) := ev_tup (ev_cons h1 (ev_cons h2 ev_nil))
theorem HdIs.new {ds : DS} {dl : List D} : HdIs ds (.new (.own dl)) (.list dl) := ⟨fun _ p => p, rfl⟩
theorem ev_lst {ds : DS} {u : DTA} {dl : List D} (a : EvA u ds dl) : EvT (dLst u) ds (.list dl) := fun Q k => a _ fun hs x => takes_is x (k _ .new)
/-- a list display, its handle kept -/
theorem lst_new {ds : DS} {u : DTA} {dl : List D} {Q : QE} (a : EvA u ds dl) (q : Q (.new (.own dl)) ds) : dLst u ds Q := a _ fun hs x => takes_is x q
theorem ev_2 {op : D2} {ds : DS} {t u : DT} {a b r : D} (x : EvT t ds a) (y : EvT u ds b) (o : ∀ Q : Hd → Prop, Q (.tmp r) → op a b Q) : EvT (d2 op t u) ds r := fun Q k => x _ fun h1 i1 => y _ fun h2 i2 => i1.pk' (P := fun d1 => pk ds h2 fun e => op d1 e fun h => Q h ds) (i2.pk' (P := fun e => op a e fun h => Q h ds) (o _ (k _ .tmp)))
theorem ev_1 {op : D1} {ds : DS} {t : DT} {a r : D} (x : EvT t ds a) (o : ∀ Q : Hd → Prop, Q (.tmp r) → op a Q) : EvT (d1 op t) ds r := fun Q k => x _ fun h1 i1 => i1.pk' (P := fun d => op d fun h => Q h ds) (o _ (k _ .tmp))
theorem ev_add {ds : DS} {t u : DT} {a b : Int} (x : EvT t ds (.int a)) (y : EvT u ds (.int b)) : EvT (d2 dAdd t u) ds (.int (a + b)) := ev_2 x y fun Q q => q
theorem ev_sub {ds : DS} {t u : DT} {a b : Int} (x : EvT t ds (.int a)) (y : EvT u ds (.int b)) : EvT (d2 dSub t u) ds (.int (a - b)) := ev_2 x y fun Q q => q
theorem ev_neg {ds : DS} {t : DT} {a : Int} (x : EvT t ds (.int a)) : EvT (d1 dNeg t) ds (.int (-a)) := ev_1 x fun Q q => q
theorem ev_pow {ds : DS} {t u : DT} {a b : Int} (x : EvT t ds (.int a)) (y : EvT u ds (.int b)) (c : CPow a b) : EvT (d2 dPow t u) ds (.int (a ^ b.toNat)) := ev_2 x y fun Q q => ⟨c, q⟩
theorem ev_ixL {ds : DS} {t u : DT} {xs : List D} {i : Int} {d : D} (x : EvT t ds (.list xs)) (y : EvT u ds (.int i)) (e : atI xs i = some d) : EvT (d2 dIx t u) ds d := ev_2 x y fun Q q => by simp only [dIx, e]; exact q
theorem ev_ixT {ds : DS} {t u : DT} {xs : List D} {i : Int} {d : D} (x : EvT t ds (.tuple xs)) (y : EvT u ds (.int i)) (e : atI xs i = some d) : EvT (d2 dIx t u) ds d := ev_2 x y fun Q q => by simp only [dIx, e]; exact q
theorem ev_call {ds : DS} {g : DF} {u : DTA} {dl : List D} {d : D} (a : EvA u ds dl) (h : ∀ P : SD → Prop, P (.val d) → g dl P) : EvT (dCall g u) ds d := fun Q k => a _ fun hs x => takes_is x (h _ (k _ .tmp))
theorem ev_b {ds : DS} {op : DN} {u : DTA} {dl : List D} {d : D} (a : EvA u ds dl) (h : ∀ Q : Hd → Prop, Q (.tmp d) → op dl Q) : EvT (dB op u) ds d := fun Q k => a _ fun hs x => peeks_is x (h _ (k _ .tmp))
def EvB (t : DTT) (ds : DS) (b : Bool) : Prop := ∀ Q : Bool → DS → Prop, Q b ds → t ds Q
theorem eb_t {ds : DS} {t : DT} {b : Bool} (x : EvT t ds (.bool b)) : EvB (bT t) ds b := fun Q q => x _ fun h i => i.pk' q
theorem eb_and {ds : DS} {t u : DTT} {a b : Bool} (x : EvB t ds a) (y : a = true → EvB u ds b) : EvB (bAnd t u) ds (a && b) := fun Q q => x _ (by
  cases a with
  | true => exact y rfl _ q
  | false => exact q)
theorem eb_or {ds : DS} {t u : DTT} {a b : Bool} (x : EvB t ds a) (y : a = false → EvB u ds b) : EvB (bOr t u) ds (a || b) := fun Q q => x _ (by
  cases a with
  | true => exact q
  | false => exact y rfl _ q)
theorem eb_not {ds : DS} {t : DTT} {a : Bool} (x : EvB t ds a) : EvB (bNot t) ds (!a) := fun Q q => x _ q
theorem ev_and {ds : DS} {t u : DT} {a b : Bool} (x : EvT t ds (.bool a)) (y : a = true → EvT u ds (.bool b)) : EvT (dAnd t u) ds (.bool (a && b)) := fun Q k => eb_t x _ (by
  cases a with
  | true => exact y rfl _ k
  | false => exact k _ .tmp)
theorem ev_if {ds : DS} {c : DTT} {t u : DT} {b : Bool} {d : D} (x : EvB c ds b) (y : b = true → EvT t ds d) (z : b = false → EvT u ds d) : EvT (dIf c t u) ds d := fun Q k => x _ (by
  cases b with
  | true => exact y rfl _ k
  | false => exact z rfl _ k)
end DL
namespace DL
open PySem PySem.Spec PyProof.Rows L2
theorem spP_law {K : PySem.W.Frag} {H : Hp} {a : Addr} {ns : List Int} {g : DF} (hO : Only H) (hS : Ls K H a (ns.map V.int)) (hg : ∀ P : SD → Prop, P (.val (.bool true)) → g [.list (ns.map .int)] P) : spP K 1 g [.ref a] H (fun v _ => v = .bl true) fun _ _ _ => False := by
  refine ⟨rfl, fun b => ∃ o xs, H b = some (.frz o (.lst xs)), [.list (ns.map .int)], .cons (.lst ?_ (IsA.of_ints ns)) .nil, fun b ⟨o, xs, e⟩ => ⟨_, e, trivial⟩, fun r => r = .val (.bool true), hg _ rfl, ?_⟩
  · rcases hS with (h | ⟨o, h⟩) | h
    · rcases hO a with e | ⟨o, xs, e⟩
      · rw [e] at h; cases h
      · rw [e] at h; cases h
    · exact .inl (.inr ⟨o, by rw [res_in ⟨o, _, h⟩]; exact h⟩)
    · exact .inr h
  · rintro r rfl H' v F' q - - - ⟨⟨v', h1, h2⟩, _⟩
    cases h1
    cases h2
    rfl
end DL
namespace DL
open PySem PySem.Spec PyProof.Rows L2
section
variable {P : Program} {w : World} {A : Around} {E : Value → Shared → Prop} {s : Shared}
abbrev mtO (led : Bool) : Obj := { cls := .type "set", dict := none, data := .set #[] 0 (.fresh 0 0 led) }
abbrev mt (h : Heap) (led : Bool) : Heap := h.push (mtO led)
end
end DL
namespace DL
open PySem PySem.Spec PyProof.Rows L2
def uniqN (zs : List Str) : Nat := (zs.foldl step_dedup []).length
end DL
namespace DL
open PySem PySem.Spec PyProof.Rows L2
@[simp] def dLenS (t : DT) : DT := fun ds Q => t ds fun h ds1 => pk ds1 h fun d => match d with
  | .list xs => ∃ zs : List Str, xs = zs.map .str ∧ zs.length + 1 < scanBound ∧ Q (.tmp (.int (uniqN zs))) ds1
  | .tuple xs => ∃ zs : List Str, xs = zs.map .str ∧ zs.length + 1 < scanBound ∧ Q (.tmp (.int (uniqN zs))) ds1
  | _ => False
section
variable {X : Cx} {K : PySem.W.Frag} {a e o : Expr} {es : List Expr} {ta te to tb : TE} {t u : DT} {p p2 q pos pos2 apos : Pos}
@[simp] def dJoin (x : Str) (t : DT) : DT := fun ds Q => t ds fun h ds1 => pk ds1 h fun d => match d with
  | .list xs => ∃ zs : List Str, xs = zs.map .str ∧ (zs.map (·.length)).sum + zs.length * x.length ≤ 16777216 ∧ Q (.tmp (.str (Txt.join x zs))) ds1
  | _ => False
end
end DL
namespace DL
open PySem PySem.Spec PyProof.Rows L2
def repS (z : Str) (n : Int) : Str := if n < 1 then Str.empty else if (n == 1 || z.length == 0) = true then z else ⟨(List.replicate n.toNat z.cps).foldl (· ++ ·) #[]⟩
theorem rep_size (m : Nat) (a : Array Nat) : ∀ acc : Array Nat, ((List.replicate m a).foldl (· ++ ·) acc).size = acc.size + m * a.size := by
  induction m with
  | zero => intro acc; simp
  | succ m ih =>
    intro acc
    rw [List.replicate_succ, List.foldl_cons, ih, Array.size_append, Nat.succ_mul]
    omega
def rMulS : R2 := fun x y H Q => ∃ (z : Str) (n : Int), x = .str z ∧ y = .int n ∧ (0 ≤ n ∧ n ≤ 1000 ∧ z.length ≤ 1000) ∧ Q (.str (repS z n)) H
section
variable {X : Cx} {K : PySem.W.Frag} {a b e : Expr} {es : List Expr} {ta te tb : TE} {t u : DT} {p p2 q pos pos2 apos : Pos}
theorem op_mulS : OpR X (binaryOp .Mult) rMulS := by
  intro pins s σ H x y v u Q I rx ry h
  obtain ⟨z, n, rfl, rfl, ⟨h0, h1, hz⟩, q⟩ := h
  obtain ⟨t, rfl⟩ := rx
  obtain ⟨t', rfl⟩ := ry
  have bound : z.length * n.toNat ≤ 1000 * 1000 := Nat.mul_le_mul hz (by omega)
  refine PySem.P.mul_str ?_ (fun n1 _ => ?_) (fun n1 _ => ?_) ?_
  · rw [decide_eq_false (by omega), decide_eq_false (by omega)]; rfl
  · have : (1000 : Int) ≤ (2 ^ 63 - 1) / n := by
      have : (1000 : Int) * n ≤ 2 ^ 63 - 1 := by omega
      exact (Int.le_ediv_iff_mul_le (by omega)).mpr this
    omega
  · refine decide_eq_false ?_
    have : 1000 * 1000 ≤ sizeLine := by decide +kernel
    omega
  · unfold repS at q
    split
    · rw [if_pos ‹_›] at q
      exact ⟨by decide, .str Str.empty, H, I.tok _, ⟨_, rfl⟩, q⟩
    · rw [if_neg ‹_›] at q
      split
      · rw [if_pos ‹_›] at q
        exact ⟨.str z, H, I, ⟨_, rfl⟩, q⟩
      · rw [if_neg ‹_›] at q
        refine ⟨?_, .str _, H, I.tok _, ⟨_, rfl⟩, q⟩
        have e : (⟨(List.replicate n.toNat z.cps).foldl (· ++ ·) #[]⟩ : Str).length = n.toNat * z.length := by
          show ((List.replicate n.toNat z.cps).foldl (· ++ ·) #[]).size = _
          rw [rep_size]; simp; rfl
        rw [e, Nat.mul_comm]
        have : 1000 * 1000 ≤ sizeLine := by decide +kernel
        omega
/-- int * int, text * int -/
@[simp] def dMulA : D2
  | .int i, .int j, Q => MulOk i j ∧ Q (.tmp (.int (i * j)))
  | .str z, .int n, Q => (0 ≤ n ∧ n ≤ 1000 ∧ z.length ≤ 1000) ∧ Q (.tmp (.str (repS z n)))
  | _, _, _ => False
def rMulA : R2 := fun x y H Q => rI MulOk (fun i j => .int (i * j)) x y H Q ∨ rMulS x y H Q
theorem op_mulA : OpR X (binaryOp .Mult) rMulA := OpR.or op_mulO op_mulS
theorem rok_mulA : ROk K rMulA dMulA := by
  intro F T σ H ds fp x y d e Q R r px py h k
  cases d <;> cases e <;> first | exact False.elim h | skip
  · rw [px.int, py.int]
    exact .inl ⟨_, _, rfl, rfl, h.1, k _ _ _ _ _ h.2 (.here r (.int _))⟩
  · rw [px.str, py.int]
    exact .inr ⟨_, _, rfl, rfl, h.1, k _ _ _ _ _ h.2 (.here r (.str _))⟩
@[simp] def dIsi2 (m n : String) (t : DT) : DT := fun ds Q => t ds fun h ds1 => pk ds1 h fun d => Q (.tmp (.bool (isT m d || isT n d))) ds1
end
end DL
namespace DL
open PySem PySem.Spec PyProof.Rows L2 RT
section
variable {X : Cx} {K : PySem.W.Frag} {tg a b e : Expr} {es : List Expr} {ta te tb : TE} {t u : DT} {p p2 q pos pos2 apos : Pos}
@[simp] def iRevD (t : DT) : DIT := fun ds Q => t ds fun h ds1 => take1 h ds1 fun d ds2 => match d with
  | .list xs => Q xs.reverse ds2
  | .tuple xs => Q xs.reverse ds2
  | _ => False
@[simp] def dTupRev (t : DT) : DT := fun ds Q => t ds fun h ds1 => pk ds1 h fun d => match d with
  | .list xs => Q (.tmp (.tuple xs.reverse)) ds1
  | _ => False
end
end DL
namespace DL
open PySem PySem.Spec PyProof.Rows L2
@[simp] def mExt (i : Nat) (t : DT) : DM := fun E ds => ownAt ds i fun _ => t ds fun h ds1 => match h with
  | .new (.own zs) => ownAt ds1 i fun xs => xs.length + zs.length ≤ sizeLine ∧ E.nx (ds1.set i (.own (xs ++ zs)))
  | _ => False
end DL
namespace DL
open PySem PySem.Spec PyProof.Rows L2
/-- a name of the text stands for this dict -/
structure KD (K : PySem.W.Frag) (w : World) (mg : Str → Option Value) (x : Str) (d : Addr) (es : Array DictEntry) (n : Nat) (kvs : List (Str × D)) : Prop where
  m : mg x = some (.ref d)
  k : KDict K w d es n
  has : ∀ z : Str, match kvs.lookup z with
    | some dd => ∃ u v, PySem.W.nsIn K d z = some (some u) ∧ RelV v u ∧ ∀ R, Is K R v dd
    | none => PySem.W.nsIn K d z = some none
@[simp] def dKix (kvs : List (Str × D)) (t : DT) : DT := fun ds Q => t ds fun h ds1 => pk ds1 h fun d => match d with
  | .str z => ∃ dd, kvs.lookup z = some dd ∧ Q (.tmp dd) ds1
  | _ => False
@[simp] def dKin (neg : Bool) (kvs : List (Str × D)) (t : DT) : DT := fun ds Q => t ds fun h ds1 => pk ds1 h fun d => match d with
  | .str z => Q (.tmp (.bool (if neg then !(kvs.lookup z).isSome else (kvs.lookup z).isSome))) ds1
  | _ => False
section
variable {X : Cx} {K : PySem.W.Frag} {x : Str} {e : Expr} {te : TE} {t : DT} {pos p : Pos} {d : Addr} {es : Array DictEntry} {n : Nat} {kvs : List (Str × D)}
theorem do_kix (C : KD X.K X.w X.mg x d es n kvs) (hg : Gl X x) (he : DO X e te t) (hd : (x == ("__debug__" : Str)) = false := by decide) (hs : PlainIx e := by exact fun _ _ => rfl) :
    DO X (.Subscript (.Name x p) e pos) (tOp (rIxD X.K X.w) (tC (.ref d)) te) (dKix kvs t) := ⟨pe_ix ix_kdict (pe_glob hg C.m rfl hd) he.pe hs, fun F T σ H ds fp Q R r c k => by
  refine he.ok F T σ H ds fp _ _ r c fun h ds1 v H1 F1 fp1 q1 c1 p1 => ?_
  obtain ⟨dd, i, c2⟩ := pk_ok p1.rep p1.r c1
  cases dd <;> first | exact False.elim c2 | skip
  obtain ⟨dd, e1, c3⟩ := c2
  rename_i z
  have hz := C.has z
  rw [e1] at hz
  obtain ⟨u, v2, e2, ru, iu⟩ := hz
  rw [i.str]
  exact ⟨d, z, v2, rfl, rfl, ⟨es, n, u, C.k.at_, C.k.lit, e2, ru⟩, k _ _ _ _ _ _ _ c3 ((Pst.is (p1.rep.less fun _ z => .inl z) (iu _)).pre p1.g p1.t)⟩⟩
theorem KD.some (C : KD X.K X.w X.mg x d es n kvs) (z : Str) : ∃ r, PySem.W.nsIn X.K d z = Option.some r ∧ r.isSome = (kvs.lookup z).isSome := by
  have hz := C.has z
  cases h : kvs.lookup z with
  | none => rw [h] at hz; exact ⟨_, hz, rfl⟩
  | some dd =>
    rw [h] at hz
    obtain ⟨u, v2, e2, _⟩ := hz
    exact ⟨_, e2, rfl⟩
end
end DL
namespace DL
open PySem PySem.Spec PyProof.Rows L2
@[simp] def mDec (i : Nat) (t : DT) : DM := fun E ds => hasV ds i ∧ t ds fun h ds1 => pk ds1 h fun d => match ds1[i]?, d with
  | some (.val (.int c)), .int z => E.nx (ds1.set i (.val (.int (c - z))))
  | _, _ => False
/-- a name of the text stands for this datum, a value v -/
def Cst (K : PySem.W.Frag) (mg : Str → Option Value) (x : Str) (v : V) (d : D) : Prop := ∃ u, mg x = some u ∧ RelV v u ∧ ∀ R, Is K R v d
section
variable {X : Cx} {K : PySem.W.Frag} {i : Nat} {x : Str} {e : Expr} {te : TE} {d : DT} {pos pos' : Pos}
theorem do_cst {v : V} {dd : D} (hg : Gl X x) (c : Cst X.K X.mg x v dd) (hd : (x == ("__debug__" : Str)) = false := by decide) : DO X (.Name x pos) (tC v) (dC dd) := by
  obtain ⟨u, hm, r, i⟩ := c
  exact do_glob hg hm r i hd
end
end DL
namespace BK
open PySem PySem.Spec PyProof.Rows L2 DL
def g_is_between : DF := fun dl P => ∃ lo d hi, dl = [.int lo, d, .int hi] ∧ P (.val (.bool (betw lo hi d)))
@[simp] theorem at_is_between {lo hi : Int} {d : D} {P : SD → Prop} : g_is_between [.int lo, d, .int hi] P = P (.val (.bool (betw lo hi d))) := by
  refine propext ⟨?_, fun h => ⟨_, _, _, rfl, h⟩⟩
  rintro ⟨_, _, _, e, h⟩
  cases e; exact h
def tb_is_between : DM := (mRet (dAnd (dCall g_is_integer (aCons (dVar 1) aNil)) (dChain dLe dLe (dVar 0) (dVar 1) (dVar 2))))
theorem rd_is_between : ∀ dl Q, dl.length = 3 → g_is_between dl Q → tb_is_between (enF Q) (slots0 3 dl) := by
  rintro dl Q - ⟨lo, d, hi, rfl, h⟩
  cases d with
  | int v => by_cases h1 : lo ≤ v <;> by_cases h2 : v ≤ hi <;> simpa [tb_is_between, h1, h2] using h
  | _ => simpa [tb_is_between, betw] using h
def headB (w : Str) (n : Int) : D → Bool
  | .tuple xs => decide ((xs.length : Int) = n) && match xs with | .str z :: _ => decide (z = w) | _ => false
  | _ => false
def g_is_headed : DF := fun dl P => ∃ w n d, dl = [.str w, .int n, d] ∧ 1 ≤ n ∧ P (.val (.bool (headB w n d)))
@[simp] theorem at_is_headed {w : Str} {n : Int} {d : D} {P : SD → Prop} : g_is_headed [.str w, .int n, d] P = (1 ≤ n ∧ P (.val (.bool (headB w n d)))) := by
  refine propext ⟨?_, fun h => ⟨_, _, _, rfl, h⟩⟩
  rintro ⟨_, _, _, e, h⟩
  cases e; exact h
def lowB (c : Nat) : Bool := decide (97 ≤ c ∧ c ≤ 122)
def wordB : D → Bool
  | .str z => decide (1 ≤ z.length ∧ z.length ≤ 10) && z.cps.toList.all lowB
  | _ => false
def strFit : D → Prop
  | .str z => z.length ≤ sizeLine
  | _ => True
def g_is_word : DF := fun dl P => ∃ d, dl = [d] ∧ strFit d ∧ P (.val (.bool (wordB d)))
@[simp] theorem at_is_word {d : D} {P : SD → Prop} : g_is_word [d] P = (strFit d ∧ P (.val (.bool (wordB d)))) := by
  refine propext ⟨?_, fun h => ⟨_, rfl, h⟩⟩
  rintro ⟨_, e, h⟩
  cases e; exact h
def ce_is_word_1 : DT := (dChain dLe dLe (dC (.str "a")) (dVar 1) (dC (.str "z")))
def tb_is_word : DM := (mRet (dAnd (dIsi "str" (dVar 0)) (dAnd (dChain dLe dLe (dC (.int 1)) (dB bLen (aCons (dVar 0) aNil)) (dC (.int 10))) (dB bAll (aCons (dComp (iSeq (dVar 0)) (gNm 1) cYes ce_is_word_1 [1]) aNil)))))
def signF : D → D
  | .str z => .bool (lowB (z.cps.toList.headD 0))
  | d => d
theorem signF_one (c : Nat) : signF (.str ⟨#[c]⟩) = .bool (lowB c) := rfl
theorem rd_is_word : ∀ dl Q, dl.length = 1 → g_is_word dl Q → tb_is_word (enF Q) (slots0 2 dl) := by
  rintro dl Q - ⟨d, rfl, hs, h⟩
  cases d with
  | str z =>
    have hs : z.length ≤ sizeLine := hs
    by_cases h1 : 1 ≤ z.length
    · by_cases h2 : z.length ≤ 10
      · have i1 : (1 : Int) ≤ (z.length : Int) := by omega
        have i2 : (z.length : Int) ≤ 10 := by omega
        have sz : (strItems z).length ≤ sizeLine := by
          unfold strItems
          rw [List.length_map, Array.length_toList]; exact hs
        simp [tb_is_word, isT_str, hs, i1, i2, sz]
        refine compD_map signF _ _ _ (fun d hd L hL => ?_) ?_
        · unfold strItems at hd
          obtain ⟨c, _, rfl⟩ := List.mem_map.mp hd
          have e1 : ("a" : Str).cps.toList = [97] := by decide +kernel
          have e2 : ("z" : Str).cps.toList = [122] := by decide +kernel
          by_cases c1 : c < 97
          · have : lowB c = false := by unfold lowB; rw [decide_eq_false]; omega
            rw [signF_one, this] at hL
            simpa [ce_is_word_1, e1, e2, c1, List.cons_lt_cons_iff] using hL
          · by_cases c2 : 122 < c
            · have : lowB c = false := by unfold lowB; rw [decide_eq_false]; omega
              rw [signF_one, this] at hL
              simpa [ce_is_word_1, e1, e2, c1, c2, List.cons_lt_cons_iff] using hL
            · have : lowB c = true := by unfold lowB; rw [decide_eq_true]; omega
              rw [signF_one, this] at hL
              simpa [ce_is_word_1, e1, e2, c1, c2, List.cons_lt_cons_iff] using hL
        · refine ⟨z.cps.toList.map lowB, ?_, ?_⟩
          · unfold strItems
            simp [List.map_map, Function.comp_def, signF_one]
          · have e : ((z.cps.toList.map lowB).all id) = z.cps.toList.all lowB := by simp [List.all_map, Function.comp_def]
            simp only [wordB, h1, h2] at h
            rw [e]
            simpa using h
      · have i1 : (1 : Int) ≤ (z.length : Int) := by omega
        have i2 : ¬ (z.length : Int) ≤ 10 := by omega
        simpa [tb_is_word, isT_str, hs, i1, i2, wordB, h2] using h
    · have i1 : ¬ (1 : Int) ≤ (z.length : Int) := by omega
      simpa [tb_is_word, isT_str, hs, i1, wordB, h1] using h
  | _ => simpa [tb_is_word, isT_str, wordB] using h
end BK
namespace DL
open PySem PySem.Spec PyProof.Rows L2
mutual
def lfD : D → Bool
  | .none => true
  | .bool _ => true
  | .int _ => true
  | .str _ => true
  | .tuple xs => lfA xs
  | .list _ => false
  | .dict _ => false
def lfA : List D → Bool
  | [] => true
  | d :: ds => lfD d && lfA ds
end
def notL (o : HO) : Prop := ∀ vs, o ≠ .lst vs
section
variable {K : PySem.W.Frag} {R R' H : Hp}
theorem sqt_lf (e : ∀ a o, R a = some o → notL o → R' a = some o) {a : Addr} {xs : List V} (h : SqT K R a xs) : SqT K R' a xs := by
  rcases h with (h | ⟨o, h⟩) | h
  · exact .inl (.inl (e _ _ h fun _ z => nomatch z))
  · exact .inl (.inr ⟨o, e _ _ h fun _ z => nomatch z⟩)
  · exact .inr h
mutual
theorem Is.lf (e : ∀ a o, R a = some o → notL o → R' a = some o) : ∀ (d : D) {v : V}, lfD d = true → Is K R v d → Is K R' v d
  | .none, _, _, h => by cases h; exact .non
  | .bool _, _, _, h => by cases h; exact .bl _
  | .int _, _, _, h => by cases h; exact .int _
  | .str _, _, _, h => by cases h; exact .str _
  | .list ds, _, z, h => by cases z
  | .tuple ds, _, z, h => by
    cases h with
    | tup ha hs => exact .tup (sqt_lf e ha) (IsA.lf e ds (by simpa [lfD] using z) hs)
  | .dict _, _, z, h => by cases z
theorem IsA.lf (e : ∀ a o, R a = some o → notL o → R' a = some o) : ∀ (ds : List D) {vs : List V}, lfA ds = true → IsA K R vs ds → IsA K R' vs ds
  | [], _, _, h => by cases h; exact .nil
  | d :: ds, _, z, h => by
    have z : lfD d = true ∧ lfA ds = true := by simpa [lfA] using z
    cases h with
    | cons h1 h2 => exact .cons (Is.lf e d z.1 h1) (IsA.lf e ds z.2 h2)
end
def Wd.LF (w : Wd) : Prop := ∀ {R R' H : Hp}, (∀ a o, R a = some o → notL o → R' a = some o) → w.ok R H → w.ok R' H
@[simp] def FD.lf : FD → Bool
  | .val d => lfD d
  | .own _ xs => lfA xs
def Ob.lf (o : Ob) : Bool := o.fs.all FD.lf
theorem FOk.lf (e : ∀ a o, R a = some o → notL o → R' a = some o) : ∀ {v : V} {x : FD}, x.lf = true → FOk K R H v x → FOk K R' H v x
  | _, .val d, z, h => Is.lf e d z h
  | _, .own b xs, z, ⟨h1, ws, h2, h3⟩ => ⟨h1, ws, h2, h3.lf e xs z⟩
theorem fsOk_lf (e : ∀ a o, R a = some o → notL o → R' a = some o) : ∀ {vs : List V} {fs : List FD}, fs.all FD.lf = true → Paired (FOk K R H) vs fs → Paired (FOk K R' H) vs fs
  | _, _, _, .nil => .nil
  | _, _, z, .cons h1 h2 => by
    rw [List.all_cons, Bool.and_eq_true] at z
    exact .cons (h1.lf e z.1) (fsOk_lf e z.2 h2)
theorem obWd_lf {o : Ob} (z : o.lf = true) : (obWd K o).LF := fun e ⟨⟨dx, vs, h1, h2, h3⟩, h4⟩ => ⟨⟨dx, vs, h1, h2, fsOk_lf e z h3⟩, h4⟩
@[simp] def SD.lf : SD → Prop
  | .no => True
  | .val d => lfD d = true
  | .own xs => lfA xs = true
  | .dic kvs => lfA (kvs.map (·.2)) = true
  | .wd w => w.LF
  | .ob o => o.lf = true
theorem kv_lf (e : ∀ a o, R a = some o → notL o → R' a = some o) : ∀ {a : List (Key × V)} {b : List (Key × D)}, lfA (b.map (·.2)) = true → IsKV K R a b → IsKV K R' a b
  | _, _, _, .nil => .nil
  | _ :: _, y :: ys, z, .cons h1 h2 => by
    have z : lfD y.2 = true ∧ lfA (ys.map (·.2)) = true := by simpa [lfA] using z
    exact .cons ⟨h1.1, Is.lf e _ z.1 h1.2⟩ (kv_lf e z.2 h2)
theorem SlotOk.lf {ov : Option (Option V)} {fp : Ad} (e : ∀ a o, R a = some o → notL o → R' a = some o) : ∀ {s : SD}, s.lf → SlotOk K R H ov fp s → SlotOk K R' H ov fp s
  | .no, _, h => h
  | .val d, z, ⟨⟨v, h1, h2⟩, h3⟩ => ⟨⟨v, h1, Is.lf e d z h2⟩, h3⟩
  | .own xs, z, ⟨a, vs, h1, h2, h3, h4⟩ => ⟨a, vs, h1, h2, h3, h4.lf e xs z⟩
  | .dic kvs, z, ⟨a, vs, h1, h2, h3, h4⟩ => ⟨a, vs, h1, h2, h3, kv_lf e z h4⟩
  | .wd w, z, ⟨h1, h2, h3⟩ => ⟨h1, h2, z e h3⟩
  | .ob o, z, ⟨h1, h2, h3⟩ => ⟨h1, h2, obWd_lf (K := K) z e h3⟩
end
@[simp] def lend1 (sf : Option Nat) : Hd → DS → (D → Bool → Prop) → Prop
  | .tmp d, _, Q => Q d false
  | .slot i, ds, Q => match ds[i]? with
    | some (.val d) => Q d false
    | some (.own xs) => some i ≠ sf ∧ Q (.list xs) true
    | _ => False
  | .new (.own xs), _, Q => Q (.list xs) false
  | .new (.val d), _, Q => Q d false
  | .new _, _, _ => False
  | .fld j k a, ds, Q => some j ≠ sf ∧ match ds[j]? with
    | some (.ob o) => match o.fs[k]? with
      | some (.own b xs) => b = a ∧ Q (.list xs) true
      | _ => False
    | _ => False
@[simp] def lends (sf : Option Nat) : List Hd → DS → (List D → Bool → Prop) → Prop
  | [], _, Q => Q [] false
  | h :: hs, ds, Q => lend1 sf h ds fun d b => lends sf hs ds fun dl c => Q (d :: dl) (b || c)
/-- L: the addresses lent -/
structure Lnt (sf : Option Nat) (H : Hp) (fp : Nat → Ad) (b : Bool) (L : Ad) : Prop where
  at_ : ∀ a, L a → ∃ i, some i ≠ sf ∧ fp i a
  ls : ∀ a, L a → ∃ vs, H a = some (.lst vs)
  no : b = false → ∀ a, ¬ L a
theorem Lnt.nil {sf : Option Nat} {H : Hp} {fp : Nat → Ad} : Lnt sf H fp false Ad.nil := ⟨fun _ z => z.elim, fun _ z => z.elim, fun _ _ z => z⟩
theorem Lnt.or {sf : Option Nat} {H : Hp} {fp : Nat → Ad} {b c : Bool} {L M : Ad} (x : Lnt sf H fp b L) (y : Lnt sf H fp c M) : Lnt sf H fp (b || c) (L.or M) :=
  ⟨fun a z => z.elim (x.at_ a) (y.at_ a), fun a z => z.elim (x.ls a) (y.ls a), fun e a z => by
    rw [Bool.or_eq_false_iff] at e
    exact z.elim (x.no e.1 a) (y.no e.2 a)⟩
end DL
namespace DL
open PySem PySem.Spec PyProof.Rows L2
section
variable {X : Cx} {K : PySem.W.Frag} {F T q L : Ad} {σ : Sl} {H : Hp} {ds : DS} {fp : Nat → Ad} {e : Expr} {es : List Expr} {ta tk : TA} {t tkD : DTA} {n k j : Nat} {g : DF} {gw : DFW} {f : Addr} {fd : FuncData} {ps ks : List Str} {x y : Str} {p pos py : Pos} {b : Bool}
@[simp] def dCallL (g : DF) (t : DTA) : DT := fun ds Q => t ds fun hs ds1 => lends none hs ds1 fun dl b => g dl fun r => (b = true → r.lf) ∧ Q (hdOf r) ds1
end
end DL
namespace DL
open PySem PySem.Spec PyProof.Rows L2
abbrev DFO := Ob → List D → (SD → Ob → Prop) → Prop
@[simp] def obAt (ds : DS) (i : Nat) (P : Ob → Prop) : Prop := match ds[i]? with
  | some (.ob o) => P o
  | _ => False
section
variable {K : PySem.W.Frag} {F T q : Ad} {σ : Sl} {H H' : Hp} {ds ds' : DS} {fp : Nat → Ad} {j : Nat} {o : Ob} {v : V} {s : SD}
theorem Rep.sub (r : Rep K F T σ H ds fp) (hl : ds'.length = ds.length) (h : ∀ i s, ds'[i]? = some s → SlotOk K (res F H) H σ[i]? (fp i) s) : Rep K F T σ H ds' fp :=
  ⟨by rw [hl]; exact r.len, h, fun i a z => by rw [hl]; exact r.out i a z, r.fF, r.fT, r.sep, r.tF, r.fd, r.td⟩
open Classical in
/-- one more slot -/
theorem Rep.push (r : Rep K F (T.or q) σ H ds fp) (d : ∀ a, q a → ¬ T a) (hs : SlotOk K (res F H) H (some (some v)) q s) : Rep K F T (σ ++ [some v]) H (ds ++ [s]) (fun i => if i = ds.length then q else fp i) := by
  refine ⟨by simp [r.len], fun i u e => ?_, fun i a z => ?_, fun i a z => ?_, fun i a z => ?_, fun i j a z z' => ?_, fun a t => r.tF a (.inl t), r.fd, fun a t => r.td a (.inl t)⟩
  · by_cases hi : i = ds.length
    · rw [if_pos hi]
      rw [hi, List.getElem?_append_right (Nat.le_refl _)] at e
      simp at e; subst e
      rw [hi, r.len, List.getElem?_append_right (Nat.le_refl _)]
      simpa using hs
    · rw [if_neg hi]
      by_cases hlt : i < ds.length
      · rw [List.getElem?_append_left hlt] at e
        rw [List.getElem?_append_left (by rw [← r.len]; exact hlt)]
        exact r.slot i u e
      · rw [List.getElem?_eq_none (by simp; omega)] at e; cases e
  · by_cases hi : i = ds.length
    · rw [List.length_append, hi]; simp
    · rw [if_neg hi] at z; have := r.out i a z; rw [List.length_append]; omega
  · by_cases hi : i = ds.length
    · rw [if_pos hi] at z; exact r.tF a (.inr z)
    · rw [if_neg hi] at z; exact r.fF i a z
  · by_cases hi : i = ds.length
    · rw [if_pos hi] at z; exact d a z
    · rw [if_neg hi] at z; exact fun t => r.fT i a z (.inl t)
  · by_cases hi : i = ds.length
    · by_cases hj : j = ds.length
      · rw [hi, hj]
      · rw [if_pos hi] at z; rw [if_neg hj] at z'
        exact absurd (.inr z) (r.fT j a z')
    · by_cases hj : j = ds.length
      · rw [if_neg hi] at z; rw [if_pos hj] at z'
        exact absurd (.inr z') (r.fT i a z)
      · rw [if_neg hi] at z; rw [if_neg hj] at z'
        exact r.sep i j a z z'
end
end DL
namespace DL
open PySem PySem.Spec PyProof.Rows L2
@[simp] def dFld (j : Nat) (C : Addr) (ns : List Str) (k : Nat) : DT := fun ds Q => obAt ds j fun o => (o.C = C ∧ o.ns = ns) ∧ match o.fs[k]? with
  | some (.val d) => Q (.tmp d) ds
  | some (.own a _) => Q (.fld j k a) ds
  | none => False
section
variable {X : Cx} {K : PySem.W.Frag} {F T q : Ad} {σ : Sl} {H H' : Hp} {ds ds' : DS} {fp : Nat → Ad} {j k n lv : Nat} {o : Ob} {v : V} {s : SD} {C f : Addr} {ns : List Str} {a m x y : Str} {pos py apos p : Pos} {e : Expr} {es : List Expr} {te : TE} {ta : TA} {t : DT} {u : DTA} {g : DFO} {fd : FuncData} {ps : List Str}
@[simp] def toFD : SD → (FD → Prop) → Prop
  | .val d, P => P (.val d)
  | .own xs, P => ∀ b, P (.own b xs)
  | _, _ => False
/-- a new field -/
@[simp] def mFldN (j : Nat) (C : Addr) (ns : List Str) (a : Str) (t : DT) : DM := fun E ds => t ds fun h ds1 => sett h ds1 fun s ds2 => obAt ds2 j fun o => (o.C = C ∧ o.ns = ns ∧ ns.length < 900) ∧ toFD s fun x => E.nx (ds2.set j (.ob ⟨o.a, o.C, o.ns ++ [a], o.fs ++ [x]⟩))
/-- a field that stands -/
@[simp] def mFldS (j : Nat) (C : Addr) (ns : List Str) (k : Nat) (t : DT) : DM := fun E ds => t ds fun h ds1 => sett h ds1 fun s ds2 => obAt ds2 j fun o => (o.C = C ∧ o.ns = ns ∧ ns.length < 900) ∧ toFD s fun x => E.nx (ds2.set j (.ob ⟨o.a, o.C, o.ns, o.fs.set k x⟩))
end
end DL
namespace DL
open PySem PySem.Spec PyProof.Rows L2
@[simp] def ownF (ds : DS) (j : Nat) (C : Addr) (ns : List Str) (k : Nat) (P : Ob → Addr → List D → Prop) : Prop := obAt ds j fun o => (o.C = C ∧ o.ns = ns) ∧ match o.fs[k]? with
  | some (.own a xs) => P o a xs
  | _ => False
/-- o.f.append(e) -/
@[simp] def mAppF (j : Nat) (C : Addr) (ns : List Str) (k : Nat) (t : DT) : DM := fun E ds => ownF ds j C ns k fun _ a _ => t ds fun h ds1 => take1 h ds1 fun d ds2 => ownF ds2 j C ns k fun o b xs => (b = a ∧ xs.length < sizeLine) ∧ E.nx (ds2.set j (.ob ⟨o.a, o.C, o.ns, o.fs.set k (.own b (xs ++ [d]))⟩))
end DL
namespace DL
open PySem PySem.Spec PyProof.Rows L2
/-- o.m(..), o at slot j -/
@[simp] def dMeth (j : Nat) (C : Addr) (ns : List Str) (g : DFO) (t : DTA) : DT := fun ds Q => obAt ds j fun o0 => (o0.C = C ∧ o0.ns = ns) ∧ t ds fun hs ds1 => lends (some j) hs ds1 fun dl b => obAt ds1 j fun o => o.a = o0.a ∧ g o dl fun r o' => o'.a = o.a ∧ (b = true → r.lf ∧ o'.lf = true) ∧ Q (hdOf r) (ds1.set j (.ob o'))
/-- e.m(..), e a new object -/
@[simp] def dMethN (C : Addr) (ns : List Str) (te : DT) (g : DFO) (t : DTA) : DT := fun ds Q => te ds fun h ds1 => match h with
  | .new (.ob o) => (o.C = C ∧ o.ns = ns) ∧ t ds1 fun hs ds2 => lends none hs ds2 fun dl b => g o dl fun r o' => o'.a = o.a ∧ (b = true → r.lf ∧ o'.lf = true) ∧ Q (hdOf r) ds2
  | _ => False
/-- C(..) -/
@[simp] def dMake (C : Addr) (g : DFO) (t : DTA) : DT := fun ds Q => t ds fun hs ds1 => lends none hs ds1 fun dl b => ∀ a, g ⟨a, C, [], []⟩ dl fun r o' => r = .val .none ∧ o'.a = a ∧ (b = true → o'.lf = true) ∧ Q (.new (.ob o')) ds1
section
variable {X : Cx} {K : PySem.W.Frag} {F T q : Ad} {σ : Sl} {H H' : Hp} {ds ds' : DS} {fp : Nat → Ad} {j k n lv : Nat} {o : Ob} {v : V} {s : SD} {C f : Addr} {ns : List Str} {a m x y : Str} {pos py apos cpos fpos p : Pos} {e : Expr} {es : List Expr} {te : TE} {ta : TA} {t : DT} {u : DTA} {g : DFO} {fd : FuncData} {ps : List Str} {b : Bool} {L : Ad}
theorem Lnt.push {vs : List V} (l : Lnt none H fp b L) (r : Rep K F T σ H ds fp) : Lnt (some ds.length) H (fun i => if i = ds.length then q else fp i) b L :=
  ⟨fun c z => by
    obtain ⟨i, _, y⟩ := l.at_ c z
    have hi := r.out i c y
    exact ⟨i, fun e => by cases e; omega, by rw [if_neg (by omega)]; exact y⟩, l.ls, l.no⟩
/-- a new instance -/
theorem Rep.ins {dx x C : Addr} (r : Rep K F T σ H ds fp) (hx : H x = none) (hd : H dx = none) (ne : dx ≠ x) :
    Rep K F (T.or (· = x)) σ (upd (upd H dx (.own x)) x (.ins C dx [])) ds fp ∧ (∀ a, a = x → ¬ T a) ∧ Grow F H F (upd (upd H dx (.own x)) x (.ins C dx [])) ∧ ∀ a, T a → upd (upd H dx (.own x)) x (.ins C dx []) a = H a := by
  obtain ⟨n1, n2, n3⟩ := r.new_ne hd
  have g0 : Grow F H F (upd H dx (.own x)) := fun a f => ⟨f, upd_ne (ne_by f n1)⟩
  have r0 : Rep K F T σ (upd H dx (.own x)) ds fp := r.go g0 (fun i a z => ⟨upd_ne (ne_by z (n3 i)), r.fF i a z, r.fT i a z⟩) r.tF (fun a f => by rw [(g0 a f).2]; exact r.fd a f) fun a t => by rw [upd_ne (ne_by t n2)]; exact r.td a t
  have hx0 : (upd H dx (.own x)) x = none := by rw [upd_ne (Ne.symm ne)]; exact hx
  obtain ⟨r1, g1, t1⟩ := r0.newT (o := .ins C dx []) hx0 trivial
  obtain ⟨_, m2, _⟩ := r0.new_ne hx0
  exact ⟨r1, fun a e => e ▸ m2, g0.trans g1, fun a t => (t1 a t).trans (upd_ne (ne_by t n2))⟩
end
@[simp] def enO (o : Ob) (P : SD → Ob → Prop) : En := ⟨fun ds => obAt ds 0 fun o' => o'.a = o.a ∧ P (.val .none) o', fun h ds => obAt ds 0 fun o' => o'.a = o.a ∧ retD h ds fun r => P r o', fun _ => False, fun _ => False⟩
@[simp] def slotsO (n : Nat) (o : Ob) (dl : List D) : DS := .ob o :: (dl.map .val ++ List.replicate (n - (dl.length + 1)) .no)
end DL
namespace DL
open PySem PySem.Spec PyProof.Rows L2
inductive Kd where
  | l
  | t
  | s
/-- what a value gives when it is walked -/
def Src (K : PySem.W.Frag) (H : Hp) : Kd → V → List V → Prop
  | .l, x, xs => ∃ a, x = .ref a ∧ SqL K H a xs
  | .t, x, xs => ∃ a, x = .ref a ∧ SqT K H a xs
  | .s, x, xs => ∃ z : Str, x = .str z ∧ xs = z.cps.toList.map fun c => V.str ⟨#[c]⟩
def ISt : Kd → Value → Addr → Nat → Heap → Prop
  | .l, .ref a, it, i, h => h.IsListIter it a i
  | .t, .ref a, it, i, h => h.IsTupleIter it a i
  | .s, .str z t, it, i, h => h.IsStrIter it (strIterType z) z t i
  | _, _, _, _, _ => False
def fpK : Kd → Value → List Addr
  | .l, .ref a => [a]
  | .t, .ref a => [a]
  | _, _ => []
theorem ISt.obj {k : Kd} {u : Value} {it : Addr} {i : Nat} {h : Heap} (st : ISt k u it i h) : ∃ o, h.get? it = some o ∧ ∀ v, o.data ≠ .cell v := by
  cases k <;> cases u <;> first | exact st.elim | skip
  all_goals
    obtain ⟨o, e, _, d⟩ := st
    exact ⟨o, e, fun v q => by rw [d] at q; cases q⟩
theorem ISt.keep {k : Kd} {u : Value} {it : Addr} {i : Nat} {h h' : Heap} (st : ISt k u it i h) (hk : ∀ o, h.get? it = some o → h'.get? it = some o) : ISt k u it i h' := by
  cases k <;> cases u <;> first | exact st.elim | skip
  all_goals
    obtain ⟨o, e, r⟩ := st
    exact ⟨o, hk o e, r⟩
section
variable {X : Cx} {K : PySem.W.Frag} {pins : List (Addr × Obj)} {σ : Sl} {H : Hp} {s : Shared} {k k1 k2 : Kd} {x y : V} {xs ys : List V} {u u1 u2 : Value} {it : Addr} {n : Nat}
theorem Src.inj (I : Inv X pins σ H s) (a : Src X.K H k x xs) (b : Src X.K H k x ys) : xs = ys := by
  cases k
  · obtain ⟨p, rfl, a⟩ := a
    obtain ⟨_, e, b⟩ := b
    cases e; exact I.list_inj a b
  · obtain ⟨p, rfl, a⟩ := a
    obtain ⟨_, e, b⟩ := b
    cases e; exact I.tuple_inj a b
  · obtain ⟨p, rfl, rfl⟩ := a
    obtain ⟨_, e, rfl⟩ := b
    cases e; rfl
theorem vals_get {xs : List V} {its : List Value} (r : Vals xs its) {i : Nat} {v : Value} (h : its.toArray[i]? = some v) : ∃ y, xs[i]? = some y ∧ RelV y v := by
  have h' : its[i]? = some v := by simpa using h
  obtain ⟨y, q1, q2⟩ := paired_at2 (G := RelV) r h'
  exact ⟨y, q1, q2⟩
theorem draws_of (I : Inv X pins σ H s) (hh : X.A.handled = none) (ru : RelV x u) (a : Src X.K H k x xs) (ne : ∀ b ∈ fpK k u, b ≠ it) :
    ∃ (P : Nat → Value → Prop) (St : Nat → Heap → Prop), Draws X.prog X.w X.A.in1 it (it :: fpK k u) xs.length P St ∧ (∀ i, ISt k u it i s.heap → St i s.heap) ∧ (∀ i h, St i h → ISt k u it i h) ∧ ∀ i v, P i v → ∃ y, xs[i]? = some y ∧ RelV y v := by
  cases k
  · obtain ⟨p, rfl, a⟩ := a
    obtain rfl : u = .ref p := ru
    obtain ⟨its, rv, pl, _⟩ := I.list a
    refine ⟨fun i v => its.toArray[i]? = some v, fun i h => h.IsListIter it p i ∧ h.IsList p its.toArray, ?_, fun i st => ⟨st, pl.isList⟩, fun i h st => st.1, fun i v h => vals_get rv h⟩
    have := Draws.list (prog := X.prog) (w := X.w) (A := X.A.in1) hh it p (ne p (by simp [fpK])) its.toArray
    rw [show its.toArray.size = xs.length by rw [List.size_toArray, rv.length]] at this
    exact this
  · obtain ⟨p, rfl, a⟩ := a
    obtain rfl : u = .ref p := ru
    obtain ⟨its, rv, pl, _⟩ := I.tuple a
    refine ⟨fun i v => its.toArray[i]? = some v, fun i h => h.IsTupleIter it p i ∧ h.IsTuple p its.toArray, ?_, fun i st => ⟨st, show s.heap.IsTuple p its.toArray from pl⟩, fun i h st => st.1, fun i v h => vals_get rv h⟩
    have := Draws.tuple (prog := X.prog) (w := X.w) (A := X.A.in1) hh it p (ne p (by simp [fpK])) its.toArray
    rw [show its.toArray.size = xs.length by rw [List.size_toArray, rv.length]] at this
    exact this
  · obtain ⟨z, rfl, rfl⟩ := a
    obtain ⟨t, rfl⟩ := ru
    refine ⟨fun i v => ∃ c u, z.cps[i]? = some c ∧ v = .str ⟨#[c]⟩ u, fun i h => h.IsStrIter it (strIterType z) z t i, ?_, fun i st => st, fun i h st => st, fun i v h => ?_⟩
    · have := Draws.text (prog := X.prog) (w := X.w) (A := X.A.in1) hh it z t
      rw [show z.cps.size = (z.cps.toList.map fun c => V.str ⟨#[c]⟩).length by simp] at this
      exact this
    · obtain ⟨c, t', hc, rfl⟩ := h
      exact ⟨.str ⟨#[c]⟩, by simp [hc], t', rfl⟩
def Itzg (K : PySem.W.Frag) (k1 : Kd) (x : V) (k2 : Kd) (y : V) : It :=
  ⟨fun i H => ∃ (xs ys : List V) (a b : V), Src K H k1 x xs ∧ Src K H k2 y ys ∧ xs[i]? = some a ∧ ys[i]? = some b,
    fun i H v H' => ∃ T a b, v = .ref T ∧ H T = none ∧ H' = upd H T (.tup [a, b]) ∧ (∀ xs, Src K H k1 x xs → xs[i]? = some a) ∧ ∀ ys, Src K H k2 y ys → ys[i]? = some b,
    fun i H => ∃ xs ys : List V, Src K H k1 x xs ∧ Src K H k2 y ys ∧ i ≤ xs.length ∧ i ≤ ys.length ∧ (xs.length = i ∨ ys.length = i)⟩
theorem turn_zipG {P : Program} {w : World} {elts : List Expr} {kk : Nat} {tpos : Pos} {z TI TO i1 i2 : Addr} (r1 : RelV x u1) (r2 : RelV y u2) (D : ZipSep2 z TI TO i1 i2 (i1 :: fpK k1 u1) (i2 :: fpK k2 u2)) (n1 : ∀ b ∈ fpK k1 u1, b ≠ i1) (n2 : ∀ b ∈ fpK k2 u2, b ≠ i2) :
    Turn P w K (.Tuple elts kk tpos) (Itzg K k1 x k2 y) [z, TI, TO, i1, i2] z (fun i h => IsZip h z TI TO .none ∧ IsTupOf2 h TI (.ref i1) (.ref i2) ∧ (∃ a b, IsTupOf2 h TO a b) ∧ ISt k1 u1 i1 i h ∧ ISt k2 u2 i2 i h) where
  mem := by simp
  obj := fun i h st c hc => by
    obtain ⟨hz, hTI, ⟨a, b, hTO⟩, h1, h2⟩ := st
    have e' : c = z ∨ c = TI ∨ c = TO ∨ c = i1 ∨ c = i2 := by simpa using hc
    rcases e' with q | q | q | q | q
    · rw [q]; exact ⟨_, hz, fun v q => nomatch q⟩
    · rw [q]; exact ⟨_, hTI, fun v q => nomatch q⟩
    · rw [q]; exact ⟨_, hTO, fun v q => nomatch q⟩
    · rw [q]; exact h1.obj
    · rw [q]; exact h2.obj
  keep := fun i h h' st k => by
    obtain ⟨hz, hTI, ⟨a, b, hTO⟩, h1, h2⟩ := st
    exact ⟨k z (by simp) _ hz, k TI (by simp) _ hTI, ⟨a, b, k TO (by simp) _ hTO⟩, h1.keep fun o q => k i1 (by simp) o q, h2.keep fun o q => k i2 (by simp) o q⟩
  item := by
    intro X hP hw hK hc i pins s σ H E I hf st hg
    subst hP hw hK
    obtain ⟨hz, hTI, ⟨a0, b0, hTO⟩, h1, h2⟩ := st
    obtain ⟨xs, ys, a, b, sx, sy, hx, hy⟩ := hg
    obtain ⟨P1, S1, D1, f1, g1, p1⟩ := draws_of I (I.ok.hd hc) r1 sx n1
    obtain ⟨P2, S2, D2, f2, g2, p2⟩ := draws_of I (I.ok.hd hc) r2 sy n2
    have hzl : z < s.heap.objs.size := Heap.lt_size hz
    have l1 : i < xs.length := (List.getElem?_eq_some_iff.mp hx).1
    have l2 : i < ys.length := (List.getElem?_eq_some_iff.mp hy).1
    refine wpAny_pyNext_zipD2_item D D1 D2 hz hTI hTO (f1 i h1) (f2 i h2) l1 l2 fun v1 v2 h' tk y1 y2 z' TO' h1' h2' hT hsz hk => ?_
    obtain ⟨a', ha', ra⟩ := p1 i v1 y1
    obtain ⟨b', hb', rb⟩ := p2 i v2 y2
    rw [hx] at ha'; cases ha'
    rw [hy] at hb'; cases hb'
    refine ⟨_, rfl, wpAny_letOwnedTupleGo_zip (s := { s with heap := h', toks := tk }) z' fun h'' z'' sb => ?_⟩
    have hT2 : h''.get? s.heap.objs.size = some { cls := .type "tuple", data := .seq #[v1, v2] } := (sb.2 _ (Nat.ne_of_gt hzl)).trans hT
    have new : ObjOk X.prog X.w (upd H s.heap.objs.size (.tup [a, b])) h'' s.heap.objs.size (.tup [a, b]) :=
      ⟨by show 2 ≤ sizeLine; decide, [v1, v2], .cons ra (.cons rb .nil), ⟨_, hT2, rfl, _, rfl⟩⟩
    have I1 : Inv X pins σ (upd H s.heap.objs.size (.tup [a, b])) { s with heap := h'', toks := tk } :=
      I.turnedNew (t' := tk) (ch := [z, TI, TO, i1, i2]) (fun c o hb q => (sb.2 c (fun q' => hb (by simp [q']))).trans (hk c o (fun q' => hb (by simp [q'])) (fun q' => hb (by simp [q'])) (fun q' => hb (by simp [q'])) (fun q' => hb (by simp [q'])) q)) hf (Nat.le_refl _) new
    refine ⟨.ref s.heap.objs.size, _, I1, rfl, ⟨_, a, b, rfl, I.hok.fresh (Nat.le_refl _), rfl, fun l hl => by rw [hl.inj I sx]; exact hx, fun l hl => by rw [hl.inj I sy]; exact hy⟩, ⟨z'', ?_, ⟨v1, v2, ?_⟩, ?_, ?_⟩, fun c hcm => ?_⟩
    · exact (sb.2 _ D.TIz).trans (hk _ _ D.TIz D.TITO D.TIi1 D.TIi2 hTI)
    · exact (sb.2 _ D.TOz).trans TO'
    · exact (g1 _ _ h1').keep fun o q => (sb.2 _ (Ne.symm D.zi1)).trans q
    · exact (g2 _ _ h2').keep fun o q => (sb.2 _ (Ne.symm D.zi2)).trans q
    · have hlt : c < s.heap.objs.size := by
        have e' : c = z ∨ c = TI ∨ c = TO ∨ c = i1 ∨ c = i2 := by simpa using hcm
        rcases e' with q | q | q | q | q
        · rw [q]; exact hzl
        · rw [q]; exact Heap.lt_size hTI
        · rw [q]; exact Heap.lt_size hTO
        · rw [q]; obtain ⟨_, e1, _⟩ := h1.obj; exact Heap.lt_size e1
        · rw [q]; obtain ⟨_, e2, _⟩ := h2.obj; exact Heap.lt_size e2
      rw [upd_ne (Nat.ne_of_lt hlt)]
      exact (hf c hcm).1
  done := by
    intro X hP hw hK hc i pins s σ H E I hf st hg
    subst hP hw hK
    obtain ⟨hz, hTI, ⟨a0, b0, hTO⟩, h1, h2⟩ := st
    obtain ⟨xs, ys, sx, sy, l1, l2, hend⟩ := hg
    obtain ⟨P1, S1, D1, f1, g1, p1⟩ := draws_of I (I.ok.hd hc) r1 sx n1
    obtain ⟨P2, S2, D2, f2, g2, p2⟩ := draws_of I (I.ok.hd hc) r2 sy n2
    exact wpAny_pyNext_zipD2_end D D1 D2 hz hTI hTO (f1 i h1) (f2 i h2) l1 l2 (hend.imp Eq.symm Eq.symm) fun h' tk hk => ⟨rfl, I.turnedL (t' := tk) (ch := [z, TI, TO, i1, i2]) (fun c o hb q =>
      hk c o (fun q' => hb (by simp [q'])) (fun q' => hb (by simp [q'])) (fun q' => hb (by simp [q'])) (fun q' => hb (by simp [q'])) q) hf⟩
  self := fun A i s Q E st h => wpAny_pyIter_zip st.1 h
/-- iter(v) begins -/
theorem begins_of (I : Inv X pins σ H s) (ru : RelV x u) (a : Src X.K H k x xs) : ∃ (o : Obj) (Hh : Heap → Prop), Begins u o Hh ∧ Hh s.heap ∧ (∀ (h' : Heap) (it : Addr), h'.get? it = some o → ISt k u it 0 h') ∧ ∀ b ∈ fpK k u, b < s.heap.objs.size := by
  cases k
  · obtain ⟨p, rfl, a⟩ := a
    obtain rfl : u = .ref p := ru
    obtain ⟨its, rv, pl, _⟩ := I.list a
    exact ⟨_, _, begins_list p its.toArray, pl.isList, fun h' it e => ⟨_, e, rfl, rfl⟩, fun b hb => by simp [fpK] at hb; subst hb; exact pl.lt⟩
  · obtain ⟨p, rfl, a⟩ := a
    obtain rfl : u = .ref p := ru
    obtain ⟨its, rv, pl, _⟩ := I.tuple a
    obtain ⟨o1, ho1, _⟩ := id pl
    exact ⟨_, _, begins_tuple p its.toArray, pl, fun h' it e => ⟨_, e, rfl, rfl⟩, fun b hb => by simp [fpK] at hb; subst hb; exact Heap.lt_size ho1⟩
  · obtain ⟨z, rfl, rfl⟩ := a
    obtain ⟨t, rfl⟩ := ru
    exact ⟨_, _, begins_text z t, trivial, fun h' it e => ⟨_, e, rfl, rfl⟩, fun b hb => by simp [fpK] at hb⟩
def iZipG (K : PySem.W.Frag) (ta : TA) : TI := fun σ H R => ta σ H fun vs H1 => ∃ x y k1 k2 xs ys, vs = [x, y] ∧ Src K H1 k1 x xs ∧ Src K H1 k2 y ys ∧ R (Itzg K k1 x k2 y) H1
theorem pi_zipG {e e2 : Expr} {ta : TA} {p pos tpos : Pos} {elts : List Expr} {kk : Nat} (hg : Gl X "zip") (hm : X.mg "zip" = none) (ha : PA X [e, e2] ta)
    (hs : starEach [e, e2] X.env = (false, eval e X.env) :: starEach [e2] X.env := by rfl) (hpl : (backTo pos (starEach [e2] X.env)).any (·.1) = false := by rfl) :
    PI X (.Tuple elts kk tpos) (.Call (.Name "zip" p) [e, e2] [] pos) (iZipG X.K ta) := by
  refine ⟨fun pins s σ H R I h => ?_⟩
  refine Call_ (ld_blt I hg hm PyProof.Rows.boot_zip (PyProof.Rows.callWith_type1 (thn (ha.run pos pins s σ H _ I h) fun us s1 ⟨vs, H1, I1, r1, q1⟩ => ?_) hs hpl))
  obtain ⟨x, y, k1, k2, xs, ys, ex, sx, sy, q⟩ := q1
  subst ex
  cases r1 with
  | cons r rr =>
    cases rr with
    | cons r' rr =>
      cases rr
      obtain ⟨o1, G1, B1, b1, c1, l1⟩ := begins_of I1 r sx
      obtain ⟨o2, G2, B2, b2, c2, l2⟩ := begins_of I1 r' sy
      refine zip_begins2 B1 B2 b1 b2 fun h' hz hTI hTO g1 g2 hsz hk => wpAny_pyIter_zip hz ?_
      have I2 : Inv X pins σ H1 { s1 with heap := h' } := I1.kept (t' := s1.toks) hk
      have fresh5 : ∀ c, c ∈ [s1.heap.objs.size + 4, s1.heap.objs.size + 2, s1.heap.objs.size + 3, s1.heap.objs.size, s1.heap.objs.size + 1] → FpOk X pins H1 c := fun c hcm => by
        have e' : c = s1.heap.objs.size + 4 ∨ c = s1.heap.objs.size + 2 ∨ c = s1.heap.objs.size + 3 ∨ c = s1.heap.objs.size ∨ c = s1.heap.objs.size + 1 := by simpa using hcm
        have hle : s1.heap.objs.size ≤ c := by
          rcases e' with z | z | z | z | z
          · rw [z]; exact Nat.le_add_right _ _
          · rw [z]; exact Nat.le_add_right _ _
          · rw [z]; exact Nat.le_add_right _ _
          · rw [z]; exact Nat.le_refl _
          · rw [z]; exact Nat.le_add_right _ _
        exact I1.fpOk hle (I1.hok.fresh hle)
      exact ⟨s1.heap.objs.size + 4, [s1.heap.objs.size + 4, s1.heap.objs.size + 2, s1.heap.objs.size + 3, s1.heap.objs.size, s1.heap.objs.size + 1], _, _, H1, rfl, I2,
        turn_zipG r r' (zip_sep2 l1 l2) (fun b hb e => Nat.lt_irrefl _ (e ▸ l1 b hb : s1.heap.objs.size < s1.heap.objs.size)) (fun b hb e => by have := l2 b hb; rw [e] at this; exact absurd this (Nat.not_lt.mpr (Nat.le_succ _))), ⟨hz, hTI, ⟨_, _, hTO⟩, c1 _ _ g1, c2 _ _ g2⟩, fresh5, q⟩
theorem walk_zipG (hn : n = min xs.length ys.length) : Walk (Itzg K k1 x k2 y) n (fun H => Src K H k1 x xs ∧ Src K H k2 y ys) (YPair (fun i => xs[i]?) (fun i => ys[i]?)) := by
  subst hn
  refine ⟨fun i _ hi q => ?_, fun _ q => ⟨xs, ys, q.1, q.2, Nat.min_le_left _ _, Nat.min_le_right _ _, by omega⟩, fun i H v H' _ q y => ?_⟩
  · have h1 : i < xs.length := by omega
    have h2 : i < ys.length := by omega
    exact ⟨xs, ys, xs[i], ys[i], q.1, q.2, by simp [h1], by simp [h2]⟩
  · obtain ⟨T, x, z, h1, h2, h3, h4, h5⟩ := y
    exact ⟨T, x, z, h1, h2, h3, h4 xs q.1, h5 ys q.2⟩
end
/-- the items that a datum gives when it is walked -/
@[simp] def seqD : D → Option (List D)
  | .list xs => some xs
  | .tuple xs => some xs
  | .str z => some (strItems z)
  | _ => none
theorem src_of {K : PySem.W.Frag} {R H : Hp} {v : V} {d : D} {xs : List D} (h : Is K R v d) (e : seqD d = some xs) : ∃ k vs, (∀ H, Same R H → Src K H k v vs) ∧ IsA K R vs xs := by
  cases d <;> first | (cases e; done) | skip
  · cases e
    cases h
    rename_i z
    refine ⟨.s, _, fun H _ => ⟨z, rfl, rfl⟩, ?_⟩
    unfold strItems
    generalize z.cps.toList = l
    induction l with
    | nil => exact .nil
    | cons c l ih => exact .cons (.str _) ih
  · cases e
    cases h with
    | lst ha hs => exact ⟨.l, _, fun H s => ⟨_, rfl, (same_l s ha).sq⟩, hs⟩
  · cases e
    cases h with
    | tup ha hs => exact ⟨.t, _, fun H s => ⟨_, rfl, same_t s ha⟩, hs⟩
@[simp] def iZg (t u : DT) : DIT := fun ds Q => t ds fun h ds1 => u ds1 fun h2 ds2 => takes [h, h2] ds2 fun dl ds3 => match dl with
  | [a, b] => match seqD a, seqD b with
    | some xs, some ys => Q (zipD xs ys) ds3
    | _, _ => False
  | _ => False
section
variable {X : Cx} {e b : Expr} {te tb : TE} {t u : DT} {p' pos tpos : Pos} {elts : List Expr} {kk : Nat}
theorem di_zipG (hg : Gl X "zip") (hm : X.mg "zip" = none) (h : DO X e te t) (h' : DO X b tb u) (hs : starEach [e, b] X.env = (false, eval e X.env) :: starEach [b] X.env := by rfl)
    (hs2 : starEach [b] X.env = (false, eval b X.env) :: starEach [] X.env := by rfl) (hpl : (backTo pos (starEach [b] X.env)).any (·.1) = false := by rfl) :
    DI X (.Tuple elts kk tpos) (.Call (.Name "zip" p') [e, b] [] pos) (iZipG X.K (tCons te (tCons tb tNil))) (iZg t u) :=
  ⟨pi_zipG hg hm (pa_cons h.pe (pa_cons h'.pe pa_nil hs2) hs) hs hpl, fun F T σ H ds fp Q R r a k => by
    refine aok_cons h.ok (aok_cons h'.ok aok_nil) F T σ H ds fp (fun hs ds2 => takes hs ds2 fun dl ds3 => match dl with
      | [a, b] => match seqD a, seqD b with
        | some xs, some ys => Q (zipD xs ys) ds3
        | _, _ => False
      | _ => False) _ r a fun hs ds1 vs H1 F1 fp1 q1 k1 p1 l1 => ?_
    obtain ⟨dl, ds2, F2, fp2, e2, r2, g2, i2⟩ := takes_ok p1.r .refl p1.rep p1.qT k1
    match dl, i2, e2 with
    | [a, b], .cons ia (.cons ib .nil), e2 =>
      cases ea : seqD a with
      | none => simp only [ea] at e2
      | some xs =>
        cases eb : seqD b with
        | none => simp only [ea, eb] at e2
        | some ys =>
          simp only [ea, eb] at e2
          obtain ⟨ka, va, sa, ja⟩ := src_of (H := H1) ia ea
          obtain ⟨kb, vb, sb, jb⟩ := src_of (H := H1) ib eb
          refine ⟨_, _, ka, kb, va, vb, rfl, sa H1 (res_same _ _), sb H1 (res_same _ _), k _ _ _ _ _ _ e2 r2 (p1.g.trans g2) p1.t (itd_zip (walk_zipG rfl) ja jb fun F' H' g => ⟨sa H' fun a o e => res_same _ _ a o (g.same a o e), sb H' fun a o e => res_same _ _ a o (g.same a o e)⟩)⟩⟩
end
end DL
namespace DL
open PySem PySem.Spec PyProof.Rows L2
section
open PySem.Sem (wp)
theorem meets_enum1 {v : Value} {o : Obj} {H : Heap → Prop} (B : Begins v o H) :
    Meets (Builtin.«enumerate.__new__» ⟨[.type "enumerate", v], []⟩) (fun _ R s => H s.heap ∧
      R (.ok (.ret (.ref (s.heap.push o).objs.size))) { s with heap := (s.heap.push o).push { cls := .type "enumerate", data := .fields #[.none, .bool false, .ref s.heap.objs.size, rawInt 0, .none, .none] } }) :=
  .of_wp fun prog w A R s h => by
    obtain ⟨hp, g, d, tk, os⟩ := s; obtain ⟨h1, h⟩ := h
    have hsub := sub_enumerate
    have q1 : ∀ {A' : Around} {E : Value → Shared → Prop} {Q : Value → Shared → Prop}, Q (.ref hp.objs.size) ⟨hp.push o, g, d, tk, os⟩ → wpAny (model prog w) A' (pyIter v) Q E ⟨hp, g, d, tk, os⟩ :=
      fun q => B.iter prog w _ _ ⟨hp, g, d, tk, os⟩ _ h1 q
    wp_walk using q1
    refine wpAny_stack_any fun st => wpAny_pure ?_
    split
    · rename_i c _ _ _ _ _
      cases (c == Value.type "enumerate")
      · wp_walk using q1
        exact ⟨_, rfl, h⟩
      · wp_walk using q1
        exact ⟨_, rfl, h⟩
    · wp_walk using q1
      exact ⟨_, rfl, h⟩
theorem enum_begins1 {prog : Program} {w : World} {A : Around} {E : Value → Shared → Prop} {s : Shared} {v : Value} {o : Obj} {H : Heap → Prop} {Q : Value → Shared → Prop} (B : Begins v o H) (h1 : H s.heap)
    (h : ∀ h', IsEnum h' (s.heap.objs.size + 1) s.heap.objs.size 0 .none → h'.get? s.heap.objs.size = some o → h'.objs.size = s.heap.objs.size + 2 →
      (∀ b o, s.heap.get? b = some o → h'.get? b = some o) → Q (.ref (s.heap.objs.size + 1)) { s with heap := h' }) :
    wpAny (model prog w) A (call (.type "enumerate") [v]) Q E s := by
  refine callType_new F.called_enumerate (by decide) (F.typeCall_enumerate_1 _) (F.newCall_enumerate_1 _) (fun obj => F.args_object_init_2 obj _) F.entry_enumerate_new
    (meets_enum1 B) ⟨h1, ?_⟩
  have hz : (s.heap.push o).objs.size = s.heap.objs.size + 1 := Heap.size_push ..
  show _ ∧ _
  rw [hz]
  have he : IsEnum ((s.heap.push o).push { cls := .type "enumerate", data := .fields #[.none, .bool false, .ref s.heap.objs.size, rawInt 0, .none, .none] }) (s.heap.objs.size + 1) s.heap.objs.size 0 .none := by
    have := Heap.get?_push_size (s.heap.push o) (o := { cls := .type "enumerate", data := .fields #[.none, .bool false, .ref s.heap.objs.size, rawInt 0, .none, .none] }) rfl
    rw [hz] at this; exact this
  refine ⟨⟨_, he, rfl⟩, h _ he (Heap.get?_push_of_some _ (Heap.get?_push_size _ B.free)) (by rw [Heap.size_push, hz]) fun b o x => Heap.get?_push_of_some _ (Heap.get?_push_of_some _ x)⟩
end
section
variable {X : Cx} {K : PySem.W.Frag} {pins : List (Addr × Obj)} {σ : Sl} {H : Hp} {s : Shared} {k : Kd} {x : V} {xs : List V} {u : Value} {n : Nat}
def Iteg (K : PySem.W.Frag) (k : Kd) (x : V) : It :=
  ⟨fun i H => ∃ (xs : List V) (a : V), Src K H k x xs ∧ xs[i]? = some a,
    fun i H v H' => ∃ T a, v = .ref T ∧ H T = none ∧ H' = upd H T (.tup [.int (i : Nat), a]) ∧ ∀ xs, Src K H k x xs → xs[i]? = some a,
    fun i H => ∃ xs : List V, Src K H k x xs ∧ xs.length = i⟩
theorem turn_enumG {P : Program} {w : World} {elts : List Expr} {kk : Nat} {tpos : Pos} {e it : Addr} (r : RelV x u) (ne : e ≠ it) (nf : e ∉ fpK k u) (n1 : ∀ b ∈ fpK k u, b ≠ it) :
    Turn P w K (.Tuple elts kk tpos) (Iteg K k x) [e, it] e (fun i h => (∃ old, IsEnum h e it ((i : Nat) : Int) old) ∧ ISt k u it i h) where
  mem := by simp
  obj := fun i h st b hb => by
    obtain ⟨⟨old, he⟩, hit⟩ := st
    have e' : b = e ∨ b = it := by simpa using hb
    rcases e' with z | z
    · rw [z]; exact ⟨_, he, fun v q => nomatch q⟩
    · rw [z]; exact hit.obj
  keep := fun i h h' st k => let ⟨⟨old, he⟩, hi⟩ := st; ⟨⟨old, k e (by simp) _ he⟩, hi.keep fun o q => k it (by simp) o q⟩
  item := by
    intro X hP hw hK hc i pins s σ H E I hf st hg
    subst hP hw hK
    obtain ⟨⟨old, he⟩, hit⟩ := st
    obtain ⟨xs, a, sx, hx⟩ := hg
    obtain ⟨P1, S1, D1, f1, g1, p1⟩ := draws_of I (I.ok.hd hc) r sx n1
    have hel : e < s.heap.objs.size := Heap.lt_size he
    have hil : it < s.heap.objs.size := by obtain ⟨_, q, _⟩ := hit.obj; exact Heap.lt_size q
    have l1 : i < xs.length := (List.getElem?_eq_some_iff.mp hx).1
    refine wpAny_pyNext_enum_itemD D1 he (f1 i hit) l1 ne (by
      intro z
      rcases List.mem_cons.mp z with z | z
      · exact ne z
      · exact nf z) fun v1 h' tk y1 ho hit' hT hsz hk => ?_
    obtain ⟨a', ha', ra⟩ := p1 i v1 y1
    rw [hx] at ha'; cases ha'
    refine ⟨_, rfl, wpAny_letOwnedTupleGo_enum (s := { s with heap := h', toks := tk + 1 }) ho fun h'' he' sb => ?_⟩
    have hT2 : h''.get? s.heap.objs.size = some { cls := .type "tuple", data := .seq #[.int i tk, v1] } := (sb.2 _ (Nat.ne_of_gt hel)).trans hT
    have new : ObjOk X.prog X.w (upd H s.heap.objs.size (.tup [.int (i : Nat), a])) h'' s.heap.objs.size (.tup [.int (i : Nat), a]) :=
      ⟨by show 2 ≤ sizeLine; decide, [.int i tk, v1], .cons ⟨_, rfl⟩ (.cons ra .nil), ⟨_, hT2, rfl, _, rfl⟩⟩
    have I1 : Inv X pins σ (upd H s.heap.objs.size (.tup [.int (i : Nat), a])) { s with heap := h'', toks := tk + 1 } :=
      I.turnedNew (ch := [e, it]) (fun b ob hb q => (sb.2 b (fun z => hb (by simp [z]))).trans (hk b ob (fun z => hb (by simp [z])) (fun z => hb (by simp [z])) q)) hf (Nat.le_refl _) new
    refine ⟨.ref s.heap.objs.size, _, I1, rfl, ⟨_, a, rfl, I.hok.fresh (Nat.le_refl _), rfl, fun ys hy => by rw [hy.inj I sx]; exact hx⟩, ⟨⟨v1, ?_⟩, (g1 _ _ hit').keep fun o q => (sb.2 it (Ne.symm ne)).trans q⟩, fun b hb => ?_⟩
    · have e1 : ((i + 1 : Nat) : Int) = (i : Int) + 1 := by omega
      rw [e1]; exact he'
    · have hb' : b < s.heap.objs.size := by
        have e' : b = e ∨ b = it := by simpa using hb
        rcases e' with z | z
        · rw [z]; exact hel
        · rw [z]; exact hil
      rw [upd_ne (Nat.ne_of_lt hb')]
      exact (hf b hb).1
  done := by
    intro X hP hw hK hc i pins s σ H E I hf st hg
    subst hP hw hK
    obtain ⟨⟨old, he⟩, hit⟩ := st
    obtain ⟨xs, sx, rfl⟩ := hg
    obtain ⟨P1, S1, D1, f1, g1, p1⟩ := draws_of I (I.ok.hd hc) r sx n1
    obtain ⟨f0, f1', f2, f3, f4, f5⟩ := hf it (by simp)
    exact wpAny_pyNext_enum_endD D1 he (f1 _ hit) fun h' eb => ⟨rfl, I.turned (t' := s.toks) (fun b o hb q => eb b o hb q) f0 f1' f3 f4 f5⟩
  self := fun A i s Q E st h => let ⟨⟨_, he⟩, _⟩ := st; wpAny_pyIter_enum he h
def iEnumG (K : PySem.W.Frag) (ta : TA) : TI := fun σ H R => ta σ H fun vs H1 => ∃ x k xs, vs = [x] ∧ Src K H1 k x xs ∧ R (Iteg K k x) H1
theorem pi_enumG {e : Expr} {ta : TA} {p pos tpos : Pos} {elts : List Expr} {kk : Nat} (hg : Gl X "enumerate") (hm : X.mg "enumerate" = none) (ha : PA X [e] ta) (hs : starEach [e] X.env = [(false, eval e X.env)] := by rfl) :
    PI X (.Tuple elts kk tpos) (.Call (.Name "enumerate" p) [e] [] pos) (iEnumG X.K ta) := by
  refine ⟨fun pins s σ H R I h => ?_⟩
  refine Call_ (ld_blt I hg hm boot_enumerate (PyProof.Rows.callWith_type1 (thn (ha.run pos pins s σ H _ I h) fun us s1 ⟨vs, H1, I1, r1, q1⟩ => ?_) hs rfl))
  obtain ⟨x, k, xs, ex, sx, q⟩ := q1
  subst ex
  cases r1 with
  | cons r rr =>
    cases rr
    obtain ⟨o1, G1, B1, b1, c1, l1⟩ := begins_of I1 r sx
    refine enum_begins1 B1 b1 fun h' he hit hsz hk => wpAny_pyIter_enum he ?_
    have I2 : Inv X pins σ H1 { s1 with heap := h' } := I1.kept (t' := s1.toks) hk
    refine ⟨s1.heap.objs.size + 1, [s1.heap.objs.size + 1, s1.heap.objs.size], _, _, H1, rfl, I2, turn_enumG r (Nat.succ_ne_self _) (fun z => absurd (l1 _ z) (Nat.not_lt.mpr (Nat.le_succ _))) (fun b hb e => Nat.lt_irrefl _ (e ▸ l1 b hb : s1.heap.objs.size < s1.heap.objs.size)), ⟨⟨.none, he⟩, c1 _ _ hit⟩, fun b hb => ?_, q⟩
    have e' : b = s1.heap.objs.size + 1 ∨ b = s1.heap.objs.size := by simpa using hb
    have hle : s1.heap.objs.size ≤ b := by
      rcases e' with z | z
      · rw [z]; exact Nat.le_add_right _ _
      · rw [z]; exact Nat.le_refl _
    exact I1.fpOk hle (I1.hok.fresh hle)
theorem walk_enumG : Walk (Iteg K k x) xs.length (fun H => Src K H k x xs) (YPair (fun i => some (.int (i : Nat))) (fun i => xs[i]?)) := by
  refine ⟨fun i _ hi q => ⟨xs, xs[i], q, by simp [hi]⟩, fun _ q => ⟨xs, q, rfl⟩, fun i H v H' _ q y => ?_⟩
  obtain ⟨T, x, h1, h2, h3, h4⟩ := y
  exact ⟨T, .int (i : Nat), x, h1, h2, h3, rfl, h4 xs q⟩
end
def enumF (i : Nat) : List D → List D
  | [] => []
  | d :: ds => .tuple [.int i, d] :: enumF (i + 1) ds
abbrev enumD (xs : List D) : List D := enumF 0 xs
theorem enumF_len : ∀ {xs : List D} {i : Nat}, (enumF i xs).length = xs.length
  | [], _ => rfl
  | _ :: xs, i => by simp [enumF, enumF_len (xs := xs)]
theorem enumF_get : ∀ {xs : List D} {i j : Nat}, (enumF i xs)[j]? = xs[j]?.map fun d => .tuple [.int (i + j : Nat), d]
  | [], _, _ => by simp [enumF]
  | d :: xs, i, 0 => by simp [enumF]
  | d :: xs, i, j + 1 => by
    simp only [enumF, List.getElem?_cons_succ, enumF_get (xs := xs)]
    congr 1; funext d; congr 3; omega
@[simp] def iEn (t : DT) : DIT := fun ds Q => t ds fun h ds1 => take1 h ds1 fun d ds2 => match seqD d with
  | some xs => Q (enumD xs) ds2
  | none => False
section
variable {X : Cx} {K : PySem.W.Frag} {e : Expr} {te : TE} {t : DT} {p' pos tpos : Pos} {elts : List Expr} {kk : Nat}
theorem itd_enum {F : Ad} {H : Hp} {J : It} {xs : List D} {G : Hp → Prop} {vs : List V} (w : Walk J vs.length G (YPair (fun i => some (.int (i : Nat))) fun i => vs[i]?)) (hv : IsA K (res F H) vs xs) (hG : ∀ F' H', Grow F H F' H' → G H') : ItD K F H J (enumD xs) := by
  have hl : (enumD xs).length = vs.length := by rw [enumF_len, hv.length]
  refine ⟨fun F' H' i g hi => w.goes i H' (by rw [hl] at hi; exact hi) (hG F' H' g), fun F' H' g => by rw [hl]; exact w.stops H' (hG F' H' g), fun F' H' i x H'' d g hd y => ?_⟩
  have hi : i < vs.length := by rw [← hl]; exact (List.getElem?_eq_some_iff.mp hd).1
  obtain ⟨p, a, b, rfl, hp, rfl, h1, h2⟩ := w.yields i H' x H'' hi (hG F' H' g) y
  cases h1
  obtain ⟨b', hb, ib⟩ := (hv.mono g.same).get' h2
  rw [enumF_get, hb] at hd
  simp at hd
  subst hd
  exact .inr ⟨p, _, hp, rfl, trivial, pair_new hp (.int _) ib⟩
theorem di_enum (hg : Gl X "enumerate") (hm : X.mg "enumerate" = none) (h : DO X e te t) (hs : starEach [e] X.env = (false, eval e X.env) :: starEach [] X.env := by rfl) (hs1 : starEach [e] X.env = [(false, eval e X.env)] := by rfl) :
    DI X (.Tuple elts kk tpos) (.Call (.Name "enumerate" p') [e] [] pos) (iEnumG X.K (tCons te tNil)) (iEn t) :=
  ⟨pi_enumG hg hm (pa_cons h.pe pa_nil hs) hs1, fun F T σ H ds fp Q R r a k => by
    refine h.ok F T σ H ds fp _ _ r a fun h1 ds1 v1 H1 F1 fp1 q1 k1 p1 => ?_
    obtain ⟨d, ds2, F2, fp2, e2, r2, g2, i2⟩ := take1_ok p1.rep p1.qT p1.r k1
    cases ea : seqD d with
    | none => rw [ea] at e2; exact e2.elim
    | some xs =>
      rw [ea] at e2
      obtain ⟨ka, va, sa, ja⟩ := src_of (H := H1) i2 ea
      exact ⟨_, ka, va, rfl, sa H1 (res_same _ _), k _ _ _ _ _ _ e2 r2 (p1.g.trans g2) p1.t (itd_enum walk_enumG ja fun F' H' g => sa H' fun a o e => res_same _ _ a o (g.same a o e))⟩⟩
end
end DL
namespace DL
open PySem PySem.Spec PyProof.Rows L2
def rngDn (lo : Int) (n : Nat) : List D := (List.range n).map fun i : Nat => .int (lo - (i : Int))
@[simp] def iRdn (t u : DT) : DIT := fun ds Q => t ds fun h ds1 => u ds1 fun h2 ds2 => pk ds2 h fun d => pk ds2 h2 fun d2 => match d, d2 with
  | .int m, .int n => (-(2 ^ 62) ≤ m ∧ m < 2 ^ 62 ∧ -(2 ^ 62) ≤ n ∧ n < 2 ^ 62) ∧ Q (rngDn m (m - n).toNat) ds2
  | _, _ => False
section
variable {X : Cx} {K : PySem.W.Frag} {F T q : Ad} {σ : Sl} {H : Hp} {ds : DS} {fp : Nat → Ad} {e b tg : Expr} {es : List Expr} {te tb : TE} {ta : TA} {t u : DT} {ut : DTA} {p p' pos pos' apos cpos px : Pos} {x y : Str} {n : Nat} {i j lv l1 l2 : Nat} {kk : Option Str}
@[simp] def dLr1 (t : DT) : DT := fun ds Q => t ds fun h ds1 => pk ds1 h fun d => match d with
  | .int n => n ≤ 16777216 ∧ 0 ≤ n ∧ Q (.new (.own (rngD 0 n.toNat))) ds1
  | _ => False
@[simp] def dLr2 (t u : DT) : DT := fun ds Q => t ds fun h ds1 => u ds1 fun h2 ds2 => pk ds2 h fun d => pk ds2 h2 fun d2 => match d, d2 with
  | .int m, .int n => (-(2 ^ 62) ≤ m ∧ m < 2 ^ 62 ∧ -(2 ^ 62) ≤ n ∧ n < 2 ^ 62 ∧ n - m ≤ 16777216) ∧ Q (.new (.own (rngD m (n - m).toNat))) ds2
  | _, _ => False
theorem isA_rg {R : Hp} (a b : Int) : IsA K R (rgV a b) (rngD a (b - a).toNat) := by
  unfold rgV rngD
  generalize (List.range (b - a).toNat) = l
  induction l with
  | nil => exact .nil
  | cons c l ih => exact .cons (.int _) ih
theorem do_lr1 (hc : X.calm = true) (hg : Gl X "list") (hm : X.mg "list" = none) (hg2 : Gl X "range") (hm2 : X.mg "range" = none) (h : DO X e te t) (hs : starEach [e] X.env = (false, eval e X.env) :: starEach [] X.env := by rfl)
    (hs1 : starEach [.Call (.Name "range" p') [e] [] pos'] X.env = (false, eval (.Call (.Name "range" p') [e] [] pos') X.env) :: starEach [] X.env := by rfl) :
    DO X (.Call (.Name "list" p) [.Call (.Name "range" p') [e] [] pos'] [] pos) (tLstRg (tRg1 te)) (dLr1 t) :=
  ⟨pe_listRg hc hg hm (prg_1 hg2 hm2 h.pe hs) hs1, fun F T σ H ds fp Q R r a k => by
    refine h.ok F T σ H ds fp _ _ r a fun h ds1 v H1 F1 fp1 q c p => ?_
    obtain ⟨d, i, k2⟩ := pk_ok p.rep p.r c
    cases d <;> first | exact False.elim k2 | skip
    rename_i n
    rw [i.int]
    refine ⟨n, rfl, RgOk.of_le (by omega) k2.1 (by omega) k2.2.1, fun q hq => ?_⟩
    have k3 := k2.2.2
    have e0 : n.toNat = (n - 0).toNat := by omega
    rw [e0] at k3
    exact k _ _ _ _ _ _ _ k3 ((Pst.list (p.rep.less fun a z => .inl z) (isA_rg 0 n) hq).pre p.g p.t)⟩
/-- of a list that slot j alone holds -/
@[simp] def dPopAt (j : Nat) (t : DT) : DT := fun ds Q => ownAt ds j fun _ => t ds fun h ds1 => pk ds1 h fun d => ownAt ds1 j fun xs => match d with
  | .int i => (-(2 ^ 63) ≤ i ∧ i < 2 ^ 63) ∧ ∃ k y, seqIndex? i xs.length = some k ∧ xs[k]? = some y ∧ Q (.tmp y) (ds1.set j (.own (xs.eraseIdx k)))
  | _ => False
def fnW (f : Addr) : Wd where
  val := .ref f
  fp := fun _ => False
  ok := fun _ _ => True
  mono := fun _ _ h => h
  dom := fun _ z => z.elim
@[simp] def dFn (f : Addr) : DT := fun ds Q => Q (.new (.wd (fnW f))) ds
@[simp] def dCallV (i : Nat) (f1 f2 : Addr) (g1 g2 : DF) (t : DTA) : DT := fun ds Q => (ds[i]? = some (.wd (fnW f1)) ∧ dCallL g1 t ds Q) ∨ (ds[i]? = some (.wd (fnW f2)) ∧ dCallL g2 t ds Q)
end
end DL
namespace DL
open PySem PySem.Spec PyProof.Rows L2
/-- x ≤ y, as texts -/
def leT (x y : Str) : Bool := !ltCps y.cps.toList x.cps.toList
/-- the texts in their sequence -/
def srtS (zs : List Str) : List Str := zs.mergeSort leT
@[simp] def bSortS : DN := fun dl Q => match dl with
  | [.list xs] => ∃ zs : List Str, xs = zs.map .str ∧ zs.length < 64 ∧ Q (.new (.own ((srtS zs).map .str)))
  | _ => False
end DL
namespace DL
open PySem PySem.Spec PyProof.Rows L2
section
variable {X : Cx} {K : PySem.W.Frag} {i j : Nat} {x y : Str} {e a b : Expr} {te ta tb : TE} {t u : DT} {pos pos' px py pt pt2 : Pos} {kt k2 : Nat}
theorem ds_par2 (hN : X.N.Nodup) (ha : DO X a ta t) (hb : DO X b tb u) (hc : X.calm = true := by rfl) (hi : X.N[i]? = some x := by rfl) (hj : X.N[j]? = some y := by rfl)
    (hx : Loc X.env.scope x := by first | exact .inl rfl | exact .inr rfl) (hy : Loc X.env.scope y := by first | exact .inl rfl | exact .inr rfl)
    (hfx : X.fn x = true ∨ X.env.scope.names.lookup x = some .local := by first | exact .inl rfl | exact .inr rfl | assumption) (hfy : X.fn y = true ∨ X.env.scope.names.lookup y = some .local := by first | exact .inl rfl | exact .inr rfl | assumption)
    (h1 : starEach [a, b] X.env = (false, eval a X.env) :: starEach [b] X.env := by rfl) (h2 : starEach [b] X.env = (false, eval b X.env) :: starEach [] X.env := by rfl)
    (hst1 : (assignEach [.Name x px, .Name y py] X.env).map (·.2) = assign (.Name x px) X.env :: (assignEach [.Name y py] X.env).map (·.2) := by rfl) (hst2 : (assignEach [.Name y py] X.env).map (·.2) = assign (.Name y py) X.env :: (assignEach [] X.env).map (·.2) := by rfl)
    (hn : (assignEach [.Name x px, .Name y py] X.env).length = 2 := by rfl) (hfi : (assignEach [.Name x px, .Name y py] X.env).findIdx? (·.1) = none := by rfl)
    (hs : swapsWithSole [.Tuple [.Name x px, .Name y py] kt pt] (.Tuple [a, b] k2 pt2) pos.line X.env = pure false := by rfl)
    (hw : swappedStores [.Tuple [.Name x px, .Name y py] kt pt] (.Tuple [a, b] k2 pt2) X.env = pure none := by rfl)
    (hm : (assignEach [.Tuple [.Name x px, .Name y py] kt pt] X.env).map (·.2) = [assign (.Tuple [.Name x px, .Name y py] kt pt) X.env] := by rfl) :
    DSt X (.Assign [.Tuple [.Name x px, .Name y py] kt pt] (.Tuple [a, b] k2 pt2) pos) (tAsg (tTup (tCons ta (tCons tb tNil))) (gTup X.K 2 (gCons (gName i) (gCons (gName j) gNil)))) (mPar i j t u) := ⟨ps_asg (pe_tup (pa_cons ha.pe (pa_cons hb.pe pa_nil h2) h1)) (pg_tup hc (pgs_cons (pg_name hN hi hx hfx) (pgs_cons (pg_name hN hj hy hfy) pgs_nil hst2) hst1) hn hfi) hs hw hm, fun F σ H ds fp E D r h k => by
  refine ha.ok F _ σ H ds fp _ _ r h fun h1 ds1 v1 H1 F1 fp1 q1 k1 p1 => ?_
  refine hb.ok F1 (Ad.nil.or q1) σ H1 ds1 fp1 _ _ p1.rep k1 fun h2 ds2 v2 H2 F2 fp2 q2 k2 p2 => ?_
  refine ⟨by show 2 ≤ sizeLine; decide, fun p hp => ?_⟩
  have x1 := p1.r.keep p2.g fun a z => p2.t a (.inr z)
  have r2 : Rep X.K F2 (q2.or q1) σ H2 ds2 fp2 := p2.rep.less fun a z => z.elim .inr fun z => .inl (.inr z)
  obtain ⟨s3, ds3, F3, fp3, q3, e3, r3, sub3, g3, so3⟩ := sett_ok r2 (fun a z y => p2.qT a y (.inr z)) x1 k2
  have r3' : Rep X.K F3 (q3.or q2) σ H2 ds3 fp3 := r3.less fun a z => z.elim .inr .inl
  obtain ⟨s4, ds4, F4, fp4, q4, e4, r4, sub4, g4, so4⟩ := sett_ok r3' (fun a z y => p2.qT a z (.inr (sub3 a y))) (p2.r.keep g3 fun _ _ => rfl) e3
  have r4' : Rep X.K F4 (q4.or q3) σ H2 ds4 fp4 := r4.less fun a z => z.elim .inr .inl
  obtain ⟨r5, g5, t5⟩ := r4'.newF (o := .tup [v1, v2]) hp trivial
  have so3' := (so3.mono g4.same fun _ _ => rfl).mono g5.same fun a z => t5 a (.inr z)
  have so4' := so4.mono g5.same fun a z => t5 a (.inl z)
  obtain ⟨e5, fp5, r6⟩ := put_ok r5 (fun a z y => p2.qT a (sub4 a y) (.inr (sub3 a z))) so3' e4
  have r6' : Rep X.K (F4.or (· = p)) (Ad.nil.or q4) (σ.set i (some v1)) _ (ds4.set i s3) fp5 := r6.less fun a z => z.elim (fun z => z.elim) id
  obtain ⟨e6, fp6, r7⟩ := put_ok r6' (fun _ _ z => z) so4' e5
  refine ⟨p, [v1, v2], rfl, .of upd_same, rfl, v1, [v2], rfl, ?_⟩
  refine ⟨v2, [], rfl, rfl, ?_⟩
  exact k.nx _ _ _ _ fp6 e6 r7 ((((p1.g.trans p2.g).trans g3).trans g4).trans g5)⟩
end
end DL
namespace DL
open PySem PySem.Spec PyProof.Rows L2
section
variable {P : Program} {w : World} {K : PySem.W.Frag} {mg : Str → Option Value} {base : Heap} {k : Nat} {f : Addr} {fd : FuncData} {ps : List Str} {n : Nat}
theorem fnOk_none {g : DF} (hps : ps.length = n) (hz : ∀ dl Q, ¬ g dl Q) : FnOk P w K mg base CX0 k f fd ps (spP K n g) :=
  ⟨fun vs H Q E h => by rw [hps]; exact h.1, fun _ _ _ _ _ _ _ _ _ _ _ _ _ ⟨_, _, dl, _, _, W, h, _⟩ => (hz dl W h).elim⟩
end
section
variable {X : Cx} {x : Str} {d : Addr} {es : Array DictEntry} {n : Nat} {kvs : List (Str × D)} {e : Expr} {te : TE} {t : DT} {p pos : Pos}
theorem di_enum' {e tg : Expr} {te : TE} {t : DT} {p' pos : Pos} (hg : Gl X "enumerate") (hm : X.mg "enumerate" = none) (h : DO X e te t) (htg : ∃ elts kk tpos, tg = .Tuple elts kk tpos := by exact ⟨_, _, _, rfl⟩) (hs : starEach [e] X.env = (false, eval e X.env) :: starEach [] X.env := by rfl) (hs1 : starEach [e] X.env = [(false, eval e X.env)] := by rfl) :
    DI X tg (.Call (.Name "enumerate" p') [e] [] pos) (iEnumG X.K (tCons te tNil)) (iEn t) := by
  obtain ⟨_, _, _, rfl⟩ := htg
  exact di_enum hg hm h hs hs1
theorem di_zipG' {e b tg : Expr} {te tb : TE} {t u : DT} {p' pos : Pos} (hg : Gl X "zip") (hm : X.mg "zip" = none) (h : DO X e te t) (h' : DO X b tb u) (htg : ∃ elts kk tpos, tg = .Tuple elts kk tpos := by exact ⟨_, _, _, rfl⟩) (hs : starEach [e, b] X.env = (false, eval e X.env) :: starEach [b] X.env := by rfl)
    (hs2 : starEach [b] X.env = (false, eval b X.env) :: starEach [] X.env := by rfl) (hpl : (backTo pos (starEach [b] X.env)).any (·.1) = false := by rfl) :
    DI X tg (.Call (.Name "zip" p') [e, b] [] pos) (iZipG X.K (tCons te (tCons tb tNil))) (iZg t u) := by
  obtain ⟨_, _, _, rfl⟩ := htg
  exact di_zipG hg hm h h' hs hs2 hpl
end
def gStar (K : PySem.W.Frag) (us : List Nat) (t : DGT) : TG := fun v σ H R => ∃ (F T : Ad) (ds : DS) (fp : Nat → Ad) (d : D) (Q : DS → Prop), Rep K F T σ H ds fp ∧ Is K (res F H) v d ∧ t d ds Q ∧
  ∀ σ' ds' fp', Q ds' → Rep K F T σ' H ds' fp' → σ'.length = σ.length → (∀ j, j ∉ us → σ'[j]? = σ[j]?) → R σ' H
theorem DG.star {X : Cx} {tg : Expr} {g : TG} {us : List Nat} {t : DGT} (h : DG X tg g us t) : DG X tg (gStar X.K us t) us t :=
  ⟨⟨fun pins s σ H v u Q I r ⟨F, T, ds, fp, d, D, rp, i, a, k⟩ => h.pg.run pins s σ H v u Q I r (h.ok F T σ H ds fp v d D _ rp i a k)⟩, fun F T σ H ds fp v d Q R r x a k => ⟨F, T, ds, fp, d, Q, r, x, a, k⟩⟩
section
variable {X : Cx} {elt tg iter : Expr} {ifs : List Expr} {scope : Scope} {own : List (Str × Nat)} {wi : TI} {ti : DIT} {gt : DGT} {us : List Nat} {ct : DTT} {et : DT} {pos spos py : Pos} {y : Str} {i : Nat}
theorem do_compG (hN : X.N.Nodup) (hi : DI X tg iter wi ti) (ok : BlkOk X.N X.env.scope scope own) (us : List Nat)
    (hg : ∀ (s : Shared) (H : Hp) (C : Addr) (cl : List (Str × Addr)) (fp : List Addr), ∃ g, DG (X.blk s H scope (compEnvC scope cl C X.env) fp) tg g us gt)
    (ht : ∀ (s : Shared) (H : Hp) (C : Addr) (cl : List (Str × Addr)) (fp : List Addr), ∃ tt, DCs (X.blk s H scope (compEnvC scope cl C X.env) fp) ifs tt ct)
    (he : ∀ (s : Shared) (H : Hp) (C : Addr) (cl : List (Str × Addr)) (fp : List Addr), ∃ te, DO (X.blk s H scope (compEnvC scope cl C X.env) fp) elt te et)
    (hsub : ∀ i ∈ us, i ∈ own.map (·.2)) (hc : X.calm = true) (hs : ∀ x, foldedSetIterable iter X.env x = pure x) :
    DO X (.ListComp elt [⟨tg, iter, ifs, 0⟩] scope pos) (tLc wi (gStar X.K us gt) (tStarB X.K ct) (tStar X.K et) (own.map (·.2))) (dComp ti gt ct et (own.map (·.2))) :=
  do_comp hN hi ok (fun s H C cl fp => (hg s H C cl fp).elim fun _ z => z.star) ht he hsub hc hs
theorem ds_setcG (hN : X.N.Nodup) (hi : DI X tg iter wi ti) (ok : BlkOk X.N X.env.scope scope own) (us : List Nat)
    (hg : ∀ (s : Shared) (H : Hp) (C : Addr) (cl : List (Str × Addr)) (fp : List Addr), ∃ g, DG (X.blk s H scope (compEnvC scope cl C X.env) fp) tg g us gt)
    (ht : ∀ (s : Shared) (H : Hp) (C : Addr) (cl : List (Str × Addr)) (fp : List Addr), ∃ tt, DCs (X.blk s H scope (compEnvC scope cl C X.env) fp) ifs tt ct)
    (he : ∀ (s : Shared) (H : Hp) (C : Addr) (cl : List (Str × Addr)) (fp : List Addr), ∃ te, DO (X.blk s H scope (compEnvC scope cl C X.env) fp) elt te et)
    (hsw : swapsWith (.ListComp elt [⟨tg, iter, ifs, 0⟩] scope pos) (some (.Name y py)) spos.line X.env = pure true)
    (hy : X.N[i]? = some y := by rfl) (hyl : X.env.scope.names.lookup y = some .local := by rfl)
    (hsub : ∀ i ∈ us, i ∈ own.map (·.2)) (hc : X.calm = true) (hs : ∀ x, foldedSetIterable iter X.env x = pure x) :
    DSt X (.Assign [.Name y py] (.ListComp elt [⟨tg, iter, ifs, 0⟩] scope pos) spos) (tAsg (tLc wi (gStar X.K us gt) (tStarB X.K ct) (tStar X.K et) (own.map (·.2))) (gName i)) (mSet i (dComp ti gt ct et (own.map (·.2)))) :=
  ds_setc hN hi ok (fun s H C cl fp => (hg s H C cl fp).elim fun _ z => z.star) ht he hsw hy hyl hsub hc hs
end
end DL
namespace DL
open PySem PySem.Spec PyProof.Rows L2
section
variable {X : Cx} {K : PySem.W.Frag}
@[simp] def dIsT (neg : Bool) : D2
  | .bool a, .bool b, Q => Q (.tmp (.bool (if neg then !decide (a = b) else decide (a = b))))
  | .none, .bool _, Q => Q (.tmp (.bool neg))
  | _, _, _ => False
end
end DL
namespace DL
open PySem PySem.Spec PyProof.Rows L2
def lakeB (p c : Addr) : Wd where
  val := .ref p
  fp := fun a => a = p ∨ a = c
  ok := fun _ H => p ≠ c ∧ ∃ (cells : List Int) (i j : Int), H p = some (.lst [.ref c, .int i, .int j]) ∧ H c = some (.lst (cells.map V.int)) ∧ (∀ x ∈ cells, 0 ≤ x) ∧ cells.length ≤ 63 ∧ 0 ≤ i ∧ i < 2 ^ 61
  mono := fun _ k ⟨h0, cells, i, j, h1, h2, h⟩ => ⟨h0, cells, i, j, by rw [k _ (.inl rfl)]; exact h1, by rw [k _ (.inr rfl)]; exact h2, h⟩
  dom := fun ⟨_, cells, i, j, h1, h2, _⟩ f => by
    rcases f with rfl | rfl
    · exact ⟨_, h1, trivial⟩
    · exact ⟨_, h2, trivial⟩
/-- [x, a, b], x a list of ints that slot i alone holds: a lake -/
@[simp] def dLake (i : Nat) (u : DTA) : DT := fun ds Q => ownAt ds i fun _ => u ds fun hs ds2 => takes hs ds2 fun dl ds3 => match ds3[i]? with
  | some (.own xs) => (∃ cells : List Int, xs = cells.map .int ∧ (∀ x ∈ cells, 0 ≤ x) ∧ cells.length ≤ 63) ∧ (∃ s : Int, dl = [.int s, .int 0] ∧ 0 ≤ s ∧ s < 2 ^ 61) ∧ ∀ p c, Q (.new (.wd (lakeB p c))) (ds3.set i .no)
  | _ => False
end DL
namespace DL
open PySem PySem.Spec PyProof.Rows L2
def kk (e : DictEntry) : Option Str := match e.key with
  | .str x _ => some x
  | _ => none
def AllV (K : PySem.W.Frag) (d : Addr) : List (Str × D) → Prop
  | [] => True
  | p :: r => (∃ u v, PySem.W.nsIn K d p.1 = some (some u) ∧ RelV v u ∧ ∀ R, Is K R v p.2) ∧ AllV K d r
section
variable {K : PySem.W.Frag} {w : World} {mg : Str → Option Value} {x : Str} {d : Addr} {es : Array DictEntry} {n : Nat} {kvs : List (Str × D)}
theorem allV_at : ∀ {kvs : List (Str × D)} {z : Str} {dd : D}, AllV K d kvs → kvs.lookup z = some dd → ∃ u v, PySem.W.nsIn K d z = some (some u) ∧ RelV v u ∧ ∀ R, Is K R v dd
  | [], _, _, _, h => by simp [List.lookup] at h
  | (k, e) :: r, z, dd, ⟨h1, h2⟩, h => by
    rw [List.lookup_cons] at h
    cases hz : (z == k) with
    | true =>
      rw [hz] at h
      cases h
      rw [beq_iff_eq] at hz
      subst hz
      exact h1
    | false =>
      rw [hz] at h
      exact allV_at h2 h
theorem find_no : ∀ {l : List DictEntry} {kvs : List (Str × D)} {z : Str}, l.map kk = (kvs.map fun p => some p.1) → kvs.lookup z = none → l.find? (·.key.isStr z) = none ∧ l.any (·.refKey) = false
  | [], _, _, _, _ => ⟨rfl, rfl⟩
  | e :: l, [], _, q, _ => by simp at q
  | e :: l, (k, v) :: r, z, q, h => by
    simp only [List.map_cons, List.cons.injEq] at q
    rw [List.lookup_cons] at h
    cases hz : (z == k) with
    | true => rw [hz] at h; cases h
    | false =>
      rw [hz] at h
      obtain ⟨a, b⟩ := find_no (z := z) q.2 h
      have qk := q.1
      unfold kk at qk
      split at qk
      · rename_i y t ek
        cases qk
        have n1 : e.key.isStr z = false := by
          rw [ek]
          show (k == z) = false
          rw [beq_eq_false_iff_ne] at hz ⊢
          exact fun e => hz e.symm
        have n2 : e.refKey = false := by unfold DictEntry.refKey; rw [ek]
        refine ⟨?_, ?_⟩
        · rw [List.find?_cons_of_neg (by rw [n1]; simp)]; exact a
        · rw [List.any_cons, n2, b]; rfl
      · cases qk
theorem kd_mk (m : mg x = some (.ref d)) (l : K.lookup d = some ⟨.type "dict", none, .dict es n, #[]⟩) (k : PySem.W.KeysLit w.params es.toList) (low : (d == sysModules) = false) (q : es.toList.map kk = kvs.map fun p => some p.1) (hv : AllV K d kvs) : KD K w mg x d es n kvs := by
  refine ⟨m, ⟨l, k, low⟩, fun z => ?_⟩
  cases h : kvs.lookup z with
  | some dd => exact allV_at hv h
  | none =>
    obtain ⟨a, b⟩ := find_no q h
    show PySem.W.nsIn K d z = some none
    unfold PySem.W.nsIn
    rw [l]
    simp only [a, b]
    rfl
theorem cst_i {i : Int} {t : Tok} (m : mg x = some (.int i t)) : Cst K mg x (.int i) (.int i) := ⟨_, m, ⟨_, rfl⟩, fun _ => .int _⟩
/-- a written tuple -/
theorem is_tupK {a : Addr} {od : Option Addr} {its : Array Value} {m : Nat} {sl : Array (Option Value)} {vs : List V} {ds : List D} (l : K.lookup a = some ⟨.type "tuple", od, .seq its m, sl⟩) (h : its.size ≤ 1000) (v : Vals vs its.toList) (i : ∀ R, IsA K R vs ds) (R : Hp) : Is K R (.ref a) (.tuple ds) :=
  .tup (.inr ⟨_, its, m, l, rfl, rfl, Nat.le_trans h (by rw [sizeLine_eq]; decide), v⟩) (i R)
theorem cst_t {a : Addr} {ds : List D} (m : mg x = some (.ref a)) (i : ∀ R, Is K R (.ref a) (.tuple ds)) : Cst K mg x (.ref a) (.tuple ds) := ⟨_, m, rfl, i⟩
end
end DL
namespace DL
open PySem PySem.Spec PyProof.Rows L2
def compD2 (g : DGT) (ti1 : DIT) (g1 : DGT) (t : DT) (vs vs1 : List Nat) : List D → List D → DS → (List D → DS → Prop) → Prop
  | [], acc, ds, P => P acc ds
  | d :: r, acc, ds, P => g d ds fun ds1 => ti1 ds1 fun items1 ds2 => acc.length + items1.length ≤ sizeLine ∧ compD g1 cYes t vs1 items1 acc (wipeD ds2 vs1) fun acc' ds3 => compD2 g ti1 g1 t vs vs1 r acc' (wipeD ds3 vs) P
@[simp] def dComp2 (ti : DIT) (g : DGT) (ti1 : DIT) (g1 : DGT) (t : DT) (vs vs1 : List Nat) : DT := fun ds Q => ti ds fun items ds1 => compD2 g ti1 g1 t vs vs1 items [] (wipeD ds1 vs) fun out ds2 => Q (.new (.own out)) (restD vs 0 ds1 ds2)
end DL
namespace DL
open PySem PySem.Spec PyProof.Rows L2
@[simp] def mPar3 (i j l : Nat) (t u v : DT) : DM := fun E ds => t ds fun h1 ds1 => u ds1 fun h2 ds2 => v ds2 fun h3 ds3 => sett h1 ds3 fun s1 ds4 => sett h2 ds4 fun s2 ds5 => sett h3 ds5 fun s3 ds6 => put i s1 ds6 fun ds7 => put j s2 ds7 fun ds8 => put l s3 ds8 E.nx
end DL
namespace DL
open PySem PySem.Spec PyProof.Rows L2
abbrev DFW2 := Wd → Wd → List D → (SD → Wd → Wd → Prop) → Prop
/-- f(x, .., y), x and y things at the slots j1, j2 -/
@[simp] def dCallW2 (j1 j2 : Nat) (g : DFW2) (t : DTA) : DT := fun ds Q => wdAt ds j1 fun _ => t ds fun hs ds1 => takes hs ds1 fun dl ds2 => wdAt ds2 j1 fun w1 => wdAt ds2 j2 fun w2 => g w1 w2 dl fun r w1' w2' => w1'.val = w1.val ∧ w2'.val = w2.val ∧ Q (hdOf r) ((ds2.set j1 (.wd w1')).set j2 (.wd w2'))
end DL
namespace DL
open PySem PySem.Spec PyProof.Rows L2
def splitL : List Hd → Option (List Hd × Nat)
  | [] => none
  | [h] => match h with
    | .slot j => some ([], j)
    | _ => none
  | h :: h2 :: hs => (splitL (h2 :: hs)).map fun p => (h :: p.1, p.2)
/-- f(x, .., y): the last handle is a slot's -/
@[simp] def dCallL2 (j1 : Nat) (g : DFW2) (t : DTA) : DT := fun ds Q => wdAt ds j1 fun _ => t ds fun hs ds1 => match splitL hs with
  | some (mid, j2) => j1 ≠ j2 ∧ takes mid ds1 fun dl ds2 => wdAt ds2 j1 fun w1 => wdAt ds2 j2 fun w2 => g w1 w2 dl fun r w1' w2' => w1'.val = w1.val ∧ w2'.val = w2.val ∧ Q (hdOf r) ((ds2.set j1 (.wd w1')).set j2 (.wd w2'))
  | none => False
@[simp] def enW2 (m : Nat) (w1 w2 : Wd) (P : SD → Wd → Wd → Prop) : En := ⟨fun ds => wdAt ds 0 fun w1' => wdAt ds m fun w2' => w1'.val = w1.val ∧ w2'.val = w2.val ∧ P (.val .none) w1' w2', fun h ds => wdAt ds 0 fun w1' => wdAt ds m fun w2' => w1'.val = w1.val ∧ w2'.val = w2.val ∧ retD h ds fun r => P r w1' w2', fun _ => False, fun _ => False⟩
@[simp] def slotsW2 (n : Nat) (w1 w2 : Wd) (dl : List D) : DS := .wd w1 :: (dl.map .val ++ .wd w2 :: List.replicate (n - (dl.length + 2)) .no)
end DL
namespace DL
open PySem PySem.Spec PyProof.Rows L2
def roomB (q : Addr) (i : Int) : Wd where
  val := .ref q
  fp := fun a => a = q
  ok := fun _ H => H q = some (.lst [.int i])
  mono := fun _ k h => by rw [k _ rfl]; exact h
  dom := fun h f => by cases f; exact ⟨_, h, trivial⟩
/-- [e], e an int: a room -/
@[simp] def dRoomN (t : DT) : DT := fun ds Q => t ds fun h ds1 => pk ds1 h fun d => ∃ i : Int, d = .int i ∧ ∀ q, Q (.new (.wd (roomB q i))) ds1
/-- room[0] -/
@[simp] def dRoomIx (j : Nat) : DT := fun ds Q => wdAt ds j fun w => ∃ q i, w = roomB q i ∧ Q (.tmp (.int i)) ds
/-- room[0] = e -/
@[simp] def mRoom (j : Nat) (t : DT) : DM := fun E ds => t ds fun h ds1 => pk ds1 h fun d => ∃ i : Int, d = .int i ∧ wdAt ds1 j fun w => ∃ q i0, w = roomB q i0 ∧ E.nx (ds1.set j (.wd (roomB q i)))
end DL
namespace DL
open PySem PySem.Spec PyProof.Rows L2
def potS (p c : Addr) (b : Nat) (s : Int) : Wd where
  val := .ref p
  fp := fun a => a = p ∨ a = c
  ok := fun _ H => p ≠ c ∧ ∃ (cells : List Int) (i j : Int), H p = some (.lst [.ref c, .int i, .int j, .int s]) ∧ H c = some (.lst (cells.map V.int)) ∧ (∀ x ∈ cells, 0 ≤ x) ∧ cells.length ≤ 63 ∧ 0 ≤ i ∧ i ≤ j ∧ j ≤ b
  mono := fun _ k ⟨h0, cells, i, j, h1, h2, h⟩ => ⟨h0, cells, i, j, by rw [k _ (.inl rfl)]; exact h1, by rw [k _ (.inr rfl)]; exact h2, h⟩
  dom := fun ⟨_, cells, i, j, h1, h2, _⟩ f => by
    rcases f with rfl | rfl
    · exact ⟨_, h1, trivial⟩
    · exact ⟨_, h2, trivial⟩
@[simp] theorem potS_val {p c : Addr} {b : Nat} {s : Int} : (potS p c b s).val = .ref p := rfl
/-- pot[3] -/
@[simp] def dPotIx (j : Nat) : DT := fun ds Q => wdAt ds j fun w => ∃ p c b s, w = potS p c b s ∧ Q (.tmp (.int s)) ds
/-- pot[3] -= 1 -/
@[simp] def mPotDec (j : Nat) : DM := fun E ds => wdAt ds j fun w => ∃ p c b s, w = potS p c b s ∧ E.nx (ds.set j (.wd (potS p c b (s - 1))))
end DL
namespace DL
open PySem PySem.Spec PyProof.Rows L2
def valD (kvs : List (Key × D)) (k : Key) : Option D := (kvs.find? fun kv => decide (kv.1 = k)).map (·.2)
def putD (kvs : List (Key × D)) (k : Key) (d : D) : List (Key × D) :=
  if (kvs.any fun kv => decide (kv.1 = k)) = true then kvs.map (fun kv => if kv.1 = k then (kv.1, d) else kv) else kvs ++ [(k, d)]
section
variable {K : PySem.W.Frag} {R : Hp}
theorem IsKV.keys : ∀ {a : List (Key × V)} {b : List (Key × D)}, IsKV K R a b → a.map (·.1) = b.map (·.1)
  | [], [], _ => rfl
  | p :: a, q :: b, h => by
    cases h with
    | cons x h => rw [List.map_cons, List.map_cons, x.1, IsKV.keys h]
  | [], _ :: _, h => by cases h
  | _ :: _, [], h => by cases h
theorem IsKV.length {a : List (Key × V)} {b : List (Key × D)} (h : IsKV K R a b) : a.length = b.length := by
  have := congrArg List.length h.keys
  simpa using this
theorem IsKV.get : ∀ {a : List (Key × V)} {b : List (Key × D)} {k : Key} {d : D}, IsKV K R a b → valD b k = some d → ∃ v, valV a k = some v ∧ Is K R v d
  | [], [], _, _, _, e => by simp [valD] at e
  | p :: a, q :: b, k, d, h, e => by
    cases h with
    | cons x h =>
      by_cases hk : q.1 = k
      · have e' : q.2 = d := by simpa [valD, List.find?_cons, hk] using e
        exact ⟨p.2, by simp [valV, List.find?_cons, x.1, hk], e' ▸ x.2⟩
      · have e' : valD b k = some d := by simpa [valD, List.find?_cons, hk] using e
        obtain ⟨v, h1, h2⟩ := IsKV.get h e'
        have hk' : ¬ p.1 = k := by rw [x.1]; exact hk
        exact ⟨v, by simpa [valV, List.find?_cons, hk'] using h1, h2⟩
  | [], _ :: _, _, _, h, _ => by cases h
  | _ :: _, [], _, _, h, _ => by cases h
theorem IsKV.anyk {a : List (Key × V)} {b : List (Key × D)} (h : IsKV K R a b) (k : Key) : (a.any fun kv => decide (kv.1 = k)) = b.any fun kv => decide (kv.1 = k) := by
  have e : ∀ {β : Type} (l : List (Key × β)), (l.any fun kv => decide (kv.1 = k)) = (l.map (·.1)).any fun x => decide (x = k) := fun l => by rw [List.any_map]; rfl
  rw [e, e, h.keys]
theorem IsKV.mapk {v : V} {d : D} {k : Key} (i : Is K R v d) : ∀ {a : List (Key × V)} {b : List (Key × D)}, IsKV K R a b → IsKV K R (a.map fun kv => if kv.1 = k then (kv.1, v) else kv) (b.map fun kv => if kv.1 = k then (kv.1, d) else kv)
  | [], [], _ => .nil
  | p :: a, q :: b, h => by
    cases h with
    | cons x h =>
      refine .cons ?_ (IsKV.mapk i h)
      by_cases hk : q.1 = k
      · have hk' : p.1 = k := x.1.trans hk
        dsimp only
        rw [if_pos hk, if_pos hk']
        exact ⟨x.1, i⟩
      · have hk' : ¬ p.1 = k := by rw [x.1]; exact hk
        dsimp only
        rw [if_neg hk, if_neg hk']
        exact x
  | [], _ :: _, h => by cases h
  | _ :: _, [], h => by cases h
theorem IsKV.app {v : V} {d : D} {k : Key} (i : Is K R v d) : ∀ {a : List (Key × V)} {b : List (Key × D)}, IsKV K R a b → IsKV K R (a ++ [(k, v)]) (b ++ [(k, d)])
  | [], [], _ => .cons ⟨rfl, i⟩ .nil
  | p :: a, q :: b, h => by
    cases h with
    | cons x h => exact .cons x (IsKV.app i h)
  | [], _ :: _, h => by cases h
  | _ :: _, [], h => by cases h
theorem IsKV.put {a : List (Key × V)} {b : List (Key × D)} {k : Key} {v : V} {d : D} (h : IsKV K R a b) (i : Is K R v d) : IsKV K R (putK a k v) (putD b k d) := by
  unfold putK putD
  rw [h.anyk k]
  split
  · exact IsKV.mapk i h
  · exact IsKV.app i h
end
@[simp] def dDnew : DT := fun ds Q => Q (.new (.dic [])) ds
@[simp] def isDic (ds : DS) (j : Nat) (P : List (Key × D) → Prop) : Prop := match ds[j]? with
  | some (.dic kvs) => P kvs
  | _ => False
theorem isDic_inv {ds : DS} {j : Nat} {P : List (Key × D) → Prop} (h : isDic ds j P) : ∃ kvs, ds[j]? = some (.dic kvs) ∧ P kvs := by
  unfold isDic at h
  split at h
  · rename_i kvs e
    exact ⟨kvs, e, h⟩
  · exact h.elim
/-- d[k] = v -/
@[simp] def mDput (j : Nat) (tk tv : DT) : DM := fun E ds => tv ds fun hv ds1 => take1 hv ds1 fun d ds2 => isDic ds2 j fun _ => tk ds2 fun hk ds3 => pk ds3 hk fun key => ∃ i : Int, key = .int i ∧ isDic ds3 j fun kvs => kvs.length < sizeLine ∧ E.nx (ds3.set j (.dic (putD kvs (.inl i) d)))
/-- d[k] -/
@[simp] def dDget (j : Nat) (tk : DT) : DT := fun ds Q => isDic ds j fun _ => tk ds fun hk ds1 => pk ds1 hk fun key => ∃ i : Int, key = .int i ∧ isDic ds1 j fun kvs => ∃ d, valD kvs (.inl i) = some d ∧ Q (.tmp d) ds1
/-- sorted(d) -/
@[simp] def dSortD (j : Nat) : DT := fun ds Q => isDic ds j fun kvs => ∃ ks : List Int, kvs.map (·.1) = ks.map Sum.inl ∧ ks.length < 64 ∧ ∀ ys : List Int, ys.Perm ks → ys.Pairwise (· ≤ ·) → Q (.new (.own (ys.map .int))) ds
section
variable {X : Cx} {K : PySem.W.Frag} {o i value e0 : Expr} {td ty tv te : TE} {t u : DT} {pos pos' : Pos} {j : Nat}
theorem do_dnew : DO X (.Dict [] [] pos) tDNewK dDnew := ⟨pe_dnewK, fun F T σ H ds fp Q R rp h k => by
  intro p hp
  obtain ⟨r1, g1, t1⟩ := rp.newT (o := .dK []) hp trivial
  obtain ⟨nF, nT, nfp⟩ := rp.new_ne hp
  exact k _ _ _ _ _ _ (fun a => a = p) h ⟨r1, fun a e => by cases e; exact nT, g1, t1, ⟨p, [], rfl, fun _ => Iff.rfl, upd_same, .nil⟩⟩⟩
theorem ds_dput (hp : PS X (.Assign [.Subscript o i pos'] value pos) (sDPut (tVar j) ty tv)) (hk : EOk X.K ty t) (hv : EOk X.K tv u) : DSt X (.Assign [.Subscript o i pos'] value pos) (sDPut (tVar j) ty tv) (mDput j t u) := ⟨hp, fun F σ H ds fp E D r h kk => by
  refine hv F _ σ H ds fp _ _ r h fun h1 ds1 v1 H1 F1 fp1 q1 k1 p1 => ?_
  obtain ⟨d, ds2, F2, fp2, k2, r2, g2, i2⟩ := take1_ok p1.rep p1.qT p1.r k1
  obtain ⟨kvs0, hj0, k2⟩ := isDic_inv k2
  obtain ⟨a, vs0, hv0, _, _, _⟩ := r2.slot j _ hj0
  refine ⟨.ref a, by simpa using hv0, ?_⟩
  refine hk F2 _ σ H1 ds2 fp2 _ _ r2 k2 fun h3 ds3 v3 H3 F3 fp3 q3 k3 p3 => ?_
  obtain ⟨dk, i3, z, rfl, k4⟩ := pk_ok p3.rep p3.r k3
  rw [i3.int]
  obtain ⟨kvs, hj, hl, k5⟩ := isDic_inv k4
  have r3 : Rep X.K F3 Ad.nil σ H3 ds3 fp3 := p3.rep.less fun a z => z.elim
  obtain ⟨a', vs, hv', hf, hH, hkv⟩ := r3.slot j _ hj
  rw [hv0] at hv'
  cases hv'
  have fq : fp3 j a := (hf a).mpr rfl
  have hjl : j < ds3.length := (List.getElem?_eq_some_iff.mp hj).1
  refine ⟨a, _, rfl, DPut.k (k := .inl z) hH (by rw [hkv.length]; exact hl), ?_⟩
  have up : ∀ b, b ≠ a → (upd H3 a (.dK (putK vs (.inl z) v1))) b = H3 b := fun b ne => upd_ne ne
  have gr : Grow F3 H3 F3 (upd H3 a (.dK (putK vs (.inl z) v1))) := fun b f => ⟨f, up b fun e => by subst e; exact r3.fF j _ fq f⟩
  have i4 : Is X.K (res F3 H3) v1 d := i2.mono p3.g.same
  refine kk.nx _ _ _ F3 fp3 k5 ⟨by rw [List.length_set]; exact r3.len, fun i s e => ?_, fun i a z => by rw [List.length_set]; exact r3.out i a z, r3.fF, r3.fT, r3.sep, r3.tF, fun b f => by rw [(gr b f).2]; exact r3.fd b f, fun a z => z.elim⟩ (((p1.g.trans g2).trans p3.g).trans gr)
  by_cases hij : i = j
  · subst hij
    rw [List.getElem?_set_self hjl] at e; cases e
    exact ⟨a, _, hv0, hf, upd_same, (hkv.put i4).mono gr.same⟩
  · rw [List.getElem?_set_ne (Ne.symm hij)] at e
    exact (r3.slot i s e).mono gr.same fun b z => up b fun e => by subst e; exact hij (r3.sep i j _ z fq)⟩
theorem do_sortD (hp : PE X e0 (tCB (fun xs H Q => ∃ (a : Addr) (kvs : List (Key × V)) (ks : List Int), xs = [.ref a] ∧ Rd H a (.dK kvs) ∧ kvs.map (·.1) = ks.map Sum.inl ∧ ks.length < 64 ∧
    ∀ (ys : List Int) (p : Addr), ys.Perm ks → ys.Pairwise (· ≤ ·) → H p = none → Q (.ref p) (upd H p (.lst (ys.map V.int)))) (tCons (tVar j) tNil))) :
    DO X e0 (tCB (fun xs H Q => ∃ (a : Addr) (kvs : List (Key × V)) (ks : List Int), xs = [.ref a] ∧ Rd H a (.dK kvs) ∧ kvs.map (·.1) = ks.map Sum.inl ∧ ks.length < 64 ∧
    ∀ (ys : List Int) (p : Addr), ys.Perm ks → ys.Pairwise (· ≤ ·) → H p = none → Q (.ref p) (upd H p (.lst (ys.map V.int)))) (tCons (tVar j) tNil)) (dSortD j) := ⟨hp, fun F T σ H ds fp Q R rp h k => by
  obtain ⟨kvs, hj, ks, h1, h2, h3⟩ := isDic_inv h
  obtain ⟨a, vs, hv, hf, hH, hkv⟩ := rp.slot j _ hj
  refine ⟨.ref a, by simpa using hv, a, vs, ks, rfl, .of hH, by rw [hkv.keys]; exact h1, h2, fun ys p hp1 hp2 hp => ?_⟩
  obtain ⟨r1, g1, t1⟩ := rp.newT (o := .lst (ys.map V.int)) hp trivial
  obtain ⟨nF, nT, nfp⟩ := rp.new_ne hp
  exact k _ _ _ _ _ _ (fun a => a = p) (h3 ys hp1 hp2) ⟨r1, fun a e => by cases e; exact nT, g1, t1, ⟨p, _, rfl, fun _ => Iff.rfl, upd_same, IsA.of_ints ys⟩⟩⟩
end
end DL
namespace PySem
open Sem (wp)
end PySem
namespace L2
open PySem PySem.Spec PyProof.Rows
end L2
namespace DL
open PySem PySem.Spec PyProof.Rows L2
@[simp] def dLtD : D2 := fun d e Q => (PySem.W.alike d e = true ∧ d ≠ .none ∧ d.depth ≤ 60) ∧ (PyData.hasDict d = false ∧ PyData.hasDict e = false) ∧ Q (.tmp (.bool (PySem.W.dataLt d e)))
end DL
namespace L2
open PySem PySem.Spec PyProof.Rows
end L2
namespace DL
open PySem PySem.Spec PyProof.Rows L2
@[simp] def dRevT (t : DT) : DT := fun ds Q => t ds fun h ds1 => pk ds1 h fun d => match d with
  | .tuple xs => Q (.tmp (.tuple xs.reverse)) ds1
  | _ => False
end DL
namespace DL
open PySem PySem.Spec PyProof.Rows L2
section
variable {X : Cx} {o i value : Expr} {ty tv : TE} {t u : DT} {pos pos' : Pos} {j : Nat}
theorem ds_dputI (hu : X.A.units + 64 < cLine) (ho : PE X o (tVar j)) (hk : DO X i ty t) (hv : DO X value tv u) (hs : swapsWith value (some (.Subscript o i pos')) pos.line X.env = pure false := by rfl) :
    DSt X (.Assign [.Subscript o i pos'] value pos) (sDPut (tVar j) ty tv) (mDput j t u) := ds_dput (ps_dput (by omega) ho hk.pe hv.pe hs) hk.ok hv.ok
end
end DL
namespace DL
open PySem PySem.Spec PyProof.Rows L2
@[simp] def bBool : DN
  | [.int i], Q => Q (.tmp (.bool (i != 0)))
  | [.bool b], Q => Q (.tmp (.bool b))
  | _, _ => False
end DL
namespace DL
open PySem PySem.Spec PyProof.Rows L2
@[simp] def keyD : D → Option Key
  | .int i => some (.inl i)
  | .str z => some (.inr z)
  | _ => none
def dropD (kvs : List (Key × D)) (k : Key) : List (Key × D) := kvs.filter fun kv => decide (kv.1 ≠ k)
def mergeD (kvs more : List (Key × D)) : List (Key × D) := more.foldl (fun acc kv => putD acc kv.1 kv.2) kvs
@[simp] def prsD : List D → Option (List (Key × D))
  | [] => some []
  | [_] => none
  | k :: d :: r => match keyD k, prsD r with
    | some k, some l => some ((k, d) :: l)
    | _, _ => none
def prsV : List V → List (V × V)
  | x :: y :: r => (x, y) :: prsV r
  | _ => []
section
variable {K : PySem.W.Frag} {R : Hp}
theorem PkR.key {F : Ad} {H : Hp} {v : V} {d : D} {k : Key} (p : PkR K F H v d) (e : keyD d = some k) : v = kV k := by
  cases d <;> simp at e
  · subst e; exact p.int
  · subst e; exact p.str
theorem Is.key {v : V} {d : D} {k : Key} (p : Is K R v d) (e : keyD d = some k) : v = kV k := by
  cases d <;> simp at e
  · subst e; cases p; rfl
  · subst e; cases p; rfl
theorem IsKV.none : ∀ {a : List (Key × V)} {b : List (Key × D)} {k : Key}, IsKV K R a b → valD b k = none → valV a k = none := by
  intro a b k h e
  have h1 := h.anyk k
  rw [valV_any] at h1
  have h2 : (b.any fun kv => decide (kv.1 = k)) = (valD b k).isSome := by
    unfold valD
    rw [Option.isSome_map, Bool.eq_iff_iff, List.find?_isSome]; simp
  rw [h2, e] at h1
  cases hv : valV a k with
  | none => rfl
  | some v => rw [hv] at h1; cases h1
theorem IsKV.has {a : List (Key × V)} {b : List (Key × D)} (h : IsKV K R a b) (k : Key) : (valV a k).isSome = (valD b k).isSome := by
  cases e : valD b k with
  | none => rw [h.none e]; rfl
  | some d => obtain ⟨v, h1, _⟩ := h.get e; rw [h1]; rfl
theorem IsKV.drop (k : Key) : ∀ {a : List (Key × V)} {b : List (Key × D)}, IsKV K R a b → IsKV K R (dropK a k) (dropD b k)
  | [], [], _ => .nil
  | p :: a, q :: b, h => by
    cases h with
    | cons x h =>
      have ih := IsKV.drop k h
      unfold dropK dropD at *
      by_cases hk : q.1 = k
      · have hk' : p.1 = k := x.1.trans hk
        rw [List.filter_cons_of_neg (by simp [hk']), List.filter_cons_of_neg (by simp [hk])]
        exact ih
      · have hk' : ¬ p.1 = k := by rw [x.1]; exact hk
        rw [List.filter_cons_of_pos (by simp [hk']), List.filter_cons_of_pos (by simp [hk])]
        exact .cons x ih
  | [], _ :: _, h => by cases h
  | _ :: _, [], h => by cases h
theorem IsKV.merge : ∀ {more : List (Key × V)} {rs : List (Key × D)} {a : List (Key × V)} {b : List (Key × D)}, IsKV K R more rs → IsKV K R a b → IsKV K R (mergeK a more) (mergeD b rs) := by
  intro more rs a b r
  unfold IsKV at r
  induction r generalizing a b with
  | nil => intro q; exact q
  | @cons p q ps qs h t ih =>
    intro r0
    have e : IsKV K R (putK a p.1 p.2) (putD b q.1 q.2) := by rw [h.1]; exact IsKV.put r0 h.2
    exact ih e
theorem prs_is : ∀ {dl : List D} {vs : List V} {kvs : List (Key × D)}, IsA K R vs dl → prsD dl = some kvs → ∃ kv : List (Key × V), prsV vs = kv.map (fun kv => (kV kv.1, kv.2)) ∧ IsKV K R kv kvs ∧ kv.length = kvs.length
  | [], _, kvs, h, e => by cases h; cases e; exact ⟨[], rfl, .nil, rfl⟩
  | [_], _, _, h, e => by cases e
  | k :: d :: r, _, kvs, h, e => by
    cases h with
    | cons h1 h =>
    cases h with
    | cons h2 h =>
    simp only [prsD] at e
    split at e
    · rename_i k' l e1 e2
      cases e
      obtain ⟨kv, q1, q2, q3⟩ := prs_is h e2
      refine ⟨(k', _) :: kv, ?_, .cons ⟨rfl, h2⟩ q2, by simp [q3]⟩
      show (_, _) :: prsV _ = _
      rw [q1, h1.key e1]; rfl
    · cases e
def flatP : List (TE × TE) → TA
  | [] => tNil
  | (k, v) :: r => tCons k (tCons v (flatP r))
theorem flat_eq : ∀ (trs : List (TE × TE)) (σ : L2.St) (H : Hp) (P : List (V × V) → Hp → Prop), flatP trs σ H (fun vs H2 => P (prsV vs) H2) = tPairs trs σ H P
  | [], _, _, _ => rfl
  | (k, v) :: r, σ, H, P => by
    show k σ H (fun x H1 => v σ H1 fun y H2 => flatP r σ H2 fun vs H3 => P ((x, y) :: prsV vs) H3) = k σ H fun x H1 => v σ H1 fun y H2 => tPairs r σ H2 fun ps H3 => P ((x, y) :: ps) H3
    have : ∀ x y H2, flatP r σ H2 (fun vs H3 => P ((x, y) :: prsV vs) H3) = tPairs r σ H2 fun ps H3 => P ((x, y) :: ps) H3 := fun x y H2 => flat_eq r σ H2 fun ps H3 => P ((x, y) :: ps) H3
    simp only [this]
theorem Rep.updT {F T : Ad} {σ : Sl} {H : Hp} {ds : DS} {fp : Nat → Ad} {p : Addr} {o : HO} (r : Rep K F T σ H ds fp) (t : T p) (ho : bigO o) : Rep K F T σ (upd H p o) ds fp ∧ Grow F H F (upd H p o) := by
  have g : Grow F H F (upd H p o) := fun a f => ⟨f, upd_ne fun e => r.tF p t (e ▸ f)⟩
  refine ⟨r.go g (fun i a q => ⟨upd_ne fun e => r.fT i a q (e ▸ t), r.fF i a q, r.fT i a q⟩) r.tF (fun a f => by rw [(g a f).2]; exact r.fd a f) fun a z => ?_, g⟩
  by_cases e : a = p
  · subst e; rw [upd_same]; exact ⟨_, rfl, ho⟩
  · rw [upd_ne e]; exact r.td a z
end
/-- {k: v, ..} -/
@[simp] def dDisp (t : DTA) : DT := fun ds Q => t ds fun hs ds1 => takes hs ds1 fun dl ds2 => ∃ kvs, prsD dl = some kvs ∧ kvs.length ≤ 15 ∧ Q (.new (.dic (mergeD [] kvs))) ds2
/-- (a new dict)[k] -/
@[simp] def dNGet (t tk : DT) : DT := fun ds Q => t ds fun h ds1 => match h with
  | .new (.dic kvs) => tk ds1 fun hk ds2 => pk ds2 hk fun key => ∃ k d, keyD key = some k ∧ valD kvs k = some d ∧ Q (.tmp d) ds2
  | _ => False
/-- d[k], of any key -/
@[simp] def dKGet (j : Nat) (tk : DT) : DT := fun ds Q => isDic ds j fun _ => tk ds fun hk ds1 => pk ds1 hk fun key => isDic ds1 j fun kvs => ∃ k d, keyD key = some k ∧ valD kvs k = some d ∧ Q (.tmp d) ds1
@[simp] def dKGet2 (j : Nat) (tk tx : DT) : DT := fun ds Q => isDic ds j fun _ => tk ds fun hk ds1 => tx ds1 fun hx ds2 => pk ds2 hk fun key => take1 hx ds2 fun dx ds3 => isDic ds3 j fun kvs => ∃ k, keyD key = some k ∧ Q (.tmp ((valD kvs k).getD dx)) ds3
@[simp] def dKPop2 (j : Nat) (tk tx : DT) : DT := fun ds Q => isDic ds j fun _ => tk ds fun hk ds1 => tx ds1 fun hx ds2 => pk ds2 hk fun key => take1 hx ds2 fun dx ds3 => isDic ds3 j fun kvs => ∃ k, keyD key = some k ∧ Q (.tmp ((valD kvs k).getD dx)) (ds3.set j (.dic (dropD kvs k)))
@[simp] def dKIn (neg : Bool) (j : Nat) (tk : DT) : DT := fun ds Q => tk ds fun hk ds1 => pk ds1 hk fun key => isDic ds1 j fun kvs => ∃ k, keyD key = some k ∧ Q (.tmp (.bool (if neg then !(valD kvs k).isSome else (valD kvs k).isSome))) ds1
/-- d[k] = v, of any key -/
@[simp] def mKput (j : Nat) (tk tv : DT) : DM := fun E ds => tv ds fun hv ds1 => take1 hv ds1 fun d ds2 => isDic ds2 j fun _ => tk ds2 fun hk ds3 => pk ds3 hk fun key => isDic ds3 j fun kvs => ∃ k, keyD key = some k ∧ kvs.length < sizeLine ∧ E.nx (ds3.set j (.dic (putD kvs k d)))
@[simp] def bDictP : DN
  | [.list xs], Q => ∃ kvs : List (Key × D), xs = kvs.map (fun kv => .tuple [dK kv.1, kv.2]) ∧ Q (.new (.dic (mergeD [] kvs)))
  | _, _ => False
@[simp] def dKCopy (j : Nat) : DT := fun ds Q => isDic ds j fun kvs => Q (.new (.dic kvs)) ds
section
variable {X : Cx} {K : PySem.W.Frag} {F T : Ad} {σ : Sl} {H : Hp} {ds : DS} {fp : Nat → Ad} {te ty tx td tv : TE} {t tk u : DT} {ta : DTA} {n j : Nat} {trs : List (TE × TE)} {o i e f value e0 : Expr} {pos pos' apos : Pos}
theorem eok_disp (ha : AOk K n (flatP trs) ta) : EOk K (tDisp trs) (dDisp ta) := fun F T σ H ds fp Q R rp h k => by
  intro p hp
  obtain ⟨r1, g1, t1⟩ := rp.newT (o := .dK []) hp trivial
  rw [← flat_eq]
  refine ha F _ σ _ ds fp _ _ r1 h fun hs ds1 vs H1 F1 fp1 q1 k1 p1 l1 => ?_
  obtain ⟨dl, ds2, F2, fp2, e2, r2, g2, i2⟩ := takes_ok p1.r .refl p1.rep p1.qT k1
  obtain ⟨kvs, ek, l15, k3⟩ := e2
  obtain ⟨kv, ev, ikv, el⟩ := prs_is i2 ek
  have hp1 : H1 p = some (.dK []) := by rw [p1.t p (.inr rfl), upd_same]
  obtain ⟨r3, g3⟩ := r2.updT (p := p) (o := .dK (mergeK [] kv)) (.inr rfl) trivial
  refine ⟨hp1, kv, ev, by rw [el]; exact l15, ?_⟩
  have np : ¬ T p := (rp.new_ne hp).2.1
  refine k _ _ _ _ _ _ (fun a => a = p) k3 ⟨r3, fun a e => by cases e; exact np, ((g1.trans p1.g).trans g2).trans g3, fun a ta => ?_, ⟨p, _, rfl, fun _ => Iff.rfl, upd_same, (IsKV.merge ikv .nil).mono g3.same⟩⟩
  have ne : a ≠ p := fun e => np (e ▸ ta)
  rw [upd_ne ne, p1.t a (.inl ta), upd_ne ne]
theorem eok_nget (h : EOk K td t) (hk : EOk K ty tk) : EOk K (tDGet td ty) (dNGet t tk) := fun F T σ H ds fp Q R rp e k => by
  refine h F T σ H ds fp _ _ rp e fun h1 ds1 v1 H1 F1 fp1 q1 k1 p1 => ?_
  split at k1
  · rename_i kvs
    obtain ⟨a, vs, hv, hf, hH, hkv⟩ := p1.r
    cases hv
    refine hk F1 _ σ H1 ds1 fp1 _ _ p1.rep k1 fun h2 ds2 v2 H2 F2 fp2 q2 k2 p2 => ?_
    obtain ⟨d, i2, key, d', e1, e2, k3⟩ := pk_ok p2.rep p2.r k2
    have hH2 : H2 a = some (.dK vs) := by rw [p2.t a (.inr ((hf a).mpr rfl))]; exact hH
    have hkv2 := hkv.mono p2.g.same
    obtain ⟨v, ev, iv⟩ := hkv2.get e2
    rw [i2.key e1]
    refine ⟨a, v, rfl, ?_, ?_⟩
    · have := DGet.k (k := key) hH2
      rw [ev] at this
      exact this
    · exact k _ _ _ _ _ _ _ k3 ((Pst.here (h := .tmp d') (p2.rep.less fun a z => .inl (.inl z)) iv).pre (p1.g.trans p2.g) fun a z => (p2.t a (.inl z)).trans (p1.t a z))
  · exact k1.elim
theorem do_nget (hu : X.A.units + 64 < cLine) (ho : DO X o td t) (hk : DO X i ty tk) (hs : NoSl i := by exact fun _ _ => rfl) : DO X (.Subscript o i pos) (tDGet td ty) (dNGet t tk) :=
  ⟨pe_dget (by omega) ho.pe hk.pe hs, eok_nget ho.ok hk.ok⟩
theorem eok_kget (hk : EOk K ty tk) : EOk K (tDGet (tVar j) ty) (dKGet j tk) := fun F T σ H ds fp Q R rp h k => by
  obtain ⟨kvs0, hj0, h⟩ := isDic_inv h
  obtain ⟨a, vs0, hv0, _, _, _⟩ := rp.slot j _ hj0
  refine ⟨.ref a, by simpa using hv0, ?_⟩
  refine hk F T σ H ds fp _ _ rp h fun h1 ds1 v1 H1 F1 fp1 q1 k1 p1 => ?_
  obtain ⟨d, i1, k2⟩ := pk_ok p1.rep p1.r k1
  obtain ⟨kvs, hj, key, dd, e1, hd, k3⟩ := isDic_inv k2
  rw [i1.key e1]
  obtain ⟨a', vs, hv, hf, hH, hkv⟩ := p1.rep.slot j _ hj
  rw [hv0] at hv
  cases hv
  obtain ⟨v, ev, iv⟩ := hkv.get hd
  refine ⟨a, v, rfl, ?_, ?_⟩
  · have := DGet.k (k := key) hH
    rw [ev] at this
    exact this
  · exact k _ _ _ _ _ _ _ k3 ((Pst.here (h := .tmp dd) (p1.rep.less fun a z => .inl z) iv).pre p1.g p1.t)
theorem do_kget (hu : X.A.units + 64 < cLine) (ho : PE X o (tVar j)) (hk : DO X i ty tk) (hs : NoSl i := by exact fun _ _ => rfl) : DO X (.Subscript o i pos) (tDGet (tVar j) ty) (dKGet j tk) :=
  ⟨pe_dget (by omega) ho hk.pe hs, eok_kget hk.ok⟩
theorem eok_kget2 (hk : EOk K ty tk) (hx : EOk K tx u) : EOk K (tDGet2 (tVar j) ty tx) (dKGet2 j tk u) := fun F T σ H ds fp Q R rp h k => by
  obtain ⟨kvs0, hj0, h⟩ := isDic_inv h
  obtain ⟨a, vs0, hv0, _, hH0, _⟩ := rp.slot j _ hj0
  refine ⟨.ref a, by simpa using hv0, a, rfl, .inl ⟨_, .of hH0⟩, ?_⟩
  refine hk F T σ H ds fp _ _ rp h fun h1 ds1 v1 H1 F1 fp1 q1 k1 p1 => ?_
  refine hx F1 _ σ H1 ds1 fp1 _ _ p1.rep k1 fun h2 ds2 v2 H2 F2 fp2 q2 k2 p2 => ?_
  obtain ⟨d, i1, k2⟩ := pk_ok p2.rep (p1.r.keep p2.g fun a z => p2.t a (.inr z)) k2
  obtain ⟨dx, ds3, F3, fp3, k3, r3, g3, i3⟩ := take1_ok (p2.rep.less (T' := T.or q2) fun a z => z.elim (fun z => .inl (.inl z)) .inr) (fun a z y => p2.qT a z (.inl y)) p2.r k2
  obtain ⟨kvs, hj, key, e1, k4⟩ := isDic_inv k3
  rw [i1.key e1]
  obtain ⟨a', vs, hv, hf, hH, hkv⟩ := r3.slot j _ hj
  rw [hv0] at hv
  cases hv
  refine ⟨_, DGet.k (k := key) hH, ?_⟩
  have iv : Is K (res F3 H2) ((valV vs key).getD v2) ((valD kvs key).getD dx) := by
    cases hd : valD kvs key with
    | none => rw [hkv.none hd]; exact i3
    | some dd => obtain ⟨v, ev, iv⟩ := hkv.get hd; rw [ev]; exact iv
  exact k _ _ _ _ _ _ _ k4 ((Pst.here (h := .tmp _) r3 iv).pre ((p1.g.trans p2.g).trans g3) fun a z => (p2.t a (.inl z)).trans (p1.t a z))
theorem do_kget2 (hu : X.A.units + 64 < cLine) (ho : PE X o (tVar j)) (hk : DO X e ty tk) (hx : DO X f tx u) (m : M2 X o "get" apos e f pos) : DO X (.Call (.Attribute o "get" apos) [e, f] [] pos) (tDGet2 (tVar j) ty tx) (dKGet2 j tk u) :=
  ⟨pe_dget2 (by omega) ho hk.pe hx.pe m, eok_kget2 hk.ok hx.ok⟩
end
end DL
namespace DL
open PySem PySem.Spec PyProof.Rows L2
section
variable {X : Cx} {K : PySem.W.Frag} {F T : Ad} {σ : Sl} {H : Hp} {ds : DS} {fp : Nat → Ad} {te ty tx td tv : TE} {t tk u : DT} {ta : DTA} {n j : Nat} {trs : List (TE × TE)} {o i e f value e0 : Expr} {pos pos' apos p : Pos}
/-- slot j's dict changes -/
theorem Rep.setDic {kvs' : List (Key × D)} {kvs : List (Key × D)} {a : Addr} {vs' : List (Key × V)} (r3 : Rep K F T σ H ds fp) (hj : ds[j]? = some (.dic kvs)) (hv : σ[j]? = some (some (.ref a))) (iz : IsKV K (res F H) vs' kvs') :
    Rep K F T σ (upd H a (.dK vs')) (ds.set j (.dic kvs')) fp ∧ Grow F H F (upd H a (.dK vs')) ∧ ∀ b, T b → upd H a (.dK vs') b = H b := by
  obtain ⟨a', vs, hv', hf, hH, hkv⟩ := r3.slot j _ hj
  rw [hv] at hv'
  cases hv'
  have fq : fp j a := (hf a).mpr rfl
  have hjl : j < ds.length := (List.getElem?_eq_some_iff.mp hj).1
  have up : ∀ b, b ≠ a → (upd H a (.dK vs')) b = H b := fun b ne => upd_ne ne
  have gr : Grow F H F (upd H a (.dK vs')) := fun b f => ⟨f, up b fun e => by subst e; exact r3.fF j _ fq f⟩
  refine ⟨⟨by rw [List.length_set]; exact r3.len, fun i s e => ?_, fun i a z => by rw [List.length_set]; exact r3.out i a z, r3.fF, r3.fT, r3.sep, r3.tF, fun b f => by rw [(gr b f).2]; exact r3.fd b f, fun b z => by rw [up b fun e => by subst e; exact r3.fT j _ fq z]; exact r3.td b z⟩, gr, fun b z => up b fun e => by subst e; exact r3.fT j _ fq z⟩
  by_cases hij : i = j
  · subst hij
    rw [List.getElem?_set_self hjl] at e; cases e
    exact ⟨a, _, hv, hf, upd_same, iz.mono gr.same⟩
  · rw [List.getElem?_set_ne (Ne.symm hij)] at e
    exact (r3.slot i s e).mono gr.same fun b z => up b fun e => by subst e; exact hij (r3.sep i j _ z fq)
theorem eok_knin (hk : EOk K ty tk) : EOk K (tDNotIn ty (tVar j)) (dKIn true j tk) := fun F T σ H ds fp Q R rp h k => by
  refine hk F T σ H ds fp _ _ rp h fun h1 ds1 v1 H1 F1 fp1 q1 k1 p1 => ?_
  obtain ⟨d, i1, k2⟩ := pk_ok p1.rep p1.r k1
  obtain ⟨kvs, hj, key, e1, k3⟩ := isDic_inv k2
  rw [i1.key e1]
  obtain ⟨a, vs, hv, hf, hH, hkv⟩ := p1.rep.slot j _ hj
  refine ⟨.ref a, by simpa using hv, a, _, rfl, DGet.k (k := key) hH, ?_⟩
  rw [hkv.has key]
  exact k _ _ _ _ _ _ _ k3 ((Pst.bool (p1.rep.less fun a z => .inl z)).pre p1.g p1.t)
theorem ds_kput (hu : X.A.units + 64 < cLine) (ho : PE X o (tVar j)) (hk : DO X i ty t) (hv : DO X value tv u) (hs : swapsWith value (some (.Subscript o i pos')) pos.line X.env = pure false := by rfl) : DSt X (.Assign [.Subscript o i pos'] value pos) (sDPut (tVar j) ty tv) (mKput j t u) := ⟨ps_dput (by omega) ho hk.pe hv.pe hs, fun F σ H ds fp E D r h kk => by
  refine hv.ok F _ σ H ds fp _ _ r h fun h1 ds1 v1 H1 F1 fp1 q1 k1 p1 => ?_
  obtain ⟨d, ds2, F2, fp2, k2, r2, g2, i2⟩ := take1_ok p1.rep p1.qT p1.r k1
  obtain ⟨kvs0, hj0, k2⟩ := isDic_inv k2
  obtain ⟨a, vs0, hv0, _, _, _⟩ := r2.slot j _ hj0
  refine ⟨.ref a, by simpa using hv0, ?_⟩
  refine hk.ok F2 _ σ H1 ds2 fp2 _ _ r2 k2 fun h3 ds3 v3 H3 F3 fp3 q3 k3 p3 => ?_
  obtain ⟨dk, i3, k4⟩ := pk_ok p3.rep p3.r k3
  obtain ⟨kvs, hj, key, e1, hl, k5⟩ := isDic_inv k4
  rw [i3.key e1]
  have r3 : Rep X.K F3 Ad.nil σ H3 ds3 fp3 := p3.rep.less fun a z => z.elim
  obtain ⟨a', vs, hv', hf, hH, hkv⟩ := r3.slot j _ hj
  rw [hv0] at hv'
  cases hv'
  refine ⟨a, _, rfl, DPut.k (k := key) hH (by rw [hkv.length]; exact hl), ?_⟩
  have i4 : Is X.K (res F3 H3) v1 d := i2.mono p3.g.same
  obtain ⟨r4, g4, _⟩ := r3.setDic hj hv0 (hkv.put (k := key) i4)
  exact kk.nx _ _ _ F3 fp3 k5 r4 (((p1.g.trans g2).trans p3.g).trans g4)⟩
theorem refs_of : ∀ {kvs : List (Key × D)} {vs : List V} {R : Hp}, IsA K R vs (kvs.map fun kv => .tuple [dK kv.1, kv.2]) → ∃ (ps : List Addr) (kv : List (Key × V)), vs = ps.map V.ref ∧ Paired (fun p kv => SqT K R p [kV kv.1, kv.2]) ps kv ∧ IsKV K R kv kvs
  | [], _, R, h => by cases h; exact ⟨[], [], rfl, .nil, .nil⟩
  | q :: kvs, _, R, h => by
    cases h with
    | cons h1 h2 =>
    obtain ⟨ps, kv, rfl, b, c⟩ := refs_of h2
    cases h1 with
    | tup h3 h4 =>
    cases h4 with
    | cons h5 h4 =>
    cases h4 with
    | cons h6 h4 =>
    cases h4
    have : _ = kV q.1 := h5.key (by cases q.1 <;> rfl)
    subst this
    exact ⟨_ :: ps, (q.1, _) :: kv, rfl, .cons h3 b, .cons ⟨rfl, h6⟩ c⟩
theorem cok_dictP : COk K (fun xs H Q => ∃ (a : Addr) (ps : List Addr) (kvs : List (Key × V)), xs = [.ref a] ∧ SqL K H a (ps.map V.ref) ∧ Paired (fun p kv => SqT K H p [kV kv.1, kv.2]) ps kvs ∧
    ∀ p, H p = none → Q (.ref p) (upd H p (.dK (mergeK [] kvs)))) bDictP := by
  intro F T σ H ds fp vs dl Q R rp pv h k
  match dl, pv, h with
  | [.list xs], pv, h =>
    obtain ⟨kvs, rfl, h⟩ := h
    obtain ⟨v, rfl, p⟩ := one_of pv rfl
    obtain ⟨a, ws, rfl, l, is⟩ := p.list
    obtain ⟨ps, kv, rfl, b, c⟩ := refs_of is
    refine ⟨a, ps, kv, rfl, l.sq, Paired.mapP b fun _ _ x => same_t (res_same _ _) x, fun p hp => ?_⟩
    obtain ⟨r1, g1, t1⟩ := rp.newT (o := .dK (mergeK [] kv)) hp trivial
    obtain ⟨nF, nT, nfp⟩ := rp.new_ne hp
    exact k _ _ _ _ _ h ⟨r1, fun a e => by cases e; exact nT, g1, t1, ⟨p, _, rfl, fun _ => Iff.rfl, upd_same, (IsKV.merge c .nil).mono g1.same⟩⟩
end
end DL
namespace DL
open PySem PySem.Spec PyProof.Rows L2
/-- a dict as a thing that changes -/
def dicW (K : PySem.W.Frag) (a : Addr) (kvs : List (Key × D)) : Wd where
  val := .ref a
  fp := fun b => b = a
  ok := fun R H => ∃ vs, H a = some (.dK vs) ∧ IsKV K R vs kvs
  mono := by
    rintro R R' H H' e k ⟨vs, h1, h2⟩
    exact ⟨vs, by rw [k _ rfl]; exact h1, h2.mono e⟩
  dom := by
    rintro R H b ⟨vs, h1, h2⟩ rfl
    exact ⟨_, h1, trivial⟩
section
variable {X : Cx} {K : PySem.W.Frag} {F T q : Ad} {σ : Sl} {H : Hp} {ds : DS} {fp : Nat → Ad} {te : TE} {t : DT} {e : Expr} {es : List Expr} {ta : TA} {td : DTA} {n k j : Nat} {g : DFW} {f : Addr} {fd : FuncData} {ps : List Str} {x y : Str} {p pos : Pos}
theorem do_dictP (hc : X.calm = true) (hg : Gl X "dict") (hm : X.mg "dict" = none) (a : DO X e te t) (he : starEach [e] X.env = (false, eval e X.env) :: starEach [] X.env := by rfl) :
    DO X (.Call (.Name "dict" p) [e] [] pos) (tCB (fun xs H Q => ∃ (a : Addr) (ps : List Addr) (kvs : List (Key × V)), xs = [.ref a] ∧ SqL X.K H a (ps.map V.ref) ∧ Paired (fun p kv => SqT X.K H p [kV kv.1, kv.2]) ps kvs ∧
    ∀ p, H p = none → Q (.ref p) (upd H p (.dK (mergeK [] kvs)))) (tCons te tNil)) (dB bDictP (aCons t aNil)) :=
  ⟨pe_callTy (call_dictP hc) hg hm rfl (da_cons a da_nil he).pa (by decide) (by decide) he rfl, eok_b (da_cons a da_nil he).ok cok_dictP⟩
/-- dict(d), d a dict or one that was handed in -/
@[simp] def dDCopy (K : PySem.W.Frag) (j : Nat) : DT := fun ds Q => match ds[j]? with
  | some (.dic kvs) => Q (.new (.dic kvs)) ds
  | some (.wd w) => ∃ a kvs, w = dicW K a kvs ∧ Q (.new (.dic kvs)) ds
  | _ => False
@[simp] def dCallE (j : Nat) (K : PySem.W.Frag) (g : DFW) (t : DTA) : DT := fun ds Q => t ds fun hs ds1 => match splitL hs with
  | some (mid, j2) => j2 = j ∧ takes mid ds1 fun dl ds2 => match ds2[j]? with
    | some (.wd w) => g w dl fun r w' => w'.val = w.val ∧ Q (hdOf r) (ds2.set j (.wd w'))
    | some (.dic kvs) => ∀ a, g (dicW K a kvs) dl fun r w' => w'.val = .ref a ∧ ∃ kvs', w' = dicW K a kvs' ∧ Q (hdOf r) (ds2.set j (.dic kvs'))
    | _ => False
  | none => False
@[simp] def retL : Hd → DS → (SD → Prop) → Prop
  | .tmp d, _, Q => Q (.val d)
  | .new s, _, Q => Q s
  | .slot i, ds, Q => match ds[i]? with
    | some (.val d) => Q (.val d)
    | some (.own xs) => Q (.own xs)
    | some (.dic kvs) => Q (.dic kvs)
    | _ => False
  | .fld _ _ _, _, _ => False
@[simp] def enE (m : Nat) (w : Wd) (P : SD → Wd → Prop) : En := ⟨fun ds => wdAt ds m fun w' => w'.val = w.val ∧ P (.val .none) w', fun h ds => wdAt ds m fun w' => w'.val = w.val ∧ retL h ds fun r => P r w', fun _ => False, fun _ => False⟩
@[simp] def slotsE (n : Nat) (w : Wd) (dl : List D) : DS := dl.map .val ++ .wd w :: List.replicate (n - (dl.length + 1)) .no
end
end DL
namespace DL
open PySem PySem.Spec PyProof.Rows L2
/-- a dict of dicts: the inner ones are never changed -/
abbrev AL := List (Key × Addr × List (Key × D))
def adW (K : PySem.W.Frag) (p : Addr) (l : AL) : Wd where
  val := .ref p
  fp := fun b => b = p ∨ b ∈ l.map (·.2.1)
  ok := fun R H => H p = some (.dK (l.map fun e => (e.1, .ref e.2.1))) ∧ p ∉ l.map (·.2.1) ∧ ∀ e ∈ l, ∃ vs, H e.2.1 = some (.dK vs) ∧ IsKV K R vs e.2.2
  mono := by
    rintro R R' H H' e k ⟨h1, h2, h3⟩
    refine ⟨by rw [k _ (.inl rfl)]; exact h1, h2, fun x hx => ?_⟩
    obtain ⟨vs, q1, q2⟩ := h3 x hx
    exact ⟨vs, by rw [k _ (.inr (List.mem_map.mpr ⟨x, hx, rfl⟩))]; exact q1, q2.mono e⟩
  dom := by
    rintro R H b ⟨h1, h2, h3⟩ (rfl | f)
    · exact ⟨_, h1, trivial⟩
    · obtain ⟨x, hx, rfl⟩ := List.mem_map.mp f
      obtain ⟨vs, q1, q2⟩ := h3 x hx
      exact ⟨_, q1, trivial⟩
def alAt (l : AL) (k : Key) : Option (Addr × List (Key × D)) := (l.find? fun e => decide (e.1 = k)).map (·.2)
def alPut (l : AL) (k : Key) (a : Addr) (kvs : List (Key × D)) : AL :=
  if (l.any fun e => decide (e.1 = k)) = true then l.map (fun e => if e.1 = k then (e.1, a, kvs) else e) else l ++ [(k, a, kvs)]
section
variable {X : Cx} {K : PySem.W.Frag} {F T q : Ad} {σ : Sl} {H : Hp} {ds : DS} {fp : Nat → Ad} {te tk tv ty tx td : TE} {t t' tkD u : DT} {e o i f value : Expr} {es : List Expr} {ta : TA} {tdA : DTA} {n k j j1 j2 : Nat} {g : DFW} {fa : Addr} {fd : FuncData} {ps : List Str} {x y : Str} {p pos pos' apos : Pos}
/-- {k: {}} -/
@[simp] def dAl0 (K : PySem.W.Frag) (tk : DT) : DT := fun ds Q => tk ds fun h ds1 => pk ds1 h fun d => ∃ k, keyD d = some k ∧ ∀ p a, Q (.new (.wd (adW K p [(k, a, [])]))) ds1
/-- {**a, **b[k]}, a a dict, b a dict of dicts -/
@[simp] def dMergeA (K : PySem.W.Frag) (j1 j2 : Nat) (tk : DT) : DT := fun ds Q => isDic ds j1 fun kvs => wdAt ds j2 fun w => ∃ p l, w = adW K p l ∧ tk ds fun h ds1 => ds1 = ds ∧ pk ds1 h fun d => ∃ k x, keyD d = some k ∧ alAt l k = some x ∧ (mergeD [] kvs).length + x.2.length ≤ sizeLine ∧ Q (.new (.dic (mergeD (mergeD [] kvs) x.2))) ds
/-- b[k] = a new dict -/
@[simp] def mAlPut (K : PySem.W.Frag) (j : Nat) (tk tv : DT) : DM := fun E ds => tv ds fun hv ds1 => ∃ kvs, hv = .new (.dic kvs) ∧ wdAt ds1 j fun _ => tk ds1 fun hk ds2 => pk ds2 hk fun d => wdAt ds2 j fun w => ∃ k p l, keyD d = some k ∧ w = adW K p l ∧ l.length < sizeLine ∧ ∀ a, E.nx (ds2.set j (.wd (adW K p (alPut l k a kvs))))
end
end DL
namespace DL
open PySem PySem.Spec PyProof.Rows L2
/-- the tuple's cell t is frozen, the list's cell a is the thing's own -/
def prW (K : PySem.W.Frag) (t a : Addr) (xs : List D) (d : D) : Wd where
  val := .ref t
  fp := fun b => b = a
  ok := fun R H => ∃ (v : V) (vs : List V), R t = some (.tup [.ref a, v]) ∧ H a = some (.lst vs) ∧ IsA K R vs xs ∧ Is K R v d
  mono := by
    rintro R R' H H' e k ⟨v, vs, h1, h2, h3, h4⟩
    exact ⟨v, vs, e _ _ h1, by rw [k _ rfl]; exact h2, h3.mono e, h4.mono e⟩
  dom := by
    rintro R H b ⟨v, vs, h1, h2, h3, h4⟩ rfl
    exact ⟨_, h2, trivial⟩
end DL
namespace DL
open PySem PySem.Spec PyProof.Rows L2
section
variable {K : PySem.W.Frag} {F T : Ad} {σ : Sl} {H : Hp} {ds : DS} {fp : Nat → Ad} {i j : Nat}
open Classical in
/-- what slot i owns is a temporary now -/
theorem Rep.take (r : Rep K F T σ H ds fp) (hi : i < ds.length) : Rep K F (T.or (fp i)) σ H (ds.set i .no) (fun j => if j = i then Ad.nil else fp j) := by
  refine ⟨by rw [List.length_set]; exact r.len, fun j u e' => ?_, fun j b h => ?_, fun j b h => ?_, fun j b h => ?_, fun j k b h g' => ?_, fun b t => ?_, r.fd, fun b t => ?_⟩
  · by_cases hj : j = i
    · subst hj
      rw [List.getElem?_set_self hi] at e'; cases e'
      rw [if_pos rfl]
      exact fun _ z => z
    · rw [List.getElem?_set_ne (Ne.symm hj)] at e'
      rw [if_neg hj]
      exact r.slot j u e'
  · rw [List.length_set]
    by_cases hj : j = i
    · rw [hj]; exact hi
    · rw [if_neg hj] at h; exact r.out j b h
  · by_cases hj : j = i
    · rw [if_pos hj] at h; exact h.elim
    · rw [if_neg hj] at h; exact r.fF j b h
  · by_cases hj : j = i
    · rw [if_pos hj] at h; exact h.elim
    · rw [if_neg hj] at h
      rintro (t | t)
      · exact r.fT j b h t
      · exact hj (r.sep j i b h t)
  · by_cases hj : j = i
    · rw [if_pos hj] at h; exact h.elim
    · rw [if_neg hj] at h
      by_cases hk : k = i
      · rw [if_pos hk] at g'; exact g'.elim
      · rw [if_neg hk] at g'; exact r.sep j k b h g'
  · rcases t with t | t
    · exact r.tF b t
    · exact r.fF i b t
  · rcases t with t | t
    · exact r.td b t
    · exact r.fdom t
end
@[simp] def dPair (K : PySem.W.Frag) (t : DTA) : DT := fun ds Q => t ds fun hs ds1 => match hs with
  | [.slot i, .tmp d] => match ds1[i]? with
    | some (.own xs) => ∀ p a, Q (.new (.wd (prW K p a xs d))) (ds1.set i .no)
    | _ => False
  | _ => False
section
variable {X : Cx} {K : PySem.W.Frag} {i j : Nat} {x : Str} {e tg : Expr} {es : List Expr} {ta : TA} {t : DTA} {te : TE} {d : DT} {pos : Pos} {n k : Nat} {us : List Nat} {U : TG} {dt : DGT}
/-- a, b = such a tuple -/
@[simp] def mUnpW (K : PySem.W.Frag) (i j : Nat) (d : DT) : DM := fun E ds => d ds fun h ds1 => ∃ t a xs y, h = .new (.wd (prW K t a xs y)) ∧ put i (.own xs) ds1 fun ds2 => put j (.val y) ds2 E.nx
end
end DL
namespace DL
open PySem PySem.Spec PyProof.Rows L2
structure DQP (X : Cx) (pos : Pos) (keys : List (Option Expr)) (values : List Expr) (trs : List (TE × TE)) (n : Nat) (ta : DTA) : Prop where
  ps : PPs X pos keys values trs
  ok : AOk X.K n (flatP trs) ta
section
variable {X : Cx} {K : PySem.W.Frag} {F T q : Ad} {σ : Sl} {H : Hp} {ds : DS} {fp : Nat → Ad} {te tk tv ty tx td : TE} {t t' tkD u : DT} {e o i f v value : Expr} {es : List Expr} {keys : List (Option Expr)} {values : List Expr} {trs : List (TE × TE)} {ta : TA} {tdA : DTA} {n k j j1 j2 : Nat} {ps : List Str} {x y : Str} {p pos pos' apos : Pos}
theorem dq_nil : DQP X pos [] [] [] 0 aNil := ⟨pps_nil, aok_nil⟩
theorem dq_cons (hk : DO X e tk t) (hv : DO X v tv u) (h : DQP X pos keys values trs n tdA) : DQP X pos (some e :: keys) (v :: values) ((tk, tv) :: trs) (n + 1 + 1) (aCons t (aCons u tdA)) :=
  ⟨pps_cons hk.pe hv.pe h.ps, aok_cons hk.ok (aok_cons hv.ok h.ok)⟩
theorem do_disp (h : DQP X pos keys values trs n tdA) (hall : keys.all (·.isSome) = true := by rfl) (hl : keys.length = values.length := by rfl) (h0 : keys ≠ [] := by exact List.cons_ne_nil _ _)
    (h15 : keys.length ≤ 15 := by decide) : DO X (.Dict keys values pos) (tDisp trs) (dDisp tdA) := ⟨pe_disp h.ps hall hl h0 h15, eok_disp h.ok⟩
/-- D.get(k), D a dict of the text with text keys -/
@[simp] def dKTGet (kvs : List (Str × D)) (t : DT) : DT := fun ds Q => t ds fun h ds1 => pk ds1 h fun d => match d with
  | .str z => Q (.tmp ((kvs.lookup z).getD .none)) ds1
  | _ => False
def tKGet (K : PySem.W.Frag) (d : Addr) (te : TE) : TE := fun σ H Q => te σ H fun x H1 => ∃ (z : Str) (r : Option Value) (v : V), x = .str z ∧ PySem.W.nsIn K d z = some r ∧ RelV v (r.getD .none) ∧ Q v H1
theorem pe_kget1 {d : Addr} {es : Array DictEntry} (D : KDict X.K X.w d es n) (ho : PE X o (tC (.ref d))) (he : PE X e te) (m : M1 X o "get" apos e pos) : PE X (.Call (.Attribute o "get" apos) [e] [] pos) (tKGet X.K d te) := by
  refine ⟨fun pins s σ H Q I h => ?_⟩
  refine wpAny_Call_method m.base m.few m.line PySem.F.plainAttrs_dict PySem.F.slot_dict_get PySem.F.type_dict_get (thn (ho.run pins s σ H _ I (show tC (.ref d) σ H (fun y H1 => y = .ref d ∧ H1 = H) from ⟨rfl, rfl⟩)) fun u s1 ⟨y, H1, I1, rx, e1, e2⟩ => ?_)
  subst e1 e2
  obtain rfl : u = Value.ref d := rx
  have mo := PySem.W.mapOf_K (prog := X.prog) (w := X.w) I1.kIn D.at_ D.lit
  refine ⟨mo.typeIs, fun b q => ?_, ?_⟩
  · cases q
    exact ⟨_, I1.kIn _ _ D.at_, rfl⟩
  rw [m.trees]
  refine Calls.callWith_builtin rfl (Calls.evalArgs_plain (Calls.spliced_cons (thn (he.run pins s1 σ H1 _ I1 h) fun iv s2 ⟨y, H2, I2, ry, z, r, v, ey, en, rv, q2⟩ => Calls.spliced_nil ?_)))
  subst ey
  obtain ⟨t, rfl⟩ := ry
  have mo2 := PySem.W.mapOf_K (prog := X.prog) (w := X.w) I2.kIn D.at_ D.lit
  refine call_meetsIn PySem.F.slot_dict_get mo2.typeIs PySem.F.entry_dict_get (PySem.F.args_dict_get_2 _ _) (meets_dict_get (PySem.strKind X.prog X.w) d (PySem.strKind_is X.prog X.w z t) D.low) ⟨_, mo2, ?_⟩
  rw [PySem.W.find_K D.at_ en]
  exact ⟨v, H2, I2.tok _, rv, q2⟩
theorem do_kget1 {d : Addr} {es : Array DictEntry} {kvs : List (Str × D)} (C : KD X.K X.w X.mg x d es n kvs) (hg : Gl X x) (he : DO X e te t) (m : M1 X (.Name x p) "get" apos e pos) (hd : (x == ("__debug__" : Str)) = false := by decide) :
    DO X (.Call (.Attribute (.Name x p) "get" apos) [e] [] pos) (tKGet X.K d te) (dKTGet kvs t) := ⟨pe_kget1 C.k (pe_glob hg C.m rfl hd) he.pe m, fun F T σ H ds fp Q R r c k => by
  refine he.ok F T σ H ds fp _ _ r c fun h ds1 v H1 F1 fp1 q1 c1 p1 => ?_
  obtain ⟨dd, i, c2⟩ := pk_ok p1.rep p1.r c1
  cases dd <;> first | exact False.elim c2 | skip
  rename_i z
  have hz := C.has z
  rw [i.str]
  cases e1 : kvs.lookup z with
  | none =>
    rw [e1] at hz
    have c2 : Q (.tmp ((kvs.lookup z).getD .none)) ds1 := c2
    rw [e1] at c2
    exact ⟨z, none, .non, rfl, hz, rfl, k _ _ _ _ _ _ _ c2 ((Pst.is (p1.rep.less fun _ z => .inl z) .non).pre p1.g p1.t)⟩
  | some dd =>
    rw [e1] at hz
    have c2 : Q (.tmp ((kvs.lookup z).getD .none)) ds1 := c2
    rw [e1] at c2
    obtain ⟨u, v2, e2, ru, iu⟩ := hz
    exact ⟨z, some u, v2, rfl, e2, ru, k _ _ _ _ _ _ _ c2 ((Pst.is (p1.rep.less fun _ z => .inl z) (iu _)).pre p1.g p1.t)⟩⟩
def twoW (K : PySem.W.Frag) (p a b : Addr) (k1 k2 : List (Key × D)) : Wd where
  val := .ref p
  fp := fun c => c = a ∨ c = b
  ok := fun R H => Ls K R p [.ref a, .ref b] ∧ (∃ vs, H a = some (.dK vs) ∧ IsKV K R vs k1) ∧ ∃ vs, H b = some (.dK vs) ∧ IsKV K R vs k2
  mono := by
    rintro R R' H H' e k ⟨h0, ⟨vs, h1, h2⟩, ws, h3, h4⟩
    exact ⟨same_l e h0, ⟨vs, by rw [k _ (.inl rfl)]; exact h1, h2.mono e⟩, ws, by rw [k _ (.inr rfl)]; exact h3, h4.mono e⟩
  dom := by
    rintro R H c ⟨h0, ⟨vs, h1, h2⟩, ws, h3, h4⟩ (rfl | rfl)
    · exact ⟨_, h1, trivial⟩
    · exact ⟨_, h3, trivial⟩
@[simp] def dTwo (K : PySem.W.Frag) (i j : Nat) : DT := fun ds Q => i ≠ j ∧ isDic ds i fun k1 => isDic ds j fun k2 => ∀ p a b, Q (.new (.wd (twoW K p a b k1 k2))) ((ds.set i .no).set j .no)
theorem eok_two : EOk K (tLst (tCons (tVar j1) (tCons (tVar j2) tNil))) (dTwo K j1 j2) := fun F T σ H ds fp Q R rp h kk => by
  obtain ⟨ne, h⟩ := h
  obtain ⟨k1, h1, h⟩ := isDic_inv h
  obtain ⟨k2, h2, h⟩ := isDic_inv h
  obtain ⟨a, vs1, hv1, hf1, hH1, hk1⟩ := rp.slot j1 _ h1
  obtain ⟨b, vs2, hv2, hf2, hH2, hk2⟩ := rp.slot j2 _ h2
  refine ⟨.ref a, by simpa using hv1, .ref b, by simpa using hv2, by rw [sizeLine_eq]; simp, fun p hp => ?_⟩
  have l1 := (List.getElem?_eq_some_iff.mp h1).1
  have l2 := (List.getElem?_eq_some_iff.mp h2).1
  have r1 := rp.take l1
  have r2 := r1.take (i := j2) (by rw [List.length_set]; exact l2)
  obtain ⟨r3, g3, t3⟩ := r2.newF (o := .lst [.ref a, .ref b]) hp trivial
  have na : a ≠ p := fun z => by rw [← z, hH1] at hp; cases hp
  have nb : b ≠ p := fun z => by rw [← z, hH2] at hp; cases hp
  have e2 : (if j2 = j1 then Ad.nil else fp j2) = fp j2 := if_neg (Ne.symm ne)
  rw [e2] at r3
  refine kk _ _ _ _ _ _ (fun c => c = a ∨ c = b) (h p a b) ⟨r3.less ?_, ?_, g3, fun c tc => ?_, rfl, fun _ => Iff.rfl, ?_, ⟨vs1, ?_, hk1.mono g3.same⟩, vs2, ?_, hk2.mono g3.same⟩
  · rintro c (z | z | z)
    · exact .inl (.inl z)
    · exact .inl (.inr ((hf1 c).mpr z))
    · exact .inr ((hf2 c).mpr z)
  · rintro c (rfl | rfl)
    · exact rp.fT j1 _ ((hf1 _).mpr rfl)
    · exact rp.fT j2 _ ((hf2 _).mpr rfl)
  · exact t3 c (.inl (.inl tc))
  · exact .inl (.inl (by rw [res_in (.inr rfl), upd_same]))
  · rw [upd_ne na]; exact hH1
  · rw [upd_ne nb]; exact hH2
theorem do_two {e1 e2 : Expr} (h1 : PE X e1 (tVar j1)) (h2 : PE X e2 (tVar j2)) (hs1 : starEach [e1, e2] X.env = (false, eval e1 X.env) :: starEach [e2] X.env := by rfl) (hs2 : starEach [e2] X.env = (false, eval e2 X.env) :: starEach [] X.env := by rfl) :
    DO X (.List [e1, e2] pos) (tLst (tCons (tVar j1) (tCons (tVar j2) tNil))) (dTwo X.K j1 j2) := ⟨pe_lst (pa_cons h1 (pa_cons h2 pa_nil hs2) hs1), eok_two⟩
/-- k in f()[0] -/
@[simp] def dIn0 (K : PySem.W.Frag) (neg : Bool) (t td : DT) : DT := fun ds Q => t ds fun h ds1 => td ds1 fun h2 ds2 => ∃ p a b k1 k2, h2 = .new (.wd (twoW K p a b k1 k2)) ∧ pk ds2 h fun d => ∃ k, keyD d = some k ∧ Q (.tmp (.bool (if neg then !(valD k1 k).isSome else (valD k1 k).isSome))) ds2
theorem eok_in0 {neg : Bool} (hk : EOk K ty t) (hd : EOk K td u) : EOk K (fun σ H Q => ty σ H fun y H1 => (tOp (rIxL K) td (tC (.int 0))) σ H1 fun x H2 => ∃ a o, x = .ref a ∧ DGet H2 a y o ∧ Q (.bl (if neg then !o.isSome else o.isSome)) H2) (dIn0 K neg t u) := fun F T σ H ds fp Q R rp h kk => by
  refine hk F T σ H ds fp _ _ rp h fun h1 ds1 v1 H1 F1 fp1 q1 k1 p1 => ?_
  refine hd F1 _ σ H1 ds1 fp1 _ _ p1.rep k1 fun h2 ds2 v2 H2 F2 fp2 q2 k2 p2 => ?_
  obtain ⟨p, a, b, ka, kb, rfl, k2⟩ := k2
  obtain ⟨d, i1, key, e1, k3⟩ := pk_ok p2.rep (p1.r.keep p2.g fun a z => p2.t a (.inr z)) k2
  obtain ⟨e2, hf, h0, ⟨vs, hH, hkv⟩, _⟩ := p2.r
  cases e2
  refine ⟨p, _, 0, .ref a, rfl, rfl, (same_l (res_same _ _) h0).sq, rfl, a, valV vs key, rfl, ?_, ?_⟩
  · rw [i1.key e1]; exact DGet.k (k := key) hH
  · rw [hkv.has key]
    exact kk _ _ _ _ _ _ _ k3 ((Pst.bool (p2.rep.less fun a z => .inl (.inl z))).pre (p1.g.trans p2.g) fun a z => (p2.t a (.inl z)).trans (p1.t a z))
end
end DL
namespace DL
open PySem PySem.Spec PyProof.Rows L2
section
variable {X : Cx} {k : Nat} {f : Addr} {fd : FuncData} {ps : List Str} {g : DF} {x : Str} {p pos : Pos}
theorem do_call0 (F : FnOk X.prog X.w X.K X.mg X.base CX0 k f fd ps (spP X.K 0 g)) (hr : Room k X.A) (hg : Gl X x) (hm : X.mg x = some (.ref f)) (hk : PySem.W.keepIn X.K (.ref f) = true) (hb : Binds X.K fd ps [])
    (hdb : (x == ("__debug__" : Str)) = false := by decide) : DO X (.Call (.Name x p) [] [] pos) (tCall (frm (spP X.K 0 g)) [] E0 tNil) (dCall g aNil) :=
  ⟨pe_call0 (frame_fn F) hr hg hm hk hb .nil pass0 hdb, eok_call aok_nil⟩
end
end DL
namespace DL
open PySem PySem.Spec PyProof.Rows L2
def intsW (q : Addr) (ns : List Int) : Wd where
  val := .ref q
  fp := fun a => a = q
  ok := fun _ H => H q = some (.lst (ns.map V.int))
  mono := fun _ k h => by rw [k _ rfl]; exact h
  dom := fun h f => by cases f; exact ⟨_, h, trivial⟩
/-- [e, ..], ints: such a list -/
@[simp] def dInts (t : DTA) : DT := fun ds Q => t ds fun hs ds1 => takes hs ds1 fun dl ds2 => ∃ ns : List Int, dl = ns.map .int ∧ ns.length ≤ 1000 ∧ ∀ q, Q (.new (.wd (intsW q ns))) ds2
/-- xs[k] -/
@[simp] def dIntsIx (j k : Nat) : DT := fun ds Q => wdAt ds j fun w => ∃ q ns i, w = intsW q ns ∧ ns[k]? = some i ∧ Q (.tmp (.int i)) ds
/-- xs[k] = e -/
@[simp] def mInts (j k : Nat) (t : DT) : DM := fun E ds => t ds fun h ds1 => pk ds1 h fun d => ∃ i : Int, d = .int i ∧ wdAt ds1 j fun w => ∃ q ns, w = intsW q ns ∧ k < ns.length ∧ E.nx (ds1.set j (.wd (intsW q (ns.set k i))))
section
variable {X : Cx} {K : PySem.W.Frag} {e e0 : Expr} {es : List Expr} {te : TE} {ta : TA} {t : DT} {td : DTA} {pos p2 : Pos} {j k : Nat} {y : Str} {tg : Expr}
theorem do_ints (a : DA X es ta td) : DO X (.List es pos) (tLst ta) (dInts td) :=
  ⟨pe_lst a.pa, fun F T σ H ds fp Q R rp h k => by
    refine a.ok F T σ H ds fp _ _ rp h fun hs ds1 vs H1 F1 fp1 q1 k1 p1 l1 => ?_
    obtain ⟨dl, ds2, F2, fp2, e2, r2, g2, i2⟩ := takes_ok p1.r .refl p1.rep p1.qT k1
    obtain ⟨ns, rfl, hl, k2⟩ := e2
    have ev := i2.ints
    subst ev
    refine ⟨by rw [List.length_map]; exact Nat.le_of_lt (small1000 hl), fun p hp => ?_⟩
    obtain ⟨r1, g1, t1⟩ := r2.newT (o := .lst (ns.map V.int)) hp trivial
    obtain ⟨nF, nT, nfp⟩ := r2.new_ne hp
    exact k _ _ _ _ _ _ (fun a => a = p) (k2 p) ⟨r1, fun a e => by cases e; exact nT, (p1.g.trans g2).trans g1, fun a z => by rw [t1 a z, p1.t a z], ⟨rfl, fun _ => Iff.rfl, upd_same⟩⟩⟩
theorem do_intsIx (hp : PE X e0 (tOp (rIxL X.K) (tVar j) (tC (.int (k : Nat))))) : DO X e0 (tOp (rIxL X.K) (tVar j) (tC (.int (k : Nat)))) (dIntsIx j k) :=
  ⟨hp, fun F T σ H ds fp Q R rp h kk => by
    obtain ⟨w, hw, q, ns, i, rfl, hi, h2⟩ := wdAt_inv h
    obtain ⟨jv, _, hq⟩ := rp.slot j _ hw
    exact ⟨_, jv, q, _, k, _, rfl, rfl, .of hq, atI_nat (j := k) (by rw [List.getElem?_map, hi]; rfl), kk _ _ _ _ _ _ _ h2 (.here rp (.int i))⟩⟩
theorem ds_ints (a : DO X e te t) (hg : PG X tg (gSub (tVar j) (tC (.int (k : Nat))) rSetL)) (hs : swapsWithSole [tg] e pos.line X.env = pure false := by rfl) (hw : swappedStores [tg] e X.env = pure none := by rfl)
    (h1 : (assignEach [tg] X.env).map (·.2) = [assign tg X.env] := by rfl) : DSt X (.Assign [tg] e pos) (tAsg te (gSub (tVar j) (tC (.int (k : Nat))) rSetL)) (mInts j k t) :=
  ⟨ps_asg a.pe hg hs hw h1, fun F σ H ds fp E D r h kk => by
    refine a.ok F _ σ H ds fp _ _ r h fun h1 ds1 v1 H1 F1 fp1 q1 k1 p1 => ?_
    obtain ⟨d, i, z, rfl, k2⟩ := pk_ok p1.rep p1.r k1
    rw [i.int]
    obtain ⟨w, hw, q, ns, rfl, hk, k3⟩ := wdAt_inv k2
    have r0 : Rep X.K F1 Ad.nil σ H1 ds1 fp1 := p1.rep.less fun a z => z.elim
    obtain ⟨jv, jf, hi⟩ := r0.slot j _ hw
    have fq : fp1 j q := (jf q).mpr rfl
    have hj : j < ds1.length := (List.getElem?_eq_some_iff.mp hw).1
    refine ⟨_, jv, q, _, k, k, rfl, rfl, hi, ?_, ?_⟩
    · unfold ixN
      rw [List.length_map]
      simp
      omega
    have up : ∀ a, a ≠ q → (upd H1 q (.lst ((ns.map V.int).set k (V.int z)))) a = H1 a := fun a ne => upd_ne ne
    have gr : Grow F1 H1 F1 (upd H1 q (.lst ((ns.map V.int).set k (V.int z)))) := fun a f => ⟨f, up a fun e => by subst e; exact r0.fF j _ fq f⟩
    refine kk.nx _ _ _ F1 fp1 k3 ⟨by rw [List.length_set]; exact r0.len, fun i s e => ?_, fun i a z => by rw [List.length_set]; exact r0.out i a z, r0.fF, r0.fT, r0.sep, r0.tF, fun a f => by rw [(gr a f).2]; exact r0.fd a f, fun a z => z.elim⟩ (p1.g.trans gr)
    by_cases hij : i = j
    · subst hij
      rw [List.getElem?_set_self hj] at e; cases e
      exact ⟨jv, jf, by show upd _ _ _ _ = _; rw [upd_same, List.map_set]⟩
    · rw [List.getElem?_set_ne (Ne.symm hij)] at e
      exact (r0.slot i s e).mono gr.same fun a z => up a fun e => by subst e; exact hij (r0.sep i j _ z fq)⟩
end
end DL
namespace DL
open PySem PySem.Spec PyProof.Rows L2
@[simp] def dRevL (t : DT) : DT := fun ds Q => t ds fun h ds1 => pk ds1 h fun d => match d with
  | .list xs => Q (.new (.own xs.reverse)) ds1
  | _ => False
end DL
namespace DL
open PySem PySem.Spec PyProof.Rows L2
section
variable {X : Cx} {i o : Expr} {ty td : TE} {tk t u : DT} {j k0 : Nat} {pos pos' p3 : Pos} {c e : Expr}
theorem db_kninD (hu : X.A.units + 64 < cLine) (hk : DO X i ty tk) (ho : PE X o (tVar j)) (hm : behindInMarks .NotIn o = false := by first | exact nomark _ | rfl) : DB X (.Compare i [.NotIn] [o] pos) (tB (tDNotIn ty (tVar j))) (bT (dKIn true j tk)) :=
  ⟨pt_cmp (pc_dnotin (by omega) hk.pe ho) hm, bt_val (eok_knin hk.ok)⟩
theorem db_in0 (hu : X.A.units + 64 < cLine) (hk : DO X e ty t) (hd : DO X c td u) (hm : behindInMarks .In (.Subscript c (.Constant (.int 0) k0 p3) pos') = false := by first | exact nomark _ | rfl) :
    DB X (.Compare e [.In] [.Subscript c (.Constant (.int 0) k0 p3) pos'] pos) (tB fun σ H Q => ty σ H fun y H1 => (tOp (rIxL X.K) td (tC (.int 0))) σ H1 fun x H2 => ∃ a o, x = .ref a ∧ DGet H2 a y o ∧ Q (.bl (if false then !o.isSome else o.isSome)) H2) (bT (dIn0 X.K false t u)) :=
  ⟨pt_cmp (pc_din (by omega) hk.pe (pe_ix ix_list hd.pe pe_int (fun _ _ => rfl))) hm, bt_val (eok_in0 hk.ok hd.ok)⟩
end
end DL
namespace DL
open PySem PySem.Spec PyProof.Rows L2
/-- a promise that is kept where nothing is being shown -/
structure FnG (P : Program) (w : World) (K : PySem.W.Frag) (mg : Str → Option Value) (base : Heap) (cx : CXT) (lv : Nat) (fa : Addr) (fd : FuncData) (ns : List Str) (pr : Sp) : Prop where
  len : ∀ ws h q e, pr ws h q e → ws.length = ns.length
  run : ∀ (W : Around) (out : List Env) (z : Shared) (h : Hp) (ar : Args) (uv : List Value) (ws : List V) (q : VK) (e : XK), Room lv W → W.guards = some [] →
    Env0 P w K mg base W out z h → BindsTo z fd ar (ns.zip uv) → Vals ws uv → pr ws h q e → codeAny (model P w) W (.call (.ref fa) ar) (CR cx out P w h z q e) z
theorem fnG_of {cx : CXT} {P : Program} {w : World} {K : PySem.W.Frag} {mg : Str → Option Value} {base : Heap} {lv : Nat} {fa : Addr} {nm qn : Str} {pa : Arguments} {bd : List Stmt} {sc : Scope} {dV kV dc pm cv ct oc : Value} {an od : Option Addr} {sl : Array (Option Value)} {N ns : List Str} {pr : Sp}
    (at_ : K.lookup fa = some ⟨oc, od, .func (PySem.W.fnOf nm qn pa bd sc dV kV dc pm an cv ct), sl⟩) (ic : PySem.W.codeIn K cv qn = true) (S : FnScope N ns sc) (len : ∀ ws h q e, pr ws h q e → ws.length = ns.length)
    (body : ∀ (W : Around) (out : List Env) (z : Shared) (h : Hp) (ws : List V) (q : VK) (e : XK), Room lv (W.deeper (envOfC qn sc z.heap.objs.size fa cv)) → (W.deeper (envOfC qn sc z.heap.objs.size fa cv)).guards = some [] → pr ws h q e →
      ∃ t, PSs (cxOf cx P w K mg base N qn sc fa cv W out z h e) bd t ∧ t { nx := fun _ h' => q .non h', rt := q } (start N ws) h) :
    FnG P w K mg base cx (lv + 1) fa (PySem.W.fnOf nm qn pa bd sc dV kV dc pm an cv ct) ns pr := by
  refine ⟨len, ?_⟩
  intro W out z h ar uv ws q e room quiet env bind vals prom
  have many := len _ _ _ _ prom
  have keep0 : ∀ b o, base.get? b = some o → z.heap.get? b = some o := fun b o x => (env.bs b o x).1
  have inK : K.In z.heap := env.mod.kin.keeps keep0
  have noLim : z.heap.NoLimit := env.mod.nolimit.keeps keep0
  refine codeAny_call_function room.depth (inK _ _ at_) rfl S.co S.gen rfl (PySem.W.codeRec_of inK ic) (bind _ _ _ _ ?_)
  refine wpAny_newFunctionEnv_cells S.kind ?_ fun env' he z1 x => ?_
  · rintro ⟨n, v⟩ m
    rcases S.par n (List.of_mem_zip m).1 with loc | cel
    · exact .inl loc
    · exact .inr ⟨cel, PySem.W.cellsFrom_some _ _ _ (.inl cel)⟩
  subst he
  refine ⟨noLim.keeps x.toInCall.keep, codeAny_func ?_⟩
  obtain ⟨t, run, rest⟩ := body W out z h ws q e (room.deeper _) quiet prom
  have J0 := inv_start (CX := cx) (P := P) (E := e) S room.hd env many vals x
  refine wpAny_mono (run.run [] z1 (start N ws) h _ J0 rest) (fun fl z' got => ?_) fun _ _ got => got
  cases fl with
  | brk =>
    obtain ⟨_, _, _, g⟩ := got
    exact g.elim
  | cont =>
    obtain ⟨_, _, _, g⟩ := got
    exact g.elim
  | next =>
    obtain ⟨_, h', J, k⟩ := got
    exact ⟨.non, h', J.os, J.bare, J.base, J.hok, rfl, k⟩
  | ret u =>
    obtain ⟨v, _, h', J, rv, k⟩ := got
    exact ⟨v, h', J.os, J.bare, J.base, J.hok, rv, k⟩
/-- a law's call: the script is laid, nothing else is tracked -/
theorem law_callG {P : Program} {w : World} {K : PySem.W.Frag} {mg mb : Str → Option Value} {cx : CXT} {lv : Nat} {fa a : Addr} {fd : FuncData} {x : Str} {pr : Sp} {z : Shared} {us : List Value} {ns : List Int}
    (inK : K.In z.heap) (main : z.heap.Ns mainGlobals mg) (bt : z.heap.Ns builtinsNs mb) (boot : ∀ y : Str, y ≠ "__name__" → mb y = bootBuiltins y) (noLim : z.heap.NoLimit) (gens : z.gens = #[])
    (scr : z.heap.get? a = some { cls := .type "list", data := .seq us.toArray }) (are : IntsAre us ns) (few : ns.length ≤ sizeLine) (room : Room lv callerA)
    (F : ∀ base : Heap, K.In base → base.Ns mainGlobals mg → FnG P w K mg base cx lv fa fd [x] pr) (bind : ∀ (s : Shared) (u : Value), BindsTo s fd ⟨[u], []⟩ [(x, u)])
    (prom : ∀ h : Hp, Only h → SqL K h a (ns.map V.int) → pr [.ref a] h (fun v _ => v = .bl true) fun _ _ _ => False)
    (noX : ∀ h e z', cx [] h z (fun _ _ _ => False) e z' → False) :
    codeAny (model P w) callerA (.call (.ref fa) ⟨[.ref a], []⟩) (fun r z' => r = .ok (.ret (.bool true)) ∧ OldK z.heap z'.heap ∧ z'.os = z.os ∧ AllBare z'.gens) z := by
  have vi := vals_ints are
  have len := are.length
  have seqA : ∀ {b : Addr} {o : Obj} {es : Array DictEntry} {n : Nat}, z.heap.get? b = some o → o.data = .dict es n → b ≠ a := fun e d q => by
    subst q
    rw [scr] at e
    cases e
    cases (show Data.seq us.toArray _ = Data.dict _ _ from d)
  -- whatever is tracked is the script at most
  have go : ∀ h : Hp, Only h → SqL K h a (ns.map V.int) → HOk P w h z.heap → (∀ b, b ≠ a → h b = none) → (K.lookup a = none ∨ h a = none) →
      codeAny (model P w) callerA (.call (.ref fa) ⟨[.ref a], []⟩) (fun r z' => r = .ok (.ret (.bool true)) ∧ OldK z.heap z'.heap ∧ z'.os = z.os ∧ AllBare z'.gens) z := by
    intro h only sq ok away free
    have put : ∀ {b : Addr} {o : Obj}, z.heap.get? b = some o → h b = none → (hidT z.heap h).get? b = some o := fun e n => hidT_get e n
    have spc : ∀ {b : Addr} {m : Str → Option Value}, z.heap.Ns b m → (hidT z.heap h).Ns b m := fun ⟨o, es, n, e, d, r⟩ => ⟨o, es, n, put e (away _ (seqA e d)), d, r⟩
    have inB : K.In (hidT z.heap h) := fun b o e => by
      refine put (inK b o e) ?_
      by_cases q : b = a
      · subst q
        rcases free with f | f
        · rw [f] at e; cases e
        · exact f
      · exact away b q
    obtain ⟨ml, l1, l2⟩ := noLim
    have md : Mod K mg (hidT z.heap h) := ⟨inB, spc main, ⟨mb, spc bt, boot⟩, ⟨ml, spc l1, l2⟩⟩
    have env : Env0 P w K mg (hidT z.heap h) callerA [] z h := ⟨rfl, md, fun _ _ e => of_hidT e, Nat.le_of_eq (hidT_size _ _), trivial, (fun _ m => (List.not_mem_nil (show _ ∈ ([] : List Addr) from m)).elim), ok, .of_eq gens⟩
    refine codeAny_mono ((F _ inB (spc main)).run callerA [] z h ⟨[.ref a], []⟩ [.ref a] [.ref a] _ _ room rfl env (bind z (.ref a)) (.cons rfl .nil) (prom h only sq)) ?_
    rintro (e | fl) z' got
    · exact (noX h e z' got).elim
    · cases fl with
      | ret u =>
        obtain ⟨v, h', os, bare, un, ok', rv, q⟩ := got
        cases (show v = .bl true from q)
        cases (show u = Value.bool true from rv)
        refine ⟨rfl, OldK.of_keep fun b o e => ?_, os, bare⟩
        cases t : h b with
        | none => exact un.keep b o e t (fun m => List.not_mem_nil (show b ∈ ([] : List Addr) from m)) (by simp)
        | some ho =>
          obtain ⟨ob, xs, f⟩ := (only b).resolve_left (by rw [t]; exact fun e => nomatch e)
          have e1 := (ok b _ f).1
          have e2 := (ok' b _ (un.frzs b ob _ f)).1
          rw [e] at e1
          cases e1
          exact e2
      | _ => exact False.elim got
  cases lk : K.lookup a with
  | some o =>
    have e := inK a o lk
    rw [scr] at e
    cases e
    exact go (fun _ => none) (fun _ => .inl rfl) (.inr ⟨_, us.toArray, _, lk, rfl, rfl, rfl, by rw [List.size_toArray, len]; exact few, by simpa using vi⟩) (fun _ _ e => nomatch (show (none : Option HO) = some _ from e)) (fun _ _ => rfl) (.inr rfl)
  | none =>
    let ob : Obj := { cls := .type "list", data := .seq us.toArray }
    let h : Hp := fun b => if b = a then some (.frz ob (.lst (ns.map V.int))) else none
    have hA : h a = some (.frz ob (.lst (ns.map V.int))) := if_pos rfl
    have hN : ∀ b, b ≠ a → h b = none := fun b q => if_neg q
    refine go h (fun b => ?_) (.inl (.inr ⟨ob, hA⟩)) (fun b u e => ?_) hN (.inl lk)
    · by_cases q : b = a
      · subst q; exact .inr ⟨_, _, hA⟩
      · exact .inl (hN b q)
    · by_cases q : b = a
      · subst q
        rw [hA] at e
        cases e
        exact ⟨scr, by rw [List.length_map]; exact few, us, _, vi, scr⟩
      · rw [hN b q] at e; cases e
end DL
namespace DL
open PySem PySem.Spec PyProof.Rows L2
def rReprT (K : PySem.W.Frag) : List V → Hp → VK → Prop := fun xs H Q => ∃ v ds, xs = [v] ∧ Dp K H v (.tuple ds) ∧ (PyData.showable (.tuple ds) = true ∧ PyData.hasDict (.tuple ds) = false ∧ PyData.depth (.tuple ds) ≤ 60 ∧ (PyData.shown (.tuple ds)).length ≤ sizeLine) ∧ Q (.str (PyData.shown (.tuple ds))) H
theorem call_reprT {X : Cx} (hg : X.A.guards = some []) (hu : X.A.units + 64 < cLine) : CallR X (.builtin "repr") (rReprT X.K) := by
  intro pins s σ H xs us Q I r h
  obtain ⟨v, ds, rfl, hd, ⟨h1, h2, h3, h4⟩, q⟩ := h
  obtain ⟨u, rfl, ru⟩ := vals1 r
  obtain ⟨as, rd⟩ := Dp.reads I _ v u hd ru
  cases hd with
  | tup ha hs =>
    cases ru
    refine repr_of_reads' rd h1 (PyData.noDict_hsm h2) hg (by omega) (fun _ _ e => e) (fun h' t tk k => ?_) h4
    exact ⟨.str _, H, I.kept k, ⟨_, rfl⟩, q⟩
@[simp] def bRepr : DN
  | [.tuple ds], Q => (PyData.showable (.tuple ds) = true ∧ PyData.hasDict (.tuple ds) = false ∧ PyData.depth (.tuple ds) ≤ 60 ∧ (PyData.shown (.tuple ds)).length ≤ sizeLine) ∧ Q (.tmp (.str (PyData.shown (.tuple ds))))
  | _, _ => False
theorem cok_repr {K : PySem.W.Frag} : COk K (rReprT K) bRepr := by
  intro F T σ H ds fp vs dl Q R rp pv h k
  match dl, pv, h with
  | [.tuple xs], pv, h =>
    obtain ⟨v, rfl, i⟩ := one_of pv rfl
    exact ⟨v, xs, rfl, i.is.dp _ h.1.2.1, h.1, k _ _ _ _ _ h.2 (.here rp (.str _))⟩
end DL
namespace DL
open PySem PySem.Spec PyProof.Rows L2
section
variable {P : Program} {w : World} {K : PySem.W.Frag} {mg : Str → Option Value} {base : Heap}
theorem dfunG {x qual : Str} {st : Stmt} {f : Addr} {fd : FuncData} {N ps : List Str} {k : Nat} {g : DF} {tb : DM} (F : Fun K x qual st f fd) (S : FnScope N ps (defScope st))
    (hd : ∀ (cdv : Value) (A : Around) (outer : List Env) (s : Shared) (H : Hp) (E : XK), Room k (A.deeper (envOfC qual (defScope st) s.heap.objs.size f cdv)) → (A.deeper (envOfC qual (defScope st) s.heap.objs.size f cdv)).guards = some [] → ∃ ts, DSs (cxOf CX0 P w K mg base N qual (defScope st) f cdv A outer s H E).nox (defBody st) ts tb)
    (hr : ∀ dl Q, dl.length = ps.length → g dl Q → tb (enF Q) (slots0 N.length dl)) : FnG P w K mg base CX0 (k + 1) f fd ps (spP K ps.length g) := by
  obtain ⟨oc, od, kV, doc, pm, an, cdv, ct, osl, rfl, lk, hcd⟩ := F.ex
  refine fnG_of lk hcd S (fun vs H Q E h => h.1) (fun A outer s H vs Q E hroom hgu h => ?_)
  obtain ⟨hn, F0, dl, ia, sa, W, hg, hk⟩ := h
  obtain ⟨ts, b⟩ := hd cdv A outer s H E hroom hgu
  refine ⟨ts, b.ps.nox, ?_⟩
  have hl : dl.length = ps.length := by rw [← ia.length]; exact hn
  have r := isA_rep sa ia (N.length - vs.length)
  have e1 : (dl.map .val ++ List.replicate (N.length - vs.length) .no : DS) = slots0 N.length dl := by unfold slots0; rw [ia.length]
  rw [e1] at r
  have r : Rep K F0 Ad.nil (start N vs) H (slots0 N.length dl) (fun _ => Ad.nil) := r
  refine b.ok F0 _ H _ _ _ _ r (hr dl W hl hg) ⟨fun σ' H' ds' F' fp' e r' g' => ?_, fun h ds' v σ' H' F' fp' q e p => ?_, fun _ _ _ _ _ e => e.elim, fun _ _ _ _ _ e => e.elim⟩
  · exact hk _ e H' .non F' Ad.nil g' r'.fd (fun _ z => z.elim) ⟨⟨_, rfl, .non⟩, fun _ z => z⟩
  · cases h with
    | tmp d => exact hk _ e H' v F' Ad.nil p.g p.rep.fd (fun _ z => z.elim) ⟨⟨_, rfl, p.r⟩, fun _ z => z⟩
    | new s => exact hk _ e H' v F' q p.g p.rep.fd (fun a z => ⟨p.rep.tF a (.inr z), p.rep.td a (.inr z)⟩) p.r
    | fld _ _ _ => exact False.elim e
    | slot i =>
      have e : retD (.slot i) ds' W := e
      have hv : σ'[i]? = some (some v) := p.r
      cases hs : ds'[i]? with
      | none => simp [retD, hs] at e
      | some s =>
        have z := p.rep.slot i s hs
        cases s with
        | val d =>
          simp [retD, hs] at e
          obtain ⟨⟨v', e1, i1⟩, _⟩ := z
          rw [hv] at e1; cases e1
          exact hk _ e H' v F' Ad.nil p.g p.rep.fd (fun _ z => z.elim) ⟨⟨_, rfl, i1⟩, fun _ z => z⟩
        | own xs =>
          simp [retD, hs] at e
          have z' := z
          obtain ⟨a, vs', e1, e2, e3, e4⟩ := z'
          rw [hv] at z
          exact hk _ e H' v F' (fp' i) p.g p.rep.fd (fun a z => ⟨p.rep.fF i a z, p.rep.fdom z⟩) z
        | no => simp [retD, hs] at e
        | dic _ => simp [retD, hs] at e
        | wd _ => simp [retD, hs] at e
        | ob _ => simp [retD, hs] at e
end
theorem walkDG {l : PySem.W.OpenLaw} {n k : Nat} {q : Program} {loose : List Str} {XP : (Str → Option Value) → Heap → Prop} {YP : World → Heap → Prop} {d : DefRec} {K : Params → PySem.W.Frag} {g : DF} {x : Str}
    (hn : l.most = some n) (hz : n ≤ sizeLine) (hdf : d.params.defaults = []) (hr : Room k callerA) (hY : ∀ w h, YP w h → (K w.params).In h)
    (hg : ∀ ns : List Int, ns.length ≤ n → ∀ P : SD → Prop, P (.val (.bool true)) → g [.list (ns.map .int)] P)
    (hF : ∀ (w : World) (mg : Str → Option Value) (fa : Addr) (h : Heap), (K w.params).In h → h.Ns mainGlobals mg → mg d.name = some (.ref fa) →
      ∃ fd : FuncData, (∀ s u, BindsTo s fd ⟨[u], []⟩ [(x, u)]) ∧ ∀ base : Heap, (K w.params).In base → base.Ns mainGlobals mg → FnG l.prog w (K w.params) mg base CX0 k fa fd [x] (spP (K w.params) 1 g)) :
    PySem.W.WalkO q loose XP YP l.row.toRowW d [] (fun f vs => PySem.call f vs) := by
  refine Att.attach_call hn hdf fun w s0 s1 mg mb fa o pm cd doc a vs ns G Y ho hd hcd hmg hob hin hle hgn => ?_
  have kx := hY w _ Y
  obtain ⟨fd, hb, hf⟩ := hF w mg fa _ kx G.T.g hmg
  refine law_callG kx G.T.g G.T.b G.T.builtins G.T.nolimit hgn hob hin (Nat.le_trans hle hz) hr hf hb (fun H hO hS => spP_law hO ?_ (hg ns hle)) fun _ _ _ h => h
  rcases hS with h | ⟨ob, its, m, hk, -, -, hd, hs, hv⟩
  · exact .inl h
  · have e := kx a ob hk
    rw [hob] at e
    cases e
    cases hd
    exact .inr ⟨_, _, hk, hs, hv⟩
end DL
namespace DL
open PySem PySem.Spec PyProof.Rows L2
section
variable {X : Cx} {K : PySem.W.Frag} {i j l : Nat} {x y z : Str} {a b c : Expr} {ta tb tc : TE} {t u v : DT} {pos px py pz pt pt2 : Pos} {kt k2 : Nat}
theorem ds_par3L (hN : X.N.Nodup) (ha : DO X a ta t) (hb : DO X b tb u) (hcc : DO X c tc v) (hc : X.calm = true := by rfl) (hi : X.N[i]? = some x := by rfl) (hj : X.N[j]? = some y := by rfl) (hl : X.N[l]? = some z := by rfl)
    (hij : i ≠ j := by decide) (hil : i ≠ l := by decide) (hjl : j ≠ l := by decide)
    (hx : X.env.scope.names.lookup x = some .local := by rfl) (hy : X.env.scope.names.lookup y = some .local := by rfl) (hz : X.env.scope.names.lookup z = some .local := by rfl)
    (h1 : starEach [a, b, c] X.env = (false, eval a X.env) :: starEach [b, c] X.env := by rfl) (h2 : starEach [b, c] X.env = (false, eval b X.env) :: starEach [c] X.env := by rfl) (h3 : starEach [c] X.env = (false, eval c X.env) :: starEach [] X.env := by rfl)
    (hw : swappedStores [.Tuple [.Name x px, .Name y py, .Name z pz] kt pt] (.Tuple [a, b, c] k2 pt2) X.env = pure (some [x, y, z]) := by rfl)
    (hs : swapsWithSole [.Tuple [.Name x px, .Name y py, .Name z pz] kt pt] (.Tuple [a, b, c] k2 pt2) pos.line X.env = pure false := by rfl) :
    DSt X (.Assign [.Tuple [.Name x px, .Name y py, .Name z pz] kt pt] (.Tuple [a, b, c] k2 pt2) pos) (tPar3 i j l (tCons ta (tCons tb (tCons tc tNil)))) (mPar3 i j l t u v) := ⟨ps_par3 hc hN hi hj hl hij hil hjl hx hy hz (pa_cons ha.pe (pa_cons hb.pe (pa_cons hcc.pe pa_nil h3) h2) h1) hw hs, fun F σ H ds fp E D r h k => by
  refine ha.ok F _ σ H ds fp _ _ r h fun h1 ds1 v1 H1 F1 fp1 q1 k1 p1 => ?_
  refine hb.ok F1 (Ad.nil.or q1) σ H1 ds1 fp1 _ _ p1.rep k1 fun h2 ds2 v2 H2 F2 fp2 q2 k2 p2 => ?_
  refine hcc.ok F2 ((Ad.nil.or q1).or q2) σ H2 ds2 fp2 _ _ p2.rep k2 fun h3 ds3 v3 H3 F3 fp3 q3 k3 p3 => ?_
  refine ⟨v1, v2, v3, rfl, ?_⟩
  have d12 : ∀ a, q2 a → ¬ q1 a := fun a y x => p2.qT a y (.inr x)
  have d13 : ∀ a, q3 a → ¬ q1 a := fun a y x => p3.qT a y (.inl (.inr x))
  have d23 : ∀ a, q3 a → ¬ q2 a := fun a y x => p3.qT a y (.inr x)
  have x1 := p1.r.keep (p2.g.trans p3.g) fun a z => (p3.t a (.inl (.inr z))).trans (p2.t a (.inr z))
  have x2 := p2.r.keep p3.g fun a z => p3.t a (.inr z)
  have r2 : Rep X.K F3 ((q3.or q2).or q1) σ H3 ds3 fp3 := p3.rep.less fun a z => z.elim (fun z => z.elim .inr fun z => .inl (.inr z)) fun z => .inl (.inl (.inr z))
  obtain ⟨s1, dsA, FA, fpA, qa, eA, rA, subA, gA, soA⟩ := sett_ok r2 (fun a z y => y.elim (fun y => d13 a y z) fun y => d12 a y z) x1 k3
  have rA' : Rep X.K FA ((qa.or q3).or q2) σ H3 dsA fpA := rA.less fun a z => z.elim (fun z => z.elim .inr fun z => .inl (.inl z)) fun z => .inl (.inr z)
  obtain ⟨s2, dsB, FB, fpB, qb, eB, rB, subB, gB, soB⟩ := sett_ok rA' (fun a z y => y.elim (fun y => d12 a z (subA a y)) fun y => d23 a y z) (x2.keep gA fun _ _ => rfl) eA
  have rB' : Rep X.K FB ((qa.or qb).or q3) σ H3 dsB fpB := rB.less fun a z => z.elim (fun z => z.elim (fun z => .inl (.inl z)) .inr) fun z => .inl (.inr z)
  obtain ⟨s3, dsC, FC, fpC, qc, eC, rC, subC, gC, soC⟩ := sett_ok rB' (fun a z y => y.elim (fun y => d13 a z (subA a y)) fun y => d23 a z (subB a y)) (p3.r.keep (gA.trans gB) fun _ _ => rfl) eB
  have rC' : Rep X.K FC ((qc.or qb).or qa) σ H3 dsC fpC := rC.less fun a z => z.elim (fun z => z.elim .inr fun z => .inl (.inr z)) fun z => .inl (.inl z)
  have soA' := soA.mono (gB.trans gC).same fun _ _ => rfl
  have soB' := soB.mono gC.same fun _ _ => rfl
  obtain ⟨e5, fp5, r6⟩ := put_ok rC' (fun a z y => y.elim (fun y => d13 a (subC a y) (subA a z)) fun y => d12 a (subB a y) (subA a z)) soA' eC
  obtain ⟨e6, fp6, r7⟩ := put_ok r6 (fun a z y => d23 a (subC a y) (subB a z)) soB' e5
  have r7' : Rep X.K FC (Ad.nil.or qc) ((σ.set i (some v1)).set j (some v2)) _ ((dsC.set i s1).set j s2) fp6 := r7.less fun a z => z.elim (fun z => z.elim) id
  obtain ⟨e7, fp7, r8⟩ := put_ok r7' (fun _ _ z => z) soC e6
  exact k.nx _ _ _ _ fp7 e7 r8 (((((p1.g.trans p2.g).trans p3.g).trans gA).trans gB).trans gC)⟩
end
end DL
namespace K18
open PySem PySem.Spec PyProof.Rows L2 BK
open DL hiding g_is_between tb_is_between rd_is_between
inductive Tri where
  | add | take | least | most | less | same
inductive Nd where
  | down | up | near
def Tri.s : Tri → Str
  | .add => "add"
  | .take => "take"
  | .least => "least"
  | .most => "most"
  | .less => "less"
  | .same => "same"
def Nd.s : Nd → Str
  | .down => "down"
  | .up => "up"
  | .near => "near"
inductive Lb where
  | p | qq | zoo | alpha | b
def Lb.s : Lb → Str
  | .p => "p"
  | .qq => "qq"
  | .zoo => "zoo"
  | .alpha => "alpha"
  | .b => "b"
inductive Rw where
  | put (c n : Int)
  | copy (c a : Int)
  | file (c i : Int)
  | told (c i : Int)
  | tri (k : Tri) (c a b : Int)
  | times (c m a : Int)
  | share (c a p q : Int) (w : Nd)
  | go (t : Int)
  | jif (a t : Int)
  | bare (i t : Int)
  | note (z : Lb)
  | tell (a : Int) (z : Bool)
  | hangs (i : Int)
@[simp] def Rw.d : Rw → D
  | .put c n => .tuple [.str "put", .int c, .int n]
  | .copy c a => .tuple [.str "copy", .int c, .int a]
  | .file c i => .tuple [.str "file", .int c, .int i]
  | .told c i => .tuple [.str "told", .int c, .int i]
  | .tri k c a b => .tuple [.str k.s, .int c, .int a, .int b]
  | .times c m a => .tuple [.str "times", .int c, .int m, .int a]
  | .share c a p q w => .tuple [.str "share", .int c, .int a, .int p, .int q, .str w.s]
  | .go t => .tuple [.str "go", .int t]
  | .jif a t => .tuple [.str "if", .int a, .int t]
  | .bare i t => .tuple [.str "bare", .int i, .int t]
  | .note z => .tuple [.str "note", .str z.s]
  | .tell a z => .tuple [.str "tell", .int a, .str (if z then "int" else "truth")]
  | .hangs i => .tuple [.str "hangs", .int i]
@[simp] def Rw.goal : Rw → Option Int
  | .go t => some t
  | .jif _ t => some t
  | .bare _ t => some t
  | _ => none
@[simp] def Rw.sets : Rw → Option Int
  | .put c _ => some c
  | .copy c _ => some c
  | .file c _ => some c
  | .told c _ => some c
  | .tri _ c _ _ => some c
  | .times c _ _ => some c
  | .share c _ _ _ _ => some c
  | _ => none
@[simp] def Rw.reads : Rw → List Int
  | .copy _ a => [a]
  | .tri _ _ a b => [a, b]
  | .times _ _ a => [a]
  | .share _ a _ _ _ => [a]
  | .jif a _ => [a]
  | .tell a _ => [a]
  | _ => []
@[simp] def Rw.with : Rw → Int → Rw
  | .go _, g => .go g
  | .jif a _, g => .jif a g
  | .bare i _, g => .bare i g
  | r, _ => r
def cellB (c : Int) : Prop := 0 ≤ c ∧ c ≤ 9
/-- right at this place -/
@[simp] def Rw.Ok (at_ many : Int) : Rw → Prop
  | .put c n => cellB c ∧ -3 ≤ n ∧ n ≤ 10 ^ 20
  | .copy c a => cellB c ∧ cellB a
  | .file c i => cellB c ∧ cellB i
  | .told c i => cellB c ∧ cellB i
  | .tri _ c a b => cellB c ∧ cellB a ∧ cellB b
  | .times c m a => cellB c ∧ (-1 ≤ m ∧ m ≤ 1000) ∧ cellB a
  | .share c a p q _ => cellB c ∧ cellB a ∧ cellB p ∧ (1 ≤ q ∧ q ≤ 9)
  | .go t => at_ + 1 ≤ t ∧ t ≤ many
  | .jif a t => cellB a ∧ at_ + 1 ≤ t ∧ t ≤ many
  | .bare i t => cellB i ∧ at_ + 1 ≤ t ∧ t ≤ many
  | .note _ => True
  | .tell a _ => cellB a
  | .hangs i => cellB i
def cst_MOST_INDEX : D := .int (99)
def cst_MOST_CELL : D := .int (9999)
def cst_ROUNDINGS : D := .tuple [(.str "down"), (.str "up"), (.str "near")]
def cst_FORMS : List (Str × D) := [("put", .str "cn"), ("copy", .str "cc"), ("file", .str "ci"), ("told", .str "ci"), ("add", .str "ccc"), ("take", .str "ccc"), ("least", .str "ccc"), ("most", .str "ccc"), ("times", .str "cmc"), ("share", .str "ccpqw"), ("less", .str "ccc"), ("same", .str "ccc"), ("go", .str "t"), ("if", .str "ct"), ("bare", .str "it"), ("note", .str "l"), ("tell", .str "cs"), ("hangs", .str "i")]
def cst_MOST_ROWS : D := .int (20000)
def cst_SETTING : D := .tuple [(.str "put"), (.str "copy"), (.str "file"), (.str "told"), (.str "add"), (.str "take"), (.str "least"), (.str "most"), (.str "times"), (.str "share"), (.str "less"), (.str "same")]
def cst_JUMPING : D := .tuple [(.str "go"), (.str "if"), (.str "bare")]
inductive MemOk (at_ many : Int) : Str → D → Prop
  | n (i : Int) : MemOk at_ many "n" (.int i)
  | c (i : Int) : 0 ≤ i → i ≤ 9999 → MemOk at_ many "c" (.int i)
  | i (i : Int) : 0 ≤ i → i ≤ 99 → MemOk at_ many "i" (.int i)
  | m (i : Int) : -1000 ≤ i → i ≤ 1000 → MemOk at_ many "m" (.int i)
  | p (i : Int) : 0 ≤ i → i ≤ 1000 → MemOk at_ many "p" (.int i)
  | q (i : Int) : 1 ≤ i → i ≤ 1000 → MemOk at_ many "q" (.int i)
  | t (i : Int) : at_ + 1 ≤ i → i ≤ many → MemOk at_ many "t" (.int i)
  | l (z : Lb) : MemOk at_ many "l" (.str z.s)
  | w (z : Nd) : MemOk at_ many "w" (.str z.s)
  | s (b : Bool) : MemOk at_ many "s" (.str (if b then "int" else "truth"))
def g_is_member : DF := fun dl P => ∃ s v a m, dl = [.str s, v, .int a, .int m] ∧ MemOk a m s v ∧ P (.val (.bool true))
def tb_is_member : DM := (mSeq (mIf (bT (d2 dEq (dVar 0) (dC (.str "n")))) (mRet (dCall g_is_integer (aCons (dVar 1) aNil))) mNil)
    (mSeq (mIf (bT (d2 (dIn false) (dVar 0) (dC (.str "ws")))) (mRet (dAnd (dIsi "str" (dVar 1)) (d2 (dIn false) (dVar 1) (dIf (bT (d2 dEq (dVar 0) (dC (.str "w")))) (dC cst_ROUNDINGS) (dTup (aCons (dC (.str "int")) (aCons (dC (.str "truth")) aNil))))))) mNil)
    (mSeq (mIf (bT (d2 dEq (dVar 0) (dC (.str "l")))) (mRet (dCall g_is_word (aCons (dVar 1) aNil))) mNil)
    (mSeq (mSet 4 (dDisp (aCons (dC (.str "c")) (aCons (dTup (aCons (dC (.int 0)) (aCons (dC cst_MOST_CELL) aNil))) (aCons (dC (.str "i")) (aCons (dTup (aCons (dC (.int 0)) (aCons (dC cst_MOST_INDEX) aNil))) (aCons (dC (.str "m")) (aCons (dTup (aCons (d1 dNeg (dC (.int 1000))) (aCons (dC (.int 1000)) aNil))) (aCons (dC (.str "p")) (aCons (dTup (aCons (dC (.int 0)) (aCons (dC (.int 1000)) aNil))) (aCons (dC (.str "q")) (aCons (dTup (aCons (dC (.int 1)) (aCons (dC (.int 1000)) aNil))) aNil))))))))))))
    (mSeq (mUnp (dKGet2 4 (dVar 0) (dTup (aCons (d2 dAdd (dVar 2) (dC (.int 1))) (aCons (dVar 3) aNil)))) (gTp 2 (gsCons (gNm 5) (gsCons (gNm 6) gsNil))))
    (mRet (dCall g_is_between (aCons (dVar 5) (aCons (dVar 1) (aCons (dVar 6) aNil))))))))))
theorem seq_cut {a b : DM} {E : En} {ds : DS} (M : DS → Prop) (h1 : ∀ k : DS → Prop, (∀ ds1, M ds1 → k ds1) → a { E with nx := k } ds) (h2 : ∀ ds1, M ds1 → b E ds1) : mSeq a b E ds := h1 _ h2
theorem seq1 {a b : DM} {E : En} {ds : DS} (ds1 : DS) (h1 : ∀ k : DS → Prop, k ds1 → a { E with nx := k } ds) (h2 : b E ds1) : mSeq a b E ds := h1 _ h2
theorem seq_no {c : DTT} {t b : DM} {E : En} {ds : DS} (h1 : EvB c ds false) (h2 : b E ds) : mSeq (mIf c t mNil) b E ds := h1 _ (by rw [if_neg Bool.false_ne_true]; exact h2)
theorem seq_yes {c : DTT} {t b u : DM} {E : En} {ds : DS} (h1 : EvB c ds true) (h2 : t { E with nx := b E } ds) : mSeq (mIf c t u) b E ds := h1 _ (by rw [if_pos rfl]; exact h2)
theorem if_no {c : DTT} {t u : DM} {E : En} {ds : DS} (h1 : EvB c ds false) (h2 : u E ds) : mIf c t u E ds := h1 _ (by rw [if_neg Bool.false_ne_true]; exact h2)
theorem if_yes {c : DTT} {t u : DM} {E : En} {ds : DS} (h1 : EvB c ds true) (h2 : t E ds) : mIf c t u E ds := h1 _ (by rw [if_pos rfl]; exact h2)
abbrev twoD (a b : Int) : D := .tuple [.int a, .int b]
def endsK : List (Key × D) := [(.inr "c", twoD 0 9999), (.inr "i", twoD 0 99), (.inr "m", twoD (-1000) 1000), (.inr "p", twoD 0 1000), (.inr "q", twoD 1 1000)]
abbrev dEnds : DT := (dDisp (aCons (dC (.str "c")) (aCons (dTup (aCons (dC (.int 0)) (aCons (dC cst_MOST_CELL) aNil))) (aCons (dC (.str "i")) (aCons (dTup (aCons (dC (.int 0)) (aCons (dC cst_MOST_INDEX) aNil))) (aCons (dC (.str "m")) (aCons (dTup (aCons (d1 dNeg (dC (.int 1000))) (aCons (dC (.int 1000)) aNil))) (aCons (dC (.str "p")) (aCons (dTup (aCons (dC (.int 0)) (aCons (dC (.int 1000)) aNil))) (aCons (dC (.str "q")) (aCons (dTup (aCons (dC (.int 1)) (aCons (dC (.int 1000)) aNil))) aNil)))))))))))
theorem ends_mk {ds : DS} {Q : QE} (h : Q (.new (.dic endsK)) ds) : dEnds ds Q := by
  simp only [dDisp, aCons, dC, dTup, d1, dNeg, aNil, takes, take1, pk, peek]
  refine ⟨endsK, rfl, by decide, ?_⟩
  have e : mergeD [] endsK = endsK := rfl
  rw [e]; exact h
theorem ends_at {a m : Int} {s : Str} {v : D} (h : MemOk a m s v) (h1 : s ≠ "n") (h2 : s ≠ "s") (h3 : s ≠ "w") (h4 : s ≠ "l") : ∃ i lo hi : Int, v = .int i ∧ (valD endsK (.inr s)).getD (twoD (a + 1) m) = twoD lo hi ∧ lo ≤ i ∧ i ≤ hi := by
  cases h with
  | n i => exact absurd rfl h1
  | c i a b => exact ⟨i, 0, 9999, rfl, rfl, a, b⟩
  | i i a b => exact ⟨i, 0, 99, rfl, rfl, a, b⟩
  | m i a b => exact ⟨i, -1000, 1000, rfl, rfl, a, b⟩
  | p i a b => exact ⟨i, 0, 1000, rfl, rfl, a, b⟩
  | q i a b => exact ⟨i, 1, 1000, rfl, rfl, a, b⟩
  | t i x y => exact ⟨i, a + 1, m, rfl, rfl, x, y⟩
  | l z => exact absurd rfl h4
  | w z => exact absurd rfl h3
  | s b => exact absurd rfl h2
theorem eb_eqS {ds : DS} {t : DT} {z w : Str} {b : Bool} (x : EvT t ds (.str z)) (e : decide (z = w) = b := by decide +kernel) : EvB (bT (d2 dEq t (dC (.str w)))) ds b :=
  eb_t (ev_2 x ev_c fun Q q => by subst e; simpa using q)
theorem eb_inS {ds : DS} {t : DT} {z w : Str} {b : Bool} (x : EvT t ds (.str z)) (h : z.cps.size = 1 := by decide +kernel) (e : decide (z.cps.getD 0 0 ∈ w.cps.toList) = b := by decide +kernel) : EvB (bT (d2 (dIn false) t (dC (.str w)))) ds b :=
  eb_t (ev_2 x ev_c fun Q q => by subst e; exact ⟨h, q⟩)
theorem set_ends {E : En} {ds : DS} (k : put 4 (.dic endsK) ds E.nx) : mSet 4 dEnds E ds := by
  unfold mSet
  exact ends_mk k
theorem rest_member {s : Str} {v : D} {a m : Int} {Q : SD → Prop} (h : MemOk a m s v) (h1 : s ≠ "n") (h2 : s ≠ "s") (h3 : s ≠ "w") (h4 : s ≠ "l") (k : Q (.val (.bool true))) : (mSeq (mSet 4 dEnds)
    (mSeq (mUnp (dKGet2 4 (dVar 0) (dTup (aCons (d2 dAdd (dVar 2) (dC (.int 1))) (aCons (dVar 3) aNil)))) (gTp 2 (gsCons (gNm 5) (gsCons (gNm 6) gsNil))))
    (mRet (dCall g_is_between (aCons (dVar 5) (aCons (dVar 1) (aCons (dVar 6) aNil))))))) (enF Q) [.val (.str s), .val v, .val (.int a), .val (.int m), .no, .no, .no] := by
    obtain ⟨i, lo, hi, rfl, e, l1, l2⟩ := ends_at h h1 h2 h3 h4
    refine seq1 [.val (.str s), .val (.int i), .val (.int a), .val (.int m), .dic endsK, .no, .no] (fun k hk => set_ends hk) ?_
    have b : betw lo hi (.int i) = true := by simp [betw, l1, l2]
    refine seq1 [.val (.str s), .val (.int i), .val (.int a), .val (.int m), .dic endsK, .val (.int lo), .val (.int hi)] (fun k hk => ?_) ?_
    · simp
      rw [e]
      simpa using hk
    · simpa [b] using k
theorem ev_inT {ds : DS} {t u : DT} {d : D} {xs : List D} {b : Bool} (x : EvT t ds d) (y : EvT u ds (.tuple xs)) (f1 : flatD d = true) (f2 : xs.all flatD = true) (e : inD d xs = b) : EvT (d2 (dIn false) t u) ds (.bool b) :=
  ev_2 x y fun Q q => by subst e; cases d <;> exact ⟨f1, f2, q⟩
theorem ev_inL {ds : DS} {t u : DT} {d : D} {xs : List D} {b : Bool} (x : EvT t ds d) (y : EvT u ds (.list xs)) (f1 : flatD d = true) (f2 : xs.all flatD = true) (e : inD d xs = b) : EvT (d2 (dIn false) t u) ds (.bool b) :=
  ev_2 x y fun Q q => by subst e; cases d <;> exact ⟨f1, f2, q⟩
theorem ev_isS {ds : DS} {t : DT} {z : Str} (x : EvT t ds (.str z)) : EvT (dIsi "str" t) ds (.bool true) := fun Q k => x _ fun h i => i.pk' (by simpa [isT_str] using k _ .tmp)
theorem ret_v {t : DT} {ds : DS} {d : D} {Q : SD → Prop} (x : EvT t ds d) (n : ∀ xs, d ≠ .list xs) (k : Q (.val d)) : mRet t (enF Q) ds := x _ fun h i => by
  have e := i.pk
  cases h with
  | tmp d' => cases e; exact k
  | slot j =>
    cases hd : ds[j]? with
    | none => simp [hd] at e
    | some s =>
      cases s with
      | val d' => simp [hd] at e; subst e; simpa [retD, hd] using k
      | own xs => simp [hd] at e; exact absurd e.symm (n _)
      | no => simp [hd] at e
      | dic _ => simp [hd] at e
      | wd _ => simp [hd] at e
      | ob _ => simp [hd] at e
  | new s =>
    cases s with
    | val d' => cases e; exact k
    | own xs => cases e; exact absurd rfl (n _)
    | no => cases e
    | dic _ => cases e
    | wd _ => cases e
    | ob _ => cases e
  | fld _ _ _ =>
    simp only [peek] at e
    split at e
    · split at e
      · split at e
        · cases e; exact absurd rfl (n _)
        · cases e
      · cases e
    · cases e
theorem rd_is_member : ∀ dl Q, dl.length = 4 → g_is_member dl Q → tb_is_member (enF Q) (slots0 7 dl) := by
  rintro dl Q - ⟨s, v, a, m, rfl, h, k⟩
  show tb_is_member (enF Q) [.val (.str s), .val v, .val (.int a), .val (.int m), .no, .no, .no]
  have rest := rest_member (Q := Q) h
  unfold tb_is_member
  cases h with
  | n i => exact seq_yes (eb_eqS (ev_v rfl)) (by simpa [intB] using k)
  | l z =>
    refine seq_no (eb_eqS (ev_v rfl)) (seq_no (eb_inS (ev_v rfl)) (seq_yes (eb_eqS (ev_v rfl)) ?_))
    have e : wordB (.str z.s) = true := by cases z <;> decide +kernel
    have f : strFit (.str z.s) := by cases z <;> (show _ ≤ sizeLine) <;> decide +kernel
    simpa [e, f] using k
  | w z =>
    refine seq_no (eb_eqS (ev_v rfl)) (seq_yes (eb_inS (ev_v rfl)) ?_)
    have e : inD (.str z.s) [.str "down", .str "up", .str "near"] = true := by cases z <;> decide +kernel
    exact ret_v (ev_and (ev_isS (ev_v rfl)) fun _ => ev_inT (ev_v rfl) (ev_if (eb_eqS (ev_v rfl) (b := true)) (fun _ => ev_c) (fun h => nomatch h)) rfl (by decide +kernel) e) (fun _ => by simp) k
  | s b =>
    refine seq_no (eb_eqS (ev_v rfl)) (seq_yes (eb_inS (ev_v rfl)) ?_)
    have e : inD (.str (if b then "int" else "truth")) [.str "int", .str "truth"] = true := by cases b <;> decide +kernel
    exact ret_v (ev_and (ev_isS (ev_v rfl)) fun _ => ev_inT (ev_v rfl) (ev_if (eb_eqS (ev_v rfl) (b := false)) (fun h => nomatch h) (fun _ => ev_tup (ev_cons ev_c (ev_cons ev_c ev_nil)))) rfl (by decide +kernel) e) (fun _ => by simp) k
  | _ => exact seq_no (eb_eqS (ev_v rfl)) (seq_no (eb_inS (ev_v rfl)) (seq_no (eb_eqS (ev_v rfl)) (rest (by decide +kernel) (by decide +kernel) (by decide +kernel) (by decide +kernel) k)))
end K18
namespace K18
open PySem PySem.Spec PyProof.Rows L2 BK
open DL hiding g_is_between tb_is_between rd_is_between
def Rw.word : Rw → Str
  | .put _ _ => "put"
  | .copy _ _ => "copy"
  | .file _ _ => "file"
  | .told _ _ => "told"
  | .tri k _ _ _ => k.s
  | .times _ _ _ => "times"
  | .share _ _ _ _ _ => "share"
  | .go _ => "go"
  | .jif _ _ => "if"
  | .bare _ _ => "bare"
  | .note _ => "note"
  | .tell _ _ => "tell"
  | .hangs _ => "hangs"
def Rw.form : Rw → Str
  | .put _ _ => "cn"
  | .copy _ _ => "cc"
  | .file _ _ => "ci"
  | .told _ _ => "ci"
  | .tri k _ _ _ => "ccc"
  | .times _ _ _ => "cmc"
  | .share _ _ _ _ _ => "ccpqw"
  | .go _ => "t"
  | .jif _ _ => "ct"
  | .bare _ _ => "it"
  | .note _ => "l"
  | .tell _ _ => "cs"
  | .hangs _ => "i"
def Rw.args : Rw → List D
  | .put c n => [.int c, .int n]
  | .copy c a => [.int c, .int a]
  | .file c i => [.int c, .int i]
  | .told c i => [.int c, .int i]
  | .tri k c a b => [.int c, .int a, .int b]
  | .times c m a => [.int c, .int m, .int a]
  | .share c a p q w => [.int c, .int a, .int p, .int q, .str w.s]
  | .go t => [.int t]
  | .jif a t => [.int a, .int t]
  | .bare i t => [.int i, .int t]
  | .note z => [.str z.s]
  | .tell a z => [.int a, .str (if z then "int" else "truth")]
  | .hangs i => [.int i]
theorem Rw.d_eq (r : Rw) : r.d = .tuple (.str r.word :: r.args) := by cases r <;> rfl
theorem Rw.forms (r : Rw) : cst_FORMS.lookup r.word = some (.str r.form) := by
  cases r with
  | tri k c a b => cases k <;> rfl
  | _ => rfl
def PairOk (a m : Int) (d : D) : Prop := ∃ s v, d = .tuple [.str s, v] ∧ MemOk a m s v
theorem Rw.pairs {a m : Int} : ∀ {r : Rw}, r.Ok a m → ∀ d ∈ zipD (strItems r.form) r.args, PairOk a m d := by
  intro r h
  have nil : ∀ d ∈ ([] : List D), PairOk a m d := fun _ h => nomatch h
  have cons : ∀ {s v l}, MemOk a m s v → (∀ d ∈ l, PairOk a m d) → ∀ d ∈ ((PyData.tuple [.str s, v]) :: l : List D), PairOk a m d := fun {s v l} x y d hd => by
    rcases List.mem_cons.mp hd with rfl | hd
    · exact ⟨s, v, rfl, x⟩
    · exact y d hd
  cases r with
  | put c n => exact cons (.c c (by have := h.1.1; omega) (by have := h.1.2; omega)) (cons (.n n) nil)
  | copy c x => exact cons (.c c (by have := h.1.1; omega) (by have := h.1.2; omega)) (cons (.c x (by have := h.2.1; omega) (by have := h.2.2; omega)) nil)
  | file c x => exact cons (.c c (by have := h.1.1; omega) (by have := h.1.2; omega)) (cons (.i x (by have := h.2.1; omega) (by have := h.2.2; omega)) nil)
  | told c x => exact cons (.c c (by have := h.1.1; omega) (by have := h.1.2; omega)) (cons (.i x (by have := h.2.1; omega) (by have := h.2.2; omega)) nil)
  | tri k c x y => exact cons (.c c (by have := h.1.1; omega) (by have := h.1.2; omega)) (cons (.c x (by have := h.2.1.1; omega) (by have := h.2.1.2; omega)) (cons (.c y (by have := h.2.2.1; omega) (by have := h.2.2.2; omega)) nil))
  | times c x y => exact cons (.c c (by have := h.1.1; omega) (by have := h.1.2; omega)) (cons (.m x (by have := h.2.1.1; omega) (by have := h.2.1.2; omega)) (cons (.c y (by have := h.2.2.1; omega) (by have := h.2.2.2; omega)) nil))
  | share c x p q w => exact cons (.c c (by have := h.1.1; omega) (by have := h.1.2; omega)) (cons (.c x (by have := h.2.1.1; omega) (by have := h.2.1.2; omega)) (cons (.p p (by have := h.2.2.1.1; omega) (by have := h.2.2.1.2; omega)) (cons (.q q (by have := h.2.2.2.1; omega) (by have := h.2.2.2.2; omega)) (cons (.w w) nil))))
  | go t => exact cons (.t t h.1 h.2) nil
  | jif x t => exact cons (.c x (by have := h.1.1; omega) (by have := h.1.2; omega)) (cons (.t t h.2.1 h.2.2) nil)
  | bare x t => exact cons (.i x (by have := h.1.1; omega) (by have := h.1.2; omega)) (cons (.t t h.2.1 h.2.2) nil)
  | note z => exact cons (.l z) nil
  | tell x z => exact cons (.c x (by have := h.1; omega) (by have := h.2; omega)) (cons (.s z) nil)
  | hangs x => exact cons (.i x (by have := h.1; omega) (by have := h.2; omega)) nil
theorem Rw.flen (r : Rw) : (r.form.length : Int) = r.args.length ∧ r.form.length ≤ 5 := by cases r <;> exact ⟨rfl, Nat.le_of_ble_eq_true rfl⟩
theorem cut1 (x : D) (xs : List D) : DL.cutD (x :: xs) (some 1) none = xs := by
  unfold DL.cutD
  simp [HT.sIx]
theorem shp_str {n : Nat} {z : Str} (h : (PyData.str z).canLay0 = true) : Shp (n + 1) (.str z) := ⟨h, by simp [PyData.depth]⟩
theorem shp_all {n : Nat} {x : D} {xs : List D} (h : Shp n x) (k : ∀ y ∈ xs, Shp n y) : ∀ y ∈ x :: xs, Shp n y := fun y hy => by
  rcases List.mem_cons.mp hy with rfl | hy
  · exact h
  · exact k y hy
theorem shp_nil {n : Nat} : ∀ y ∈ ([] : List D), Shp n y := fun _ h => nomatch h
theorem Rw.shp (r : Rw) : Shp 2 r.d := by
  have t : ∀ k : Tri, (PyData.str k.s).canLay0 = true := fun k => by cases k <;> decide +kernel
  have n : ∀ k : Nd, (PyData.str k.s).canLay0 = true := fun k => by cases k <;> decide +kernel
  have l : ∀ k : Lb, (PyData.str k.s).canLay0 = true := fun k => by cases k <;> decide +kernel
  have b : ∀ z : Bool, (PyData.str (if z then "int" else "truth")).canLay0 = true := fun z => by cases z <;> decide +kernel
  cases r <;> exact Shp.tuple (by repeat' first | exact shp_nil | refine shp_all (by first | exact Shp.int | exact shp_str (t _) | exact shp_str (n _) | exact shp_str (l _) | exact shp_str (b _) | exact shp_str (by decide +kernel)) ?_)
theorem Rw.shaped (r : Rw) : SeqAt.shaped r.d = true := r.shp.shaped
def g_is_row : DF := fun dl P => ∃ (r : Rw) (a m : Int), dl = [r.d, .int a, .int m] ∧ r.Ok a m ∧ P (.val (.bool true))
def ce_is_row_1 : DT := (dCall g_is_member (aCons (dVar 4) (aCons (dVar 5) (aCons (dVar 1) (aCons (dVar 2) aNil)))))
def tb_is_row : DM := (mSeq (mIf (bOr (bNot (bT (dIsi "tuple" (dVar 0)))) (bOr (bT (d2 dEq (dVar 0) (dTup aNil))) (bNot (bT (dIsi "str" (d2 dIx (dVar 0) (dC (.int 0)))))))) (mRet (dC (.bool false))) mNil)
    (mSeq (mSet 3 (dKTGet cst_FORMS (d2 dIx (dVar 0) (dC (.int 0)))))
    (mSeq (mIf (bOr (bT (d2 (dIsN false) (dVar 3) (dC .none))) (bT (d2 dNe (dB bLen (aCons (dVar 0) aNil)) (d2 dAdd (dB bLen (aCons (dVar 3) aNil)) (dC (.int 1)))))) (mRet (dC (.bool false))) mNil)
    (mRet (dB bAll (aCons (dComp (iZg (dVar 3) (dSl (dVar 0) (pSome (dC (.int 1))) pNone)) (gTp 2 (gsCons (gNm 4) (gsCons (gNm 5) gsNil))) cYes ce_is_row_1 [4, 5]) aNil))))))
theorem rd_is_row : ∀ dl Q, dl.length = 3 → g_is_row dl Q → tb_is_row (enF Q) (slots0 6 dl) := by
  rintro dl Q - ⟨r, a, m, rfl, h, k⟩
  have hp := Rw.pairs h
  have hf := r.forms
  obtain ⟨f1, f2⟩ := r.flen
  have hs := r.shaped
  rw [r.d_eq] at hs ⊢
  generalize r.form = F at *
  generalize r.args = xs at *
  generalize r.word = W at *
  clear h
  show tb_is_row (enF Q) [.val (.tuple (.str W :: xs)), .val (.int a), .val (.int m), .no, .no, .no]
  unfold tb_is_row
  have sz : (5 : Nat) ≤ sizeLine := by decide
  refine seq_no (fun Q q => ?_) ?_
  · have e : PyData.eqv (.tuple (.str W :: xs)) (.tuple []) = false := rfl
    have s0 : SeqAt.shaped (.tuple []) = true := rfl
    simpa [isT_tuple, isT_str, e, hs, s0] using q
  refine seq1 [.val (.tuple (.str W :: xs)), .val (.int a), .val (.int m), .val (.str F), .no, .no] (fun k hk => ?_) ?_
  · simpa [hf] using hk
  refine seq_no (fun Q q => ?_) ?_
  · have fl : F.length ≤ sizeLine := by omega
    simpa [fl, f1] using q
  have fl : F.length ≤ sizeLine := by omega
  have zl : (zipD (strItems F) xs).length ≤ sizeLine := by
    unfold zipD
    rw [List.length_map, List.length_zip]
    have : (strItems F).length = F.length := by unfold strItems; rw [List.length_map, Array.length_toList]; rfl
    omega
  simp only [mRet, dB, dComp, iZg, aCons, aNil, dVar]
  simp [fl, zl, cut1]
  refine compD_map (fun _ => .bool true) _ _ _ (fun d hd L hL => ?_) ?_
  · obtain ⟨s, v, rfl, hm⟩ := hp d hd
    simp [ce_is_row_1]
    exact ⟨s, v, a, m, rfl, hm, hL⟩
  · simp
    refine ⟨(zipD (strItems F) xs).map fun _ => true, by simp, ?_⟩
    have e : (((zipD (strItems F) xs).map fun _ => true).all id) = true := by simp
    rw [e]
    simpa using k
end K18
namespace K18
open PySem PySem.Spec PyProof.Rows L2 BK
open DL hiding g_is_between tb_is_between rd_is_between
def rowsD (rs : List Rw) : D := .tuple (rs.map Rw.d)
structure RowsOk (rs : List Rw) : Prop where
  ok : ∀ (i : Nat) (r : Rw), rs[i]? = some r → r.Ok i rs.length
  len : rs.length ≤ 100
def g_is_rows : DF := fun dl P => ∃ rs, dl = [rowsD rs] ∧ RowsOk rs ∧ P (.val (.bool true))
def ce_is_rows_1 : DT := (dCall g_is_row (aCons (dVar 2) (aCons (dVar 1) (aCons (dB bLen (aCons (dVar 0) aNil)) aNil))))
def tb_is_rows : DM := (mSeq (mIf (bOr (bNot (bT (dIsi "tuple" (dVar 0)))) (bT (d2 dGt (dB bLen (aCons (dVar 0) aNil)) (dC cst_MOST_ROWS)))) (mRet (dC (.bool false))) mNil)
    (mRet (dB bAll (aCons (dComp (iEn (dVar 0)) (gTp 2 (gsCons (gNm 1) (gsCons (gNm 2) gsNil))) cYes ce_is_rows_1 [1, 2]) aNil))))
def g_check_rows : DF := fun dl P => ∃ rs, dl = [rowsD rs] ∧ RowsOk rs ∧ P (.val .none)
def tb_check_rows : DM := (mIf (bNot (bT (dCall g_is_rows (aCons (dVar 0) aNil)))) mNever mNil)
theorem rd_check_rows : ∀ dl Q, dl.length = 1 → g_check_rows dl Q → tb_check_rows (enF Q) (slots0 1 dl) := by
  rintro dl Q - ⟨rs, rfl, h, k⟩
  simp [tb_check_rows]
  exact ⟨rs, rfl, h, by simpa using k⟩
def goalD : Option Int → D
  | none => .none
  | some i => .int i
def g_goal_of : DF := fun dl P => ∃ r : Rw, dl = [r.d] ∧ P (.val (goalD r.goal))
@[simp] theorem at_goal_of {r : Rw} {P : SD → Prop} (k : P (.val (goalD r.goal))) : g_goal_of [r.d] P := ⟨r, rfl, k⟩
def tb_goal_of : DM := (mRet (dIf (bT (d2 (dIn false) (d2 dIx (dVar 0) (dC (.int 0))) (dC cst_JUMPING))) (d2 dIx (dVar 0) (d2 dSub (dB bLen (aCons (dVar 0) aNil)) (dC (.int 1)))) (dC .none)))
def jumpB (r : Rw) : Bool := r.goal.isSome
theorem jump_in (r : Rw) : inD (.str r.word) [.str "go", .str "if", .str "bare"] = jumpB r := by
  cases r with
  | tri k c a b => cases k <;> rfl
  | _ => rfl
def setB (r : Rw) : Bool := r.sets.isSome
theorem set_in (r : Rw) : inD (.str r.word) [.str "put", .str "copy", .str "file", .str "told", .str "add", .str "take", .str "least", .str "most", .str "times", .str "share", .str "less", .str "same"] = setB r := by
  cases r with
  | tri k c a b => cases k <;> rfl
  | _ => rfl
theorem Rw.at0 (r : Rw) : atI (.str r.word :: r.args) 0 = some (.str r.word) := atI_nat (j := 0) rfl
theorem Rw.atL (r : Rw) {g : Int} (h : r.goal = some g) : atI (.str r.word :: r.args) (((.str r.word :: r.args : List D).length : Int) - 1) = some (.int g) := by
  cases r <;> simp at h <;> (subst h; rfl)
theorem ev_w {ds : DS} {t : DT} {r : Rw} (x : EvT t ds r.d) : EvT (d2 dIx t (dC (.int 0))) ds (.str r.word) := ev_ixT (by rw [r.d_eq] at x; exact x) ev_c r.at0
theorem ev_jump {ds : DS} {t : DT} {r : Rw} (x : EvT t ds r.d) : EvT (d2 (dIn false) (d2 dIx t (dC (.int 0))) (dC cst_JUMPING)) ds (.bool (jumpB r)) :=
  ev_inT (ev_w x) ev_c rfl (by decide +kernel) (jump_in r)
theorem ev_set {ds : DS} {t : DT} {r : Rw} (x : EvT t ds r.d) : EvT (d2 (dIn false) (d2 dIx t (dC (.int 0))) (dC cst_SETTING)) ds (.bool (setB r)) :=
  ev_inT (ev_w x) ev_c rfl (by decide +kernel) (set_in r)
theorem ev_lenT {ds : DS} {t : DT} {xs : List D} (x : EvT t ds (.tuple xs)) : EvT (dB bLen (aCons t aNil)) ds (.int xs.length) := ev_b (ev_cons x ev_nil) fun Q q => q
theorem rd_goal_of : ∀ dl Q, dl.length = 1 → g_goal_of dl Q → tb_goal_of (enF Q) (slots0 1 dl) := by
  rintro dl Q - ⟨r, rfl, k⟩
  show tb_goal_of (enF Q) [.val r.d]
  have x : EvT (dVar 0) [.val r.d] r.d := ev_v rfl
  unfold tb_goal_of
  refine ret_v (d := goalD r.goal) (ev_if (eb_t (ev_jump x)) (fun h => ?_) (fun h => ?_)) (fun xs e => by cases hg : r.goal <;> rw [hg] at e <;> cases e) k
  · obtain ⟨g, hg⟩ := Option.isSome_iff_exists.mp h
    rw [hg]
    have x2 : EvT (dVar 0) [.val r.d] (.tuple (.str r.word :: r.args)) := ev_v (by rw [← r.d_eq]; rfl)
    exact ev_ixT x2 (ev_sub (ev_lenT x2) ev_c) (r.atL hg)
  · have : r.goal = none := by simpa [jumpB] using h
    rw [this]
    exact ev_c
def Rw.ways (r : Rw) (a : Int) : List Int := match r with
  | .go t => [t]
  | r => match r.goal with
    | none => [a + 1]
    | some g => [a + 1, g]
def isGo : Rw → Bool
  | .go _ => true
  | _ => false
theorem word_go (r : Rw) : decide (r.word = "go") = isGo r := by
  cases r with
  | tri k c a b => cases k <;> rfl
  | _ => rfl
def g_ways_of : DF := fun dl P => ∃ (r : Rw) (a : Int), dl = [r.d, .int a] ∧ P (.own ((r.ways a).map .int))
def tb_ways_of : DM := (mSeq (mSet 2 (dCall g_goal_of (aCons (dVar 0) aNil)))
    (mSeq (mIf (bT (d2 dEq (d2 dIx (dVar 0) (dC (.int 0))) (dC (.str "go")))) (mRet (dLst (aCons (dVar 2) aNil))) mNil)
    (mRet (dIf (bT (d2 (dIsN false) (dVar 2) (dC .none))) (dLst (aCons (d2 dAdd (dVar 1) (dC (.int 1))) aNil)) (dLst (aCons (d2 dAdd (dVar 1) (dC (.int 1))) (aCons (dVar 2) aNil)))))))
theorem rd_ways_of : ∀ dl Q, dl.length = 2 → g_ways_of dl Q → tb_ways_of (enF Q) (slots0 3 dl) := by
  rintro dl Q - ⟨r, a, rfl, k⟩
  show tb_ways_of (enF Q) [.val r.d, .val (.int a), .no]
  unfold tb_ways_of
  refine seq1 [.val r.d, .val (.int a), .val (goalD r.goal)] (fun k hk => ?_) ?_
  · simp
    exact ⟨r, rfl, by simpa using hk⟩
  have x : EvT (dVar 0) [.val r.d, .val (.int a), .val (goalD r.goal)] r.d := ev_v rfl
  cases hg : isGo r with
  | true =>
    obtain ⟨t, rfl⟩ : ∃ t, r = .go t := by
      cases r with
      | go t => exact ⟨t, rfl⟩
      | _ => cases hg
    refine seq_yes (eb_eqS (ev_w x) ((word_go _).trans rfl)) ?_
    simpa [goalD, Rw.ways] using k
  | false =>
    refine seq_no (eb_eqS (ev_w x) ((word_go r).trans hg)) ?_
    have e : r.ways a = match r.goal with
        | none => [a + 1]
        | some g => [a + 1, g] := by
      cases r <;> first | rfl | cases hg
    rw [e] at k
    cases hr : r.goal with
    | none => rw [hr] at k; simpa [goalD] using k
    | some g => rw [hr] at k; simpa [goalD] using k
def g_read_cells : DF := fun dl P => ∃ r : Rw, dl = [r.d] ∧ P (.own (r.reads.map .int))
def cc_read_cells_1 : DTT := (bT (d2 dEq (dVar 3) (dC (.str "c"))))
def ce_read_cells_1 : DT := (dVar 4)
def tb_read_cells : DM := (mSeq (mSet 1 (dKix cst_FORMS (d2 dIx (dVar 0) (dC (.int 0)))))
    (mSeq (mSet 2 (dComp (iZg (dVar 1) (dSl (dVar 0) (pSome (dC (.int 1))) pNone)) (gTp 2 (gsCons (gNm 3) (gsCons (gNm 4) gsNil))) cc_read_cells_1 ce_read_cells_1 [3, 4]))
    (mRet (dIf (bT (d2 (dIn false) (d2 dIx (dVar 0) (dC (.int 0))) (dC cst_SETTING))) (dSl (dVar 2) (pSome (dC (.int 1))) pNone) (dVar 2)))))
def prD (p : Nat × D) : D := .tuple [.str ⟨#[p.1]⟩, p.2]
def cellsR (l : List (Nat × D)) : List D := (l.filter fun p => p.1 == 99).map (·.2)
theorem sign_c (c : Nat) : decide ((⟨#[c]⟩ : Str) = "c") = (c == 99) := by
  have e : ("c" : Str) = ⟨#[99]⟩ := by decide +kernel
  rw [e]
  by_cases h : c = 99
  · subst h; decide +kernel
  · have : ¬ (⟨#[c]⟩ : Str) = ⟨#[99]⟩ := fun z => h (by injection z with z; injection z with z; injection z with z)
    simp [this, h]
theorem comp_cons {g : DGT} {c : DTT} {t : DT} {vs : List Nat} {d : D} {r acc : List D} {ds : DS} {P : List D → DS → Prop}
    (h : g d ds fun ds1 => c ds1 fun b ds2 => if b = true then t ds2 fun h ds3 => take1 h ds3 fun x ds4 => compD g c t vs r (acc ++ [x]) (wipeD ds4 vs) P else compD g c t vs r acc (wipeD ds2 vs) P) : compD g c t vs (d :: r) acc ds P := h
theorem comp_read {s0 s1 s2 : SD} : ∀ (l : List (Nat × D)) (acc : List D) (P : List D → DS → Prop), P (acc ++ cellsR l) [s0, s1, s2, .no, .no] →
    compD (gTp 2 (gsCons (gNm 3) (gsCons (gNm 4) gsNil))) cc_read_cells_1 ce_read_cells_1 [3, 4] (l.map prD) acc [s0, s1, s2, .no, .no] P
  | [], acc, P, h => by
    have h : P (acc ++ []) _ := h
    rw [List.append_nil] at h
    exact h
  | p :: l, acc, P, h => by
    obtain ⟨z, d⟩ := p
    refine comp_cons ?_
    cases hz : (z == 99) with
    | true =>
      have e : acc ++ cellsR ((z, d) :: l) = (acc ++ [d]) ++ cellsR l := by
        unfold cellsR
        rw [List.filter_cons_of_pos (by simpa using hz)]; simp
      rw [e] at h
      have ih := comp_read l (acc ++ [d]) P h
      simp [prD, cc_read_cells_1, ce_read_cells_1, sign_c, hz]
      exact ih
    | false =>
      have e : cellsR ((z, d) :: l) = cellsR l := by
        unfold cellsR
        rw [List.filter_cons_of_neg (by simp [hz])]
      rw [e] at h
      have ih := comp_read l acc P h
      simp [prD, cc_read_cells_1, ce_read_cells_1, sign_c, hz]
      exact ih
def Rw.prs (r : Rw) : List (Nat × D) := r.form.cps.toList.zip r.args
theorem Rw.zips (r : Rw) : zipD (strItems r.form) r.args = r.prs.map prD := by
  unfold zipD strItems Rw.prs
  rw [List.zip_map_left, List.map_map]
  rfl
theorem Rw.cellsOf (r : Rw) : cellsR r.prs = (match r.sets with | some c => [PyData.int c] | none => []) ++ r.reads.map .int := by cases r <;> rfl
theorem rd_read_cells : ∀ dl Q, dl.length = 1 → g_read_cells dl Q → tb_read_cells (enF Q) (slots0 5 dl) := by
  rintro dl Q - ⟨r, rfl, k⟩
  have hf := r.forms
  have hz := r.zips
  have hc := r.cellsOf
  have hi := set_in r
  obtain ⟨f1, f2⟩ := r.flen
  rw [r.d_eq]
  show tb_read_cells (enF Q) [.val (.tuple (.str r.word :: r.args)), .no, .no, .no, .no]
  unfold tb_read_cells
  have sz : (5 : Nat) ≤ sizeLine := by decide
  have fl : r.form.length ≤ sizeLine := by omega
  have zl : (zipD (strItems r.form) r.args).length ≤ sizeLine := by
    unfold zipD
    rw [List.length_map, List.length_zip]
    have : (strItems r.form).length = r.form.length := by unfold strItems; rw [List.length_map, Array.length_toList]; rfl
    omega
  refine seq1 [.val (.tuple (.str r.word :: r.args)), .val (.str r.form), .no, .no, .no] (fun k hk => ?_) ?_
  · simpa [hf] using hk
  refine seq1 [.val (.tuple (.str r.word :: r.args)), .val (.str r.form), .own (cellsR r.prs), .no, .no] (fun k hk => ?_) ?_
  · simp only [mSet, dComp, iZg, dVar]
    simp [fl, zl, cut1, -List.length_map]
    rw [hz]
    refine comp_read _ _ _ ?_
    simpa using hk
  have x : EvT (dVar 0) [.val (.tuple (.str r.word :: r.args)), .val (.str r.form), .own (cellsR r.prs), .no, .no] r.d := ev_v (by rw [r.d_eq]; rfl)
  have t := eb_t (ev_set x)
  simp only [mRet, dIf]
  refine t _ ?_
  cases hs : r.sets with
  | none =>
    have e : setB r = false := by unfold setB; rw [hs]; rfl
    rw [hs] at hc
    rw [if_neg (by rw [e]; exact Bool.false_ne_true)]
    simp [hc]
    exact k
  | some c =>
    have e : setB r = true := by unfold setB; rw [hs]; rfl
    rw [hs] at hc
    rw [if_pos e]
    have hc : cellsR r.prs = .int c :: r.reads.map .int := hc
    simp [hc, cut1]
    exact k
theorem mem_enumF : ∀ {xs : List D} {k : Nat} {d : D}, d ∈ enumF k xs → ∃ i x, xs[i]? = some x ∧ d = .tuple [.int ((k + i : Nat) : Int), x]
  | [], _, _, h => nomatch h
  | x :: xs, k, d, h => by
    rcases List.mem_cons.mp h with rfl | h
    · exact ⟨0, x, rfl, rfl⟩
    · obtain ⟨i, y, e, rfl⟩ := mem_enumF h
      exact ⟨i + 1, y, e, by rw [show k + 1 + i = k + (i + 1) by omega]⟩
theorem rd_is_rows : ∀ dl Q, dl.length = 1 → g_is_rows dl Q → tb_is_rows (enF Q) (slots0 3 dl) := by
  rintro dl Q - ⟨rs, rfl, h, k⟩
  have sz : (100 : Nat) ≤ sizeLine := by decide
  have ll := h.len
  have l1 : (rs.map Rw.d).length ≤ sizeLine := by rw [List.length_map]; omega
  have lL : rs.length ≤ sizeLine := by omega
  have nn : ¬ (20000 : Int) < (rs.length : Int) := by omega
  show tb_is_rows (enF Q) [.val (rowsD rs), .no, .no]
  unfold tb_is_rows
  refine seq_no (fun Q q => ?_) ?_
  · simpa [rowsD, isT_tuple, cst_MOST_ROWS, nn, lL] using q
  simp only [mRet, dB, dComp, iEn, aCons, aNil, dVar]
  simp [rowsD, enumF_len, lL]
  refine compD_map (fun _ => .bool true) _ _ _ (fun d hd L hL => ?_) ?_
  · obtain ⟨i, x, e, rfl⟩ := mem_enumF hd
    rw [List.getElem?_map] at e
    obtain ⟨r, e1, rfl⟩ := Option.map_eq_some_iff.mp e
    have ho := h.ok i r e1
    simp [ce_is_rows_1, -Rw.d]
    exact ⟨r, i, rs.length, by simp, ho, hL⟩
  · refine ⟨(enumD (rs.map Rw.d)).map fun _ => true, by simp, ?_⟩
    have e : (((enumD (rs.map Rw.d)).map fun _ => true).all id) = true := by simp
    rw [e]
    simpa using k
end K18
namespace K18.L17
open PySem PySem.Spec PyProof.Rows L2 BK
abbrev Kn := List (Int × Int)
def getK (m : Kn) (c : Int) : Option Int := (m.find? fun p => decide (p.1 = c)).map (·.2)
def keysN (m : Kn) : Prop := (m.map (·.1)).Nodup
def goneL (m : Kn) (c : Int) : Kn := m.filter fun p => decide (p.1 ≠ c)
def metL (a b : Kn) : Kn := a.filter fun p => decide (getK b p.1 = some p.2)
def ndiv (t b : Int) : Nd → Int
  | .down => t.fdiv b
  | .up => -((-t).fdiv b)
  | .near => (2 * t + b).fdiv (2 * b)
def triOp : Tri → Int → Int → Int
  | .add, a, b => a + b
  | .take, a, b => a - b
  | .least, a, b => min a b
  | .most, a, b => max a b
  | .less, a, b => if a < b then 1 else 0
  | .same, a, b => if a = b then 1 else 0
def reckB : Rw → Bool
  | .copy _ _ => true
  | .tri _ _ _ _ => true
  | .times _ _ _ => true
  | .share _ _ _ _ _ => true
  | _ => false
/-- what the row reckons of what it reads -/
def reck : Rw → List Int → Option Int
  | .copy _ _, [x] => some x
  | .tri k _ _ _, [x, y] => some (triOp k x y)
  | .times _ m _, [x] => some (m * x)
  | .share _ _ p q w, [x] => some (ndiv (x * p) q w)
  | _, _ => none
def allSome : List (Option Int) → Option (List Int)
  | [] => some []
  | some x :: l => (allSome l).map (x :: ·)
  | none :: _ => none
def told (r : Rw) (g : Int → Option Int) : Option Int := match r with
  | .put _ n => some n
  | r => (allSome (r.reads.map g)).bind (reck r)
def foldR (r : Rw) (a : Int) (g : Int → Option Int) : Rw := match r with
  | .jif c t => match g c with
    | some v => .go (if v ≠ 0 then t else a + 1)
    | none => r
  | r => match r.sets, told r g with
    | some c, some v => .put c v
    | _, _ => r
def behindK (r : Rw) (m : Kn) : Kn := match r.sets with
  | none => m
  | some c => match told r (getK m) with
    | none => goneL m c
    | some v => goneL m c ++ [(c, v)]
abbrev Kt := Int → Option Kn
def meet1 (srt : Kn → Kn) (b : Kn) : Option Kn → Kn
  | none => srt b
  | some a => metL a b
def putT (kn : Kt) (i : Int) (m : Kn) : Kt := fun j => if j = i then some m else kn j
def spread (srt : Kn → Kn) (b : Kn) (kn : Kt) (l : List Int) : Kt := l.foldl (fun kn i => putT kn i (meet1 srt b (kn i))) kn
def stepT (srt : Kn → Kn) (r : Rw) (a : Int) (kn : Kt) : Rw × Kt := match kn a with
  | none => (r, kn)
  | some m => (foldR r a (getK m), spread srt (behindK r m) kn ((foldR r a (getK m)).ways a))
def runF (srt : Kn → Kn) : List Rw → Int → Kt → List Rw
  | [], _, _ => []
  | r :: rs, a, kn => (stepT srt r a kn).1 :: runF srt rs (a + 1) (stepT srt r a kn).2
theorem get_mem {m : Kn} (h : keysN m) {c v : Int} : getK m c = some v ↔ (c, v) ∈ m := by
  induction m with
  | nil => simp [getK]
  | cons p m ih =>
    have h2 : p.1 ∉ m.map (·.1) ∧ keysN m := List.nodup_cons.mp h
    unfold getK
    rw [List.find?_cons]
    by_cases e : p.1 = c
    · rw [decide_eq_true e]
      constructor
      · intro z
        have : p.2 = v := by simpa using z
        subst e; subst this
        exact List.mem_cons_self
      · intro z
        rcases List.mem_cons.mp z with z | z
        · rw [← z]; rfl
        · exact absurd (List.mem_map.mpr ⟨_, z, e.symm⟩) h2.1
    · rw [decide_eq_false e]
      refine Iff.trans (ih h2.2) ⟨List.mem_cons_of_mem _, fun z => ?_⟩
      rcases List.mem_cons.mp z with z | z
      · exact absurd (by rw [← z]) e
      · exact z
theorem get_ext {a b : Option Int} (h : ∀ v, a = some v ↔ b = some v) : a = b := by
  cases a with
  | some v => exact ((h v).mp rfl).symm
  | none => cases b with
    | none => rfl
    | some v => exact absurd ((h v).mpr rfl) (by simp)
theorem get_perm {a b : Kn} (p : a.Perm b) (h : keysN a) (c : Int) : getK a c = getK b c := by
  have hb : keysN b := (p.map _).nodup_iff.mp h
  exact get_ext fun v => by rw [get_mem h, get_mem hb, p.mem_iff]
theorem keys_filter {m : Kn} (q : Int × Int → Bool) (h : keysN m) : keysN (m.filter q) := h.sublist (List.filter_sublist.map _)
theorem keys_gone {m : Kn} (h : keysN m) (c : Int) : keysN (goneL m c) := keys_filter _ h
theorem keys_met {a b : Kn} (h : keysN a) : keysN (metL a b) := keys_filter _ h
theorem keys_app {m : Kn} (h : keysN m) (c v : Int) : keysN (goneL m c ++ [(c, v)]) := by
  unfold keysN
  rw [List.map_append]
  refine List.nodup_append.mpr ⟨keys_gone h c, by simp, fun x hx y hy => ?_⟩
  obtain ⟨p, hp, rfl⟩ := List.mem_map.mp hx
  have hy : y = c := by simpa using hy
  have := (List.mem_filter.mp hp).2
  subst hy
  simpa using this
theorem keys_behind {r : Rw} {m : Kn} (h : keysN m) : keysN (behindK r m) := by
  unfold behindK
  split
  · exact h
  · split
    · exact keys_gone h _
    · exact keys_app h _ _
theorem get_gone {m : Kn} (h : keysN m) (c x : Int) : getK (goneL m c) x = if x = c then none else getK m x := by
  refine get_ext fun v => ?_
  rw [get_mem (keys_gone h c)]
  by_cases e : x = c
  · simp [goneL, e]
  · rw [if_neg e, get_mem h]
    simp [goneL, e]
theorem get_app {m : Kn} (h : keysN m) (c v x : Int) : getK (goneL m c ++ [(c, v)]) x = if x = c then some v else getK m x := by
  refine get_ext fun w => ?_
  rw [get_mem (keys_app h c v)]
  by_cases e : x = c
  · simp [goneL, e, eq_comm]
  · rw [if_neg e, get_mem h]
    simp [goneL, e]
theorem get_met {a b : Kn} (h : keysN a) (c v : Int) : getK (metL a b) c = some v ↔ getK a c = some v ∧ getK b c = some v := by
  rw [get_mem (keys_met h), get_mem h]
  simp [metL]
theorem get_behind {r : Rw} {m : Kn} (h : keysN m) (x : Int) : getK (behindK r m) x = match r.sets with
    | none => getK m x
    | some c => if x = c then told r (getK m) else getK m x := by
  unfold behindK
  split
  · rfl
  · rename_i c e
    cases ht : told r (getK m) with
    | none => exact get_gone h c x
    | some v => exact get_app h c v x
theorem told_eq {r : Rw} {g g' : Int → Option Int} (h : ∀ c ∈ r.reads, g c = g' c) : told r g = told r g' := by
  have e : r.reads.map g = r.reads.map g' := List.map_congr_left h
  cases r <;> first | rfl | (simp only [told]; rw [e])
theorem foldR_eq {r : Rw} {a : Int} {g g' : Int → Option Int} (h : ∀ c ∈ r.reads, g c = g' c) : foldR r a g = foldR r a g' := by
  have e := told_eq h
  cases r with
  | jif c t =>
    have e2 : g c = g' c := h c (by simp)
    simp only [foldR, e2]
  | _ => simp only [foldR]; rw [e]
structure RK (C : Int → Prop) (a b : Kn) : Prop where
  l : keysN a
  r : keysN b
  eq : ∀ c, C c → getK a c = getK b c
theorem RK.behind {C : Int → Prop} {a b : Kn} {r : Rw} (h : RK C a b) (hr : ∀ c ∈ r.reads, C c) : RK C (behindK r a) (behindK r b) :=
  ⟨keys_behind h.l, keys_behind h.r, fun c hc => by
    rw [get_behind h.l, get_behind h.r, h.eq c hc, told_eq (g := getK a) (g' := getK b) fun c hc => h.eq c (hr c hc)]⟩
theorem RK.met {C : Int → Prop} {a b a' b' : Kn} (h : RK C a a') (k : RK C b b') : RK C (metL a b) (metL a' b') :=
  ⟨keys_met h.l, keys_met h.r, fun c hc => get_ext fun v => by rw [get_met h.l, get_met h.r, h.eq c hc, k.eq c hc]⟩
theorem RK.srt {C : Int → Prop} {a b : Kn} (h : RK C a b) {a' b' : Kn} (p : a'.Perm a) (q : b'.Perm b) : RK C a' b' :=
  ⟨(p.map _).nodup_iff.mpr h.l, (q.map _).nodup_iff.mpr h.r, fun c hc => by
    rw [get_perm p ((p.map _).nodup_iff.mpr h.l), get_perm q ((q.map _).nodup_iff.mpr h.r), h.eq c hc]⟩
def RO (C : Int → Prop) : Option Kn → Option Kn → Prop
  | none, none => True
  | some a, some b => RK C a b
  | _, _ => False
theorem RO.put {C : Int → Prop} {kn kn' : Kt} (h : ∀ i, RO C (kn i) (kn' i)) (i : Int) {a b : Kn} (k : RK C a b) : ∀ j, RO C (putT kn i a j) (putT kn' i b j) := fun j => by
  unfold putT
  split
  · exact k
  · exact h j
theorem RO.meet {C : Int → Prop} {s s' : Kn → Kn} (p : ∀ a, (s a).Perm a) (p' : ∀ a, (s' a).Perm a) {b b' : Kn} (k : RK C b b') : ∀ {o o' : Option Kn}, RO C o o' → RK C (meet1 s b o) (meet1 s' b' o')
  | none, none, _ => k.srt (p _) (p' _)
  | some _, some _, h => RK.met h k
  | none, some _, h => h.elim
  | some _, none, h => h.elim
theorem RO.spread {C : Int → Prop} {s s' : Kn → Kn} (p : ∀ a, (s a).Perm a) (p' : ∀ a, (s' a).Perm a) {b b' : Kn} (k : RK C b b') : ∀ (l : List Int) {kn kn' : Kt}, (∀ i, RO C (kn i) (kn' i)) → ∀ i, RO C (spread s b kn l i) (spread s' b' kn' l i)
  | [], _, _, h => h
  | x :: l, _, _, h => RO.spread p p' k l (RO.put h x (RO.meet p p' k (h x)))
theorem run_eq {C : Int → Prop} {s s' : Kn → Kn} (p : ∀ a, (s a).Perm a) (p' : ∀ a, (s' a).Perm a) : ∀ (rs : List Rw) (a : Int) {kn kn' : Kt}, (∀ r ∈ rs, ∀ c ∈ r.reads, C c) → (∀ i, RO C (kn i) (kn' i)) → runF s rs a kn = runF s' rs a kn'
  | [], _, _, _, _, _ => rfl
  | r :: rs, a, kn, kn', hr, h => by
    have h0 := h a
    have hr0 := hr r List.mem_cons_self
    have ht : ∀ r ∈ rs, ∀ c ∈ r.reads, C c := fun x hx => hr x (List.mem_cons_of_mem _ hx)
    unfold runF stepT
    cases e : kn a with
    | none => cases e' : kn' a with
      | none =>
        dsimp only
        rw [run_eq p p' rs (a + 1) ht h]
      | some m => rw [e, e'] at h0; exact h0.elim
    | some m => cases e' : kn' a with
      | none => rw [e, e'] at h0; exact h0.elim
      | some m' =>
        rw [e, e'] at h0
        have k : RK C m m' := h0
        have ef : foldR r a (getK m) = foldR r a (getK m') := foldR_eq fun c hc => k.eq c (hr0 c hc)
        dsimp only
        rw [ef]
        refine congrArg _ (run_eq p p' rs (a + 1) ht ?_)
        exact RO.spread p p' (k.behind hr0) _ h
def zerosK (cs : List Int) : Kn := cs.map fun c => (c, 0)
def kn0 (m : Kn) : Kt := fun i => if i = 0 then some m else none
theorem zeros_keys {cs : List Int} (h : cs.Nodup) : keysN (zerosK cs) := by
  unfold keysN zerosK
  rw [List.map_map]
  have e : ((fun x : Int × Int => x.1) ∘ fun c => (c, (0 : Int))) = id := rfl
  rw [e, List.map_id]
  exact h
theorem kn0_rel {C : Int → Prop} {m m' : Kn} (h : keysN m) (h' : keysN m') (e : ∀ c, C c → getK m c = getK m' c) : ∀ i, RO C (kn0 m i) (kn0 m' i) := fun i => by
  unfold kn0
  split
  · exact ⟨h, h', e⟩
  · trivial
def Fit (B : Nat) (kn : Kt) : Prop := ∀ i m, kn i = some m → keysN m ∧ m.length ≤ B
theorem len_behind (r : Rw) (m : Kn) : (behindK r m).length ≤ m.length + 1 := by
  have l : ∀ c, (goneL m c).length ≤ m.length := fun c => List.length_filter_le _ _
  unfold behindK
  split
  · omega
  · rename_i c e
    have := l c
    split
    · omega
    · rw [List.length_append]; simp; omega
theorem len_met (a b : Kn) : (metL a b).length ≤ a.length := List.length_filter_le _ _
theorem Fit.meet {s : Kn → Kn} (p : ∀ a, (s a).Perm a) {b : Kn} {B : Nat} (k : keysN b) (hb : b.length ≤ B) : ∀ {o : Option Kn}, (∀ m, o = some m → keysN m ∧ m.length ≤ B) → keysN (meet1 s b o) ∧ (meet1 s b o).length ≤ B
  | none, _ => ⟨((p b).map _).nodup_iff.mpr k, by show (s b).length ≤ B; rw [(p b).length_eq]; exact hb⟩
  | some a, h => ⟨keys_met (h a rfl).1, Nat.le_trans (len_met a b) (h a rfl).2⟩
theorem Fit.spread {s : Kn → Kn} (p : ∀ a, (s a).Perm a) {b : Kn} {B : Nat} (k : keysN b) (hb : b.length ≤ B) : ∀ (l : List Int) {kn : Kt}, Fit B kn → Fit B (spread s b kn l)
  | [], _, h => h
  | x :: l, kn, h => Fit.spread p k hb l fun i m e => by
    dsimp only [putT] at e
    by_cases hi : i = x
    · rw [if_pos hi] at e; cases e; exact Fit.meet p k hb (h x)
    · rw [if_neg hi] at e; exact h i m e
theorem Fit.step {s : Kn → Kn} (p : ∀ a, (s a).Perm a) {B : Nat} {r : Rw} {a : Int} {kn : Kt} (h : Fit B kn) : Fit (B + 1) (stepT s r a kn).2 := by
  have h1 : Fit (B + 1) kn := fun i m e => ⟨(h i m e).1, by have := (h i m e).2; omega⟩
  unfold stepT
  split
  · exact h1
  · rename_i m e
    exact Fit.spread p (keys_behind (h a m e).1) (by have := len_behind r m; have := (h a m e).2; omega) _ h1
end K18.L17
namespace DL
open PySem PySem.Spec PyProof.Rows L2
section
variable {X : Cx} {e : Expr} {t : TE}
/-- what stands there is locked for good -/
def tFz (t : TE) : TE := fun σ H Q => t σ H fun v H1 => ∃ d u, v = .ref d ∧ H1 d = some u ∧ Mut (some u) ∧ ∀ od, Q v (upd H1 d (.frz od u))
theorem pe_fz (h : PE X e t) : PE X e (tFz t) := by
  refine ⟨fun pins s σ H Q I hw => ?_⟩
  refine thn (h.run pins s σ H _ I hw) fun v s1 ⟨x, H1, I1, r, d, u, e, hd, mu, q⟩ => ?_
  obtain ⟨od, I2⟩ := I1.lock hd mu
  exact ⟨x, _, I2, r, q od⟩
end
section
variable {X : Cx} {K : PySem.W.Frag} {F T q : Ad} {σ : Sl} {H : Hp} {ds : DS} {fp : Nat → Ad} {te tk td ty : TE} {t u : DT} {e o i tg : Expr} {j : Nat} {pos apos cpos : Pos}
theorem fz_core {a : Addr} {od : Obj} {vs : List (Key × V)} {kvs : List (Key × D)} (r : Rep K F (T.or q) σ H ds fp) (hf : ∀ b, q b ↔ b = a) (nT : ∀ b, q b → ¬ T b) (hH : H a = some (.dK vs)) (hkv : IsKV K (res F H) vs kvs) :
    Rep K (F.or q) T σ (upd H a (.frz od (.dK vs))) ds fp ∧ Grow F H (F.or q) (upd H a (.frz od (.dK vs))) ∧ (∀ b, T b → upd H a (.frz od (.dK vs)) b = H b) ∧ Is K (res (F.or q) (upd H a (.frz od (.dK vs)))) (.ref a) (.dict (kvD kvs)) := by
  have qa : q a := (hf a).mpr rfl
  have up : ∀ b, b ≠ a → upd H a (.frz od (.dK vs)) b = H b := fun b ne => upd_ne ne
  have nF : ∀ b, F b → b ≠ a := fun b f z => r.tF a (.inr qa) (z ▸ f)
  have nTa : ∀ b, T b → b ≠ a := fun b t z => nT a qa (z ▸ t)
  have g : Grow F H (F.or q) (upd H a (.frz od (.dK vs))) := fun b f => ⟨.inl f, up b (nF b f)⟩
  refine ⟨r.go g (fun i b h => ⟨up b fun z => ?_, ?_, fun t => r.fT i b h (.inl t)⟩) (fun b t => ?_) (fun b f => ?_) (fun b t => ?_), g, fun b t => up b (nTa b t), ?_⟩
  · exact r.fT i a (z ▸ h) (.inr qa)
  · rintro (f | f)
    · exact r.fF i b h f
    · exact r.fT i b h (.inr f)
  · rintro (f | f)
    · exact r.tF b (.inl t) f
    · exact nT b f t
  · rcases f with f | f
    · rw [up b (nF b f)]; exact r.fd b f
    · rw [(hf b).mp f, upd_same]; exact ⟨_, rfl, trivial⟩
  · rw [up b (nTa b t)]; exact r.td b (.inl t)
  · refine .dic (o := od) ?_ (hkv.mono g.same).isP
    rw [res_in (.inr qa), upd_same]
/-- a new dict, handed on as data -/
@[simp] def dFz (t : DT) : DT := fun ds Q => t ds fun h ds1 => ∃ kvs, h = .new (.dic kvs) ∧ Q (.tmp (.dict (kvD kvs))) ds1
theorem eok_fz (h : EOk K te t) : EOk K (tFz te) (dFz t) := fun F T σ H ds fp Q R rp e k => by
  refine h F T σ H ds fp _ _ rp e fun h1 ds1 v1 H1 F1 fp1 q1 k1 p1 => ?_
  obtain ⟨kvs, rfl, k2⟩ := k1
  obtain ⟨a, vs, hv, hf, hH, hkv⟩ := p1.r
  cases hv
  refine ⟨a, .dK vs, rfl, hH, trivial, fun od => ?_⟩
  obtain ⟨r2, g2, t2, is⟩ := fz_core (od := od) p1.rep hf p1.qT hH hkv
  exact k _ _ _ _ _ _ _ k2 ((Pst.here (h := .tmp (.dict (kvD kvs))) r2 is).pre (p1.g.trans g2) fun b tb => (t2 b tb).trans (p1.t b tb))
theorem do_fz (h : DO X e te t) : DO X e (tFz te) (dFz t) := ⟨pe_fz h.pe, eok_fz h.ok⟩
/-- a dict by its name, handed on as data: the name is done with -/
@[simp] def dFzV (j : Nat) : DT := fun ds Q => isDic ds j fun kvs => Q (.tmp (.dict (kvD kvs))) (ds.set j .no)
theorem Rep.giveT {s : SD} (r : Rep K F T σ H ds fp) (hj : ds[j]? = some s) (hb : ∀ a, fp j a → ∃ o, H a = some o ∧ bigO o) : Rep K F (T.or (fp j)) σ H (ds.set j .no) (fun i => if i = j then Ad.nil else fp i) := by
  have hi : j < ds.length := (List.getElem?_eq_some_iff.mp hj).1
  have ne : ∀ i a, (if i = j then Ad.nil else fp i) a → i ≠ j ∧ fp i a := fun i a z => by
    by_cases h : i = j
    · rw [if_pos h] at z; exact z.elim
    · rw [if_neg h] at z; exact ⟨h, z⟩
  refine ⟨by rw [List.length_set]; exact r.len, fun i s' e => ?_, fun i a z => ?_, fun i a z => r.fF i a (ne i a z).2, fun i a z => ?_, fun i k a z z' => r.sep i k a (ne i a z).2 (ne k a z').2, fun a t => ?_, r.fd, fun a t => ?_⟩
  · by_cases h : i = j
    · subst h
      rw [List.getElem?_set_self hi] at e; cases e
      rw [if_pos rfl]
      exact fun _ z => z
    · rw [List.getElem?_set_ne (Ne.symm h)] at e
      rw [if_neg h]
      exact r.slot i s' e
  · rw [List.length_set]; exact r.out i a (ne i a z).2
  · rintro (t | t)
    · exact r.fT i a (ne i a z).2 t
    · exact (ne i a z).1 (r.sep i j a (ne i a z).2 t)
  · rcases t with t | t
    · exact r.tF a t
    · exact r.fF j a t
  · rcases t with t | t
    · exact r.td a t
    · exact hb a t
theorem eok_fzV : EOk K (tFz (tVar j)) (dFzV j) := fun F T σ H ds fp Q R rp h k => by
  obtain ⟨kvs, hj, k2⟩ := isDic_inv h
  obtain ⟨a, vs, hv, hf, hH, hkv⟩ := rp.slot j _ hj
  have r1 := rp.giveT hj fun b hb => by rw [(hf b).mp hb]; exact ⟨_, hH, trivial⟩
  refine ⟨.ref a, by simpa using hv, a, .dK vs, rfl, hH, trivial, fun od => ?_⟩
  obtain ⟨r2, g2, t2, is⟩ := fz_core (od := od) r1 hf (fun b z => rp.fT j b z) hH hkv
  exact k _ _ _ _ _ _ _ k2 ((Pst.here (h := .tmp (.dict (kvD kvs))) r2 is).pre g2 t2)
theorem do_fzV (h : PE X e (tVar j)) : DO X e (tFz (tVar j)) (dFzV j) := ⟨pe_fz h, eok_fzV⟩
theorem pk_dict {v : V} {kvs : List (D × D)} (h : PkR K F H v (.dict kvs)) : ∃ a od vs, v = .ref a ∧ res F H a = some (.frz od (.dK vs)) ∧ IsP K (res F H) vs kvs := by
  rcases h with h | ⟨_, _, _, _, e, _⟩
  · cases h with
    | dic h1 h2 => exact ⟨_, _, _, rfl, h1, h2⟩
  · cases e
theorem dget_frz {a : Addr} {od : Obj} {vs : List (Key × V)} {k : Key} (h : H a = some (.frz od (.dK vs))) : DGet H a (kV k) (valV vs k) := .inl ⟨vs, k, .inr ⟨od, h⟩, rfl, rfl⟩
/-- k in d, d data -/
@[simp] def dDIn (neg : Bool) (t u : DT) : DT := fun ds Q => t ds fun h1 ds1 => u ds1 fun h2 ds2 => pk ds2 h1 fun key => pk ds2 h2 fun d => ∃ kvs k, d = .dict (kvD kvs) ∧ keyD key = some k ∧ Q (.tmp (.bool (if neg then !(valD kvs k).isSome else (valD kvs k).isSome))) ds2
theorem eok_ddin (hk : EOk K ty t) (ho : EOk K td u) : EOk K (tDIn ty td) (dDIn false t u) := fun F T σ H ds fp Q R rp h k =>
  two_ok hk ho (Q := fun key d ds2 => ∃ kvs k, d = .dict (kvD kvs) ∧ keyD key = some k ∧ Q (.tmp (.bool (if false = true then !(valD kvs k).isSome else (valD kvs k).isSome))) ds2) rp h fun d e ds' x y H' F' fp' h1 r1 g1 t1 i1 i2 => by
    obtain ⟨kvs, kk, rfl, ek, q⟩ := h1
    obtain ⟨a, od, vs, rfl, ha, hp⟩ := pk_dict i2
    rw [i1.key ek]
    refine ⟨a, _, rfl, dget_frz (k := kk) (res_some ha).2, ?_⟩
    rw [hp.kv.has kk]
    exact k _ _ _ _ _ _ _ q ((Pst.bool r1).pre g1 t1)
theorem db_ddin (hu : X.A.units + 64 < cLine) (hk : DO X i ty t) (ho : DO X o td u) (hm : behindInMarks .In o = false := by first | exact nomark _ | rfl) : DB X (.Compare i [.In] [o] pos) (tB (tDIn ty td)) (bT (dDIn false t u)) :=
  ⟨pt_cmp (pc_din (by omega) hk.pe ho.pe) hm, bt_val (eok_ddin hk.ok ho.ok)⟩
/-- d[k], d data -/
@[simp] def dDIx (t u : DT) : DT := fun ds Q => t ds fun h1 ds1 => u ds1 fun h2 ds2 => pk ds2 h1 fun d => pk ds2 h2 fun key => ∃ kvs k x, d = .dict (kvD kvs) ∧ keyD key = some k ∧ valD kvs k = some x ∧ Q (.tmp x) ds2
theorem eok_ddix (ho : EOk K td t) (hk : EOk K ty u) : EOk K (tDGet td ty) (dDIx t u) := fun F T σ H ds fp Q R rp h k =>
  two_ok ho hk (Q := fun d key ds2 => ∃ kvs k x, d = .dict (kvD kvs) ∧ keyD key = some k ∧ valD kvs k = some x ∧ Q (.tmp x) ds2) rp h fun d e ds' x y H' F' fp' h1 r1 g1 t1 i1 i2 => by
    obtain ⟨kvs, kk, z, rfl, ek, ez, q⟩ := h1
    obtain ⟨a, od, vs, rfl, ha, hp⟩ := pk_dict i1
    rw [i2.key ek]
    obtain ⟨v, ev, iv⟩ := hp.kv.get ez
    refine ⟨a, v, rfl, ?_, k _ _ _ _ _ _ _ q ((Pst.here (h := .tmp z) r1 iv).pre g1 t1)⟩
    have := dget_frz (k := kk) (res_some ha).2
    rw [ev] at this
    exact this
theorem do_ddix (hu : X.A.units + 64 < cLine) (ho : DO X o td t) (hk : DO X i ty u) (hs : NoSl i := by exact fun _ _ => rfl) : DO X (.Subscript o i pos) (tDGet td ty) (dDIx t u) :=
  ⟨pe_dget (by omega) ho.pe hk.pe hs, eok_ddix ho.ok hk.ok⟩
theorem val_get {R : Hp} {vs : List (Key × V)} {kvs : List (Key × D)} (h : IsKV K R vs kvs) (k : Key) : Is K R ((valV vs k).getD .non) ((valD kvs k).getD .none) := by
  cases hv : valD kvs k with
  | none => rw [h.none hv]; exact .non
  | some d =>
    obtain ⟨v, ev, iv⟩ := h.get hv
    rw [ev]; exact iv
/-- d.get(k), d data by its name -/
@[simp] def dDGet (j : Nat) (u : DT) : DT := fun ds Q => (∃ d, ds[j]? = some (.val (.dict d))) ∧ u ds fun h2 ds2 => pk ds2 h2 fun key => ∃ kvs k, ds2[j]? = some (.val (.dict (kvD kvs))) ∧ keyD key = some k ∧ Q (.tmp ((valD kvs k).getD .none)) ds2
theorem eok_ddget (hk : EOk K ty u) : EOk K (tDGet1 (tVar j) ty) (dDGet j u) := fun F T σ H ds fp Q R rp h k => by
  obtain ⟨⟨d0, hj0⟩, h⟩ := h
  obtain ⟨⟨v0, hv0, is0⟩, _⟩ := rp.slot j _ hj0
  cases is0 with
  | dic ha0 _ =>
  refine ⟨_, by simpa using hv0, _, rfl, ?_, ?_⟩
  · exact .inl ⟨_, .inr ⟨_, (res_some ha0).2⟩⟩
  refine hk F _ σ H ds fp _ _ rp h fun h1 ds1 v1 H1 F1 fp1 q1 k1 p1 => ?_
  obtain ⟨key, i1, k2⟩ := pk_ok p1.rep p1.r k1
  obtain ⟨kvs, kk, hj, ek, q⟩ := k2
  obtain ⟨⟨v, hv, is⟩, _⟩ := p1.rep.slot j _ hj
  rw [hv0] at hv
  cases hv
  cases is with
  | dic ha hp =>
  rw [i1.key ek]
  refine ⟨_, dget_frz (k := kk) (res_some ha).2, ?_⟩
  exact k _ _ _ _ _ _ _ q ((Pst.here (h := .tmp ((valD kvs kk).getD .none)) (p1.rep.less fun a z => .inl z) (val_get hp.kv kk)).pre p1.g p1.t)
theorem do_ddget (hu : X.A.units + 64 < cLine) (ho : PE X o (tVar j)) (hk : DO X e ty u) (m : M1 X o "get" apos e cpos) : DO X (.Call (.Attribute o "get" apos) [e] [] cpos) (tDGet1 (tVar j) ty) (dDGet j u) :=
  ⟨pe_dget1 (by omega) ho hk.pe m, eok_ddget hk.ok⟩
/-- d.get(k), d a dict -/
@[simp] def dKGetS (j : Nat) (u : DT) : DT := fun ds Q => isDic ds j fun _ => u ds fun h2 ds2 => pk ds2 h2 fun key => isDic ds2 j fun kvs => ∃ k, keyD key = some k ∧ Q (.tmp ((valD kvs k).getD .none)) ds2
theorem eok_kgetS (hk : EOk K ty u) : EOk K (tDGet1 (tVar j) ty) (dKGetS j u) := fun F T σ H ds fp Q R rp h k => by
  obtain ⟨kvs0, hj0, h⟩ := isDic_inv h
  obtain ⟨a, vs0, hv0, _, hH0, _⟩ := rp.slot j _ hj0
  refine ⟨.ref a, by simpa using hv0, a, rfl, .inl ⟨_, .inl hH0⟩, ?_⟩
  refine hk F _ σ H ds fp _ _ rp h fun h1 ds1 v1 H1 F1 fp1 q1 k1 p1 => ?_
  obtain ⟨key, i1, k2⟩ := pk_ok p1.rep p1.r k1
  obtain ⟨kvs, hj, kk, ek, q⟩ := isDic_inv k2
  obtain ⟨a', vs, hv, hf, hH, hkv⟩ := p1.rep.slot j _ hj
  rw [hv0] at hv
  cases hv
  rw [i1.key ek]
  refine ⟨_, DGet.k (k := kk) hH, ?_⟩
  exact k _ _ _ _ _ _ _ q ((Pst.here (h := .tmp ((valD kvs kk).getD .none)) (p1.rep.less fun a z => .inl z) (val_get hkv kk)).pre p1.g p1.t)
theorem do_kgetS (hu : X.A.units + 64 < cLine) (ho : PE X o (tVar j)) (hk : DO X e ty u) (m : M1 X o "get" apos e cpos) : DO X (.Call (.Attribute o "get" apos) [e] [] cpos) (tDGet1 (tVar j) ty) (dKGetS j u) :=
  ⟨pe_dget1 (by omega) ho hk.pe m, eok_kgetS hk.ok⟩
/-- for k in d, d data -/
@[simp] def iDk (t : DT) : DIT := fun ds Q => t ds fun h ds1 => pk ds1 h fun d => ∃ kvs, d = .dict (kvD kvs) ∧ Q (kvs.map fun kv => dK kv.1) ds1
theorem kv_at : ∀ {vs : List (Key × V)} {kvs : List (Key × D)} {R : Hp} (i : Nat) {d : D}, IsKV K R vs kvs → (kvs.map fun kv => dK kv.1)[i]? = some d → ∃ k v, vs[i]? = some (k, v) ∧ Is K R (kV k) d
  | [], [], _, _, _, _, e => by simp at e
  | (k, v) :: vs, (k', d') :: kvs, _, 0, d, .cons h _, e => by
    obtain ⟨rfl, h2⟩ := h
    simp at e
    subst e
    refine ⟨k, v, rfl, ?_⟩
    cases k with
    | inl i => exact .int i
    | inr z => exact .str z
  | (k, v) :: vs, (k', d') :: kvs, _, i + 1, d, .cons _ hr, e => by
    obtain ⟨k, v, e1, e2⟩ := kv_at i hr (by simpa using e)
    exact ⟨k, v, by simpa using e1, e2⟩
theorem itd_keys {F : Ad} {H : Hp} {a : Addr} {od : Obj} {vs : List (Key × V)} {kvs : List (Key × D)} (ha : res F H a = some (.frz od (.dK vs))) (hp : IsKV K (res F H) vs kvs) : ItD K F H (Itk a od vs) (kvs.map fun kv => dK kv.1) := by
  have hl : (kvs.map fun kv => dK kv.1).length = vs.length := by rw [List.length_map, hp.length]
  have w := walk_keys (d := a) (o := od) (kvs := vs)
  have st : ∀ {F' H'}, Grow F H F' H' → H' a = some (.frz od (.dK vs)) := fun g => by rw [(g a (res_some ha).1).2]; exact (res_some ha).2
  refine ⟨fun F' H' i g hi => w.goes i H' (by rw [hl] at hi; exact hi) (st g), fun F' H' g => by rw [hl]; exact w.stops H' (st g), fun F' H' i x H'' d g hd y => ?_⟩
  have hi : i < vs.length := by rw [← hl]; exact (List.getElem?_eq_some_iff.mp hd).1
  obtain ⟨e1, k, v, e2, e3⟩ := w.yields i H' x H'' hi (st g) y
  obtain ⟨k', v', e4, is⟩ := kv_at i hp hd
  rw [e2] at e4
  cases e4
  rw [e3]
  exact .inl ⟨e1, is.mono g.same⟩
theorem di_dk (h : DO X e te t) : DI X tg e (iKeys te) (iDk t) := ⟨pi_keys h.pe, fun F T σ H ds fp Q R r a k => by
  refine h.ok F T σ H ds fp _ _ r a fun h1 ds1 v1 H1 F1 fp1 q1 k1 p1 => ?_
  obtain ⟨d, i1, kvs, rfl, k2⟩ := pk_ok p1.rep p1.r k1
  obtain ⟨b, od, vs, rfl, ha, hp⟩ := pk_dict i1
  exact ⟨b, od, rfl, .inl ⟨vs, (res_some ha).2, k _ _ _ _ _ fp1 k2 (p1.rep.less fun _ z => .inl z) p1.g p1.t (itd_keys ha hp.kv)⟩⟩⟩
end
end DL
namespace DL
open PySem PySem.Spec PyProof.Rows L2
section
variable {X : Cx} {K : PySem.W.Frag} {F T q : Ad} {σ : Sl} {H : Hp} {ds : DS} {fp : Nat → Ad} {te tk td ty : TE} {t u : DT} {e o i tg : Expr} {es : List Expr} {j : Nat} {pos apos cpos p px p2 : Pos}
/-- xs[i] = v -/
@[simp] def mLPut (j : Nat) (tk tv : DT) : DM := fun E ds => tv ds fun hv ds1 => take1 hv ds1 fun d ds2 => ownAt ds2 j fun _ => tk ds2 fun hk ds3 => pk ds3 hk fun i => ownAt ds3 j fun xs => ∃ n : Nat, i = .int (n : Int) ∧ n < xs.length ∧ E.nx (ds3.set j (.own (xs.set n d)))
theorem ds_lput (a : DO X e te t) (hk : DO X i ty u) (hg : PE X i ty → PG X (.Subscript o i px) (gSub (tVar j) ty rSetL)) (hs : swapsWithSole [.Subscript o i px] e pos.line X.env = pure false := by rfl) (hw : swappedStores [.Subscript o i px] e X.env = pure none := by rfl)
    (h1 : (assignEach [.Subscript o i px] X.env).map (·.2) = [assign (.Subscript o i px) X.env] := by rfl) : DSt X (.Assign [.Subscript o i px] e pos) (tAsg te (gSub (tVar j) ty rSetL)) (mLPut j u t) :=
  ⟨ps_asg a.pe (hg hk.pe) hs hw h1, fun F σ H ds fp E D r h kk => by
    refine a.ok F _ σ H ds fp _ _ r h fun h1 ds1 v1 H1 F1 fp1 q1 k1 p1 => ?_
    obtain ⟨d, ds2, F2, fp2, k2, r2, g2, i2⟩ := take1_ok p1.rep p1.qT p1.r k1
    obtain ⟨xs0, h0, k2⟩ := ownAt_inv k2
    obtain ⟨b0, vs0, e0, _, _, _⟩ := r2.slot j _ h0
    refine ⟨.ref b0, e0, ?_⟩
    refine hk.ok F2 _ σ H1 ds2 fp2 _ _ r2 k2 fun h3 ds3 v3 H3 F3 fp3 q3 k3 p3 => ?_
    obtain ⟨dk, i3, k4⟩ := pk_ok p3.rep p3.r k3
    obtain ⟨xs, hj, n, rfl, hn, k5⟩ := ownAt_inv k4
    rw [i3.int]
    have r3 : Rep X.K F3 Ad.nil σ H3 ds3 fp3 := p3.rep.less fun a z => z.elim
    obtain ⟨b, vs, e1, hb, ib, rl⟩ := r3.relist (ys := xs.set n d) hj
    rw [e0] at e1; cases e1
    have i4 : Is X.K (res F3 H3) v1 d := i2.mono p3.g.same
    obtain ⟨r4, g4, _⟩ := rl (vs.set n v1) (ib.set i4 n)
    refine ⟨_, vs, n, n, rfl, rfl, hb, ?_, kk.nx _ _ _ F3 fp3 k5 r4 (((p1.g.trans g2).trans p3.g).trans g4)⟩
    unfold ixN
    have := ib.length
    simp
    omega⟩
theorem units65 {k : Nat} {A : Around} (r : Room k A) : A.units + 65 < cLine := by have := r.un; omega
@[simp] def dInDp : D2 := fun d e Q => match e with
  | .list ds => SeqAt.shaped d = true ∧ SeqAt.shaped (.list ds) = true ∧ Q (.tmp (.bool (ds.any fun z => PyData.eqv z d)))
  | _ => False
theorem rok_inDp : ROk K (rInD K) dInDp := by
  intro F T σ H ds fp x y d e Q R r px py h k
  cases e <;> first | exact False.elim h | skip
  rename_i es
  exact ⟨d, es, px.is.dp _ (shaped_nd h.1), py.is.dp _ (shaped_nd h.2.1), h.1, h.2.1, k _ _ _ _ _ h.2.2 (.here r (.bl _))⟩
end
def rSortD (K : PySem.W.Frag) : List V → Hp → VK → Prop := fun xs H Q => ∃ (a : Addr) (bs : List (V × D)), xs = [.ref a] ∧ SqL K H a (bs.map Prod.fst) ∧ (∀ b ∈ bs, Dp K H b.1 b.2) ∧ PySem.W.AllAlike (bs.map Prod.snd) ∧ PySem.W.Sortable (bs.map Prod.snd) ∧ bs.length ≤ sizeLine ∧ (∀ b ∈ bs, PyData.depth b.2 ≤ 60) ∧
  ∀ p, H p = none → Q (.ref p) (upd H p (.lst ((bs.mergeSort (PySem.W.dataLe false Prod.snd)).map Prod.fst)))
theorem each_of {P : Value → V × D → Prop} : ∀ {bs : List (V × D)} {us : List Value}, Vals (bs.map Prod.fst) us → (∀ b ∈ bs, ∀ u, RelV b.1 u → P u b) → PySem.W.EachIs P us bs
  | [], _, h, _ => by cases h; exact .nil
  | b :: bs, _, h, k => by
    cases h with
    | cons h1 h2 => exact .cons (k b List.mem_cons_self _ h1) (each_of h2 fun c hc => k c (List.mem_cons_of_mem _ hc))
theorem vals_each : ∀ {bs : List (V × D)} {us : List Value}, PySem.W.EachIs (fun u b => RelV b.1 u) us bs → Vals (bs.map Prod.fst) us
  | [], _, h => by cases h; exact .nil
  | b :: bs, _, h => by
    cases h with
    | cons h1 h2 => exact .cons h1 (vals_each h2)
theorem call_sortD {X : Cx} (hu : X.A.units + 64 < cLine) : CallR X (.builtin "sorted") (rSortD X.K) := by
  intro pins s σ H xs us Q I r h
  obtain ⟨a, bs, rfl, hs, hd, hal, hsb, hL, hdp, q⟩ := h
  obtain ⟨its, rv, hl, hz⟩ := I.list hs
  rw [Vals.ref1 r]
  refine PySem.W.sorted_data (enc := Prod.snd) (R := fun u b => RelV b.1 u) hl.isList (each_of rv fun b hb u ru => ru) (each_of rv fun b hb u ru => Dp.reads I _ _ u (hd b hb) ru) hal hsb hL (fun b hb => by have := hdp b hb; omega) fun out ho he => ?_
  obtain ⟨ep, he'⟩ := PyProof.Rows.sortedAll_at s.heap its (List.toArray out)
  have hv := vals_each he
  have hlen : ((bs.mergeSort (PySem.W.dataLe false Prod.snd)).map Prod.fst).length ≤ sizeLine := by rw [List.length_map, List.length_mergeSort]; exact hL
  exact ⟨.ref _, upd H (s.heap.objs.size + 1) (.lst ((bs.mergeSort (PySem.W.dataLe false Prod.snd)).map Prod.fst)), I.laid (t' := s.toks) (fun _ _ => PyProof.Rows.sortedAll_old) (Nat.le_succ _) ⟨hlen, out, ep, hv, he'⟩, rfl, q _ (I.hok.fresh (Nat.le_succ _))⟩
@[simp] def bSortD : DN
  | [.list xs], Q => (PySem.W.AllAlike xs ∧ PySem.W.Sortable xs ∧ xs.length ≤ sizeLine ∧ ∀ x ∈ xs, PyData.hasDict x = false ∧ PyData.depth x ≤ 60) ∧ Q (.new (.own (xs.mergeSort (PySem.W.dataLe false id))))
  | _, _ => False
theorem zip_fst {vs : List V} {xs : List D} (h : vs.length = xs.length) : (vs.zip xs).map Prod.fst = vs := by
  rw [List.map_fst_zip]; omega
theorem zip_snd {vs : List V} {xs : List D} (h : vs.length = xs.length) : (vs.zip xs).map Prod.snd = xs := by
  rw [List.map_snd_zip]; omega
theorem isA_zip {K : PySem.W.Frag} {R : Hp} : ∀ {vs : List V} {xs : List D}, IsA K R vs xs → ∀ b ∈ vs.zip xs, Is K R b.1 b.2
  | _, [], h, b, hb => by cases h; simp at hb
  | _, x :: xs, h, b, hb => by
    cases h with
    | cons h1 h2 =>
      rw [List.zip_cons_cons] at hb
      rcases List.mem_cons.mp hb with rfl | hb
      · exact h1
      · exact isA_zip h2 b hb
theorem isA_of {K : PySem.W.Frag} {R : Hp} : ∀ {bs : List (V × D)}, (∀ b ∈ bs, Is K R b.1 b.2) → IsA K R (bs.map Prod.fst) (bs.map Prod.snd)
  | [], _ => .nil
  | b :: bs, h => .cons (h b List.mem_cons_self) (isA_of fun c hc => h c (List.mem_cons_of_mem _ hc))
theorem cok_sortD {K : PySem.W.Frag} : COk K (rSortD K) bSortD := by
  intro F T σ H ds fp vs dl Q R rp pv h k
  match dl, pv, h with
  | [.list xs], pv, h =>
    obtain ⟨⟨h1, h2, h3, h4⟩, h⟩ := h
    obtain ⟨v, rfl, p⟩ := one_of pv rfl
    obtain ⟨a, ws, rfl, l, is⟩ := p.list
    have hl := is.length
    have iz := isA_zip is
    have e1 := zip_fst hl
    have e2 := zip_snd hl
    refine ⟨a, ws.zip xs, rfl, by rw [e1]; exact l.sq, fun b hb => ?_, by rw [e2]; exact h1, by rw [e2]; exact h2, by rw [List.length_zip]; omega, fun b hb => (h4 b.2 (List.of_mem_zip hb).2).2, fun p hp => ?_⟩
    · exact Is.dp _ (h4 b.2 (List.of_mem_zip hb).2).1 (Is.mono (res_same _ _) _ (iz b hb))
    · obtain ⟨r1, g1, t1⟩ := rp.newT (o := .lst (((ws.zip xs).mergeSort (PySem.W.dataLe false Prod.snd)).map Prod.fst)) hp trivial
      obtain ⟨nF, nT, nfp⟩ := rp.new_ne hp
      have ie : IsA K (res F H) (((ws.zip xs).mergeSort (PySem.W.dataLe false Prod.snd)).map Prod.fst) (((ws.zip xs).mergeSort (PySem.W.dataLe false Prod.snd)).map Prod.snd) := isA_of fun b hb => iz b ((List.mergeSort_perm _ _).mem_iff.mp hb)
      have em : ((ws.zip xs).mergeSort (PySem.W.dataLe false Prod.snd)).map Prod.snd = xs.mergeSort (PySem.W.dataLe false id) := by
        show List.map Prod.snd ((ws.zip xs).mergeSort fun a b => PySem.W.dataLe false id (Prod.snd a) (Prod.snd b)) = _
        rw [List.map_mergeSort (f := Prod.snd) (r := fun a b => PySem.W.dataLe false id a.2 b.2) (s := PySem.W.dataLe false id) (l := ws.zip xs) (fun _ _ _ _ => rfl), e2]
      rw [em] at ie
      exact k _ _ _ _ _ h ⟨r1, fun a e => by cases e; exact nT, g1, t1, ⟨p, _, rfl, fun _ => Iff.rfl, upd_same, ie.mono g1.same⟩⟩
end DL
namespace DL
open PySem PySem.Spec PyProof.Rows L2
theorem few_of {α : Type} [DecidableEq α] : ∀ (l D : List α), l.Nodup → (∀ x ∈ l, x ∈ D) → l.length ≤ D.length
  | [], D, _, _ => Nat.zero_le _
  | x :: l, D, hn, hs => by
    have hx := hs x List.mem_cons_self
    have hn' := List.nodup_cons.mp hn
    have ih := few_of l (D.erase x) hn'.2 fun y hy => (List.mem_erase_of_ne fun z : y = x => hn'.1 (z ▸ hy)).mpr (hs y (List.mem_cons_of_mem _ hy))
    have e := List.length_erase_of_mem hx
    have p : 0 < D.length := List.length_pos_of_mem hx
    rw [List.length_cons]
    omega
section
variable {P : Program} {w : World} {A : Around} {R : Result → Shared → Prop} {it : Addr} {fp wr : List Addr} {G : Array GenState → Array GenState → Prop} {n : Nat} {PI : Nat → Value → Prop} {St : Nat → Shared → Prop}
abbrev TupAt (P : Program) (w : World) (h : Heap) (a : Addr) (ks : List (Addr × List Int)) (i : Nat) : Prop := ∃ L es ep t, SetTR P w h a L es ep t ∧ Got ks i L
theorem tups_loop (W : WalksS P w A.in1 it fp wr G n PI St) (a : Addr) (ha : a ∉ fp) (ks : List (Addr × List Int)) (D : List (List Int)) (hD : ∀ p ∈ ks, p.2 ∈ D) (dl : D.length < 62) (hv : ∀ i v, PI i v → ∃ p, ks[i]? = some p ∧ v = .ref p.1) (hn : n = ks.length)
    (h0 : Heap) (hk : ∀ p ∈ ks, IsT P w h0 p.2 p.1) (za : h0.get? a = none) (zw : ∀ b ∈ wr, h0.get? b = none) (hu : A.in1.units < cLine) :
    ∀ (j i : Nat) (s : Shared), i + j = n → St i s → (∀ b o, h0.get? b = some o → s.heap.get? b = some o) → TupAt P w s.heap a ks i →
      (∀ s', Moved (a :: wr) G s s' → TupAt P w s'.heap a ks n → (∀ b o, h0.get? b = some o → s'.heap.get? b = some o) → R (.ok (.ret .none)) s') →
      codeAny (model P w) A (.builtin "set.update.loop" ⟨[.ref a, .ref it], []⟩) R s := by
  have naw : a ∉ wr := fun z => ha (W.sub _ z)
  have up : ∀ b ∈ wr, b ∈ a :: wr := fun b z => List.mem_cons_of_mem _ z
  have old : ∀ {s s' : Shared}, Moved wr G s s' → (∀ b o, h0.get? b = some o → s.heap.get? b = some o) → ∀ b o, h0.get? b = some o → s'.heap.get? b = some o := fun m e b o q => m.heap b o (fun z => by rw [zw b z] at q; cases q) (e b o q)
  have stay : ∀ {s s' : Shared} {i : Nat}, Moved wr G s s' → (∀ b o, h0.get? b = some o → s'.heap.get? b = some o) → TupAt P w s.heap a ks i → TupAt P w s'.heap a ks i := fun m e ⟨L, es, ep, t, S, g⟩ =>
    ⟨L, es, ep, t, S.keep (fun o q => m.heap a o naw q) fun p hp => isT_keep (hk p (List.mem_of_mem_take (g.sub p hp))) e, g⟩
  intro j
  induction j with
  | zero =>
    intro i s e st o m k
    obtain rfl : i = n := by omega
    refine codeAny_builtin PyProof.Rows.F.entry_set_update_loop (by
      rw [Around.under_plainId PyProof.Rows.F.plain_set_update_loop _]
      exact wpAny_bind (W.done s _ _ st fun s' mv => wpAny_pure (k s' (mv.mono up) (stay mv (old mv o) m) (old mv o))))
  | succ j ih =>
    intro i s e st o m k
    refine codeAny_builtin PyProof.Rows.F.entry_set_update_loop ?_
    rw [Around.under_plainId PyProof.Rows.F.plain_set_update_loop _]
    refine wpAny_bind (W.item i s _ _ (by omega) st fun v s1 hp st1 mv => ?_)
    obtain ⟨p, ep, rfl⟩ := hv i v hp
    have o1 := old mv o
    obtain ⟨L, es, e0, t, S, g⟩ := stay mv o1 m
    have few : L.length ≤ D.length := by
      have q := few_of (L.map (·.2)) D S.nd fun x hx => by
        obtain ⟨y, hy, rfl⟩ := List.mem_map.mp hx
        exact hD y (List.mem_of_mem_take (g.sub y hy))
      rwa [List.length_map] at q
    have tp : IsT P w s1.heap p.2 p.1 := isT_keep (hk p (List.mem_of_getElem? ep)) o1
    refine wpAny_bind (wpAny_holding (M := model P w) (by
      unfold setAdd
      refine wpAny_holding (wpAny_bind (wpAny_pyHash_tuple hu tp ?_))
      refine add_at (s := { s1 with toks := s1.toks + (p.2.length + 1) }) S tp hu (by omega) fun b h2 L2 es2 e2 t2 sb S2 c1 c2 => ?_
      have g2 : Got ks (i + 1) L2 := by
        by_cases c : p.2 ∈ L.map (·.2)
        · rw [c1 c]; exact g.same ep c
        · exact g.more ep (c2 c)
      have o2 : ∀ b o, h0.get? b = some o → h2.get? b = some o := fun b o q => (sb.2 b fun z => by rw [z, za] at q; cases q).trans (o1 b o q)
      refine wpAny_pure ⟨plainId_quiet PyProof.Rows.F.plain_set_update_loop _, ih (i + 1) _ (by omega) (W.frame _ s1 _ _ st1 (Nat.le_add_right _ _) fun b z o q => ?_) o2 ⟨L2, es2, e2, t2, S2, g2⟩ fun s2 mv2 m4 o4 => ?_⟩
      · rw [sb.2 b fun z2 => ha (z2 ▸ z)]; exact q
      · refine k s2 (Moved.trans W.gtrans ((mv.mono up).then_heap (Nat.le_add_right _ _) fun b o z q => ?_) mv2) m4 o4
        rw [sb.2 b fun z2 => z (z2 ▸ List.mem_cons_self)]; exact q))
end
section
variable {P : Program} {w : World} {A : Around} {E : Value → Shared → Prop} {s : Shared}
theorem set_of_tups {q : Addr} {its : Array Value} (ks : List (Addr × List Int)) {Q : Value → Shared → Prop} (hh : A.handled = none) (hq : s.heap.IsList q its) (hx : its.toList = ks.map fun p => Value.ref p.1) (hk : ∀ p ∈ ks, IsT P w s.heap p.2 p.1)
    (D : List (List Int)) (hD : ∀ p ∈ ks, p.2 ∈ D) (dl : D.length < 62) (hu : A.units + 3 < cLine)
    (k : ∀ (h2 : Heap) (tk : Nat), TupAt P w h2 s.heap.objs.size ks ks.length → (∀ b o, s.heap.get? b = some o → h2.get? b = some o) → Q (.ref s.heap.objs.size) { s with heap := h2, toks := tk }) :
    wpAny (model P w) A (call (.type "set") [.ref q]) Q E s := by
  have hsz : its.size = ks.length := by
    have z := congrArg List.length hx
    simpa using z
  obtain ⟨_, _, f0⟩ := PySem.F.called_set.mro
  have f1 := PySem.F.called_set.made
  have f2 := PySem.F.called_set.sub
  have f3 := PySem.F.called_set.notType
  have f4 := PySem.F.called_set.canCreate
  have f5 := PySem.F.typeCall_set_1 (.ref q)
  refine wpAny_call (codeAny_of_tree (show wpAny _ _ (callAny (.type "set") _) _ _ _ from wpAny_pure ⟨Code.quiet_builtin _ (by decide +kernel), codeAny_builtin PySem.F.entry_type_call ?_⟩))
  rw [Around.under_plain (weight_type_call_type "set" [.ref q] []) rfl]
  repeat (any_goals (first | assumption | wp_step))
  refine codeAny_mono (code_set_led1 (.ref q) (E := E) (Q₁ := fun u s1 => u = .ref s.heap.objs.size ∧ s1 = { s with heap := mt s.heap (!w.params.followText "set-order") }) ⟨rfl, rfl⟩) fun r s1 hr => ?_
  generalize hled : (!w.params.followText "set-order") = led at hr
  match r, hr with
  | .ok (.ret u), hr =>
    obtain ⟨rfl, rfl⟩ := hr
    have g0 : (mt s.heap led).get? s.heap.objs.size = some (mtO led) := Heap.get?_push_size _ rfl
    have ty : Shared.TypeIs { s with heap := mt s.heap led } (.ref s.heap.objs.size) "set" := ⟨_, g0, rfl⟩
    have f6 := PySem.F.called_set.init.lookup
    have f7 := PySem.F.called_set.init.bind (.ref s.heap.objs.size)
    repeat (any_goals (first | assumption | wp_step))
    refine codeAny_mono (codeAny_call_builtin (R := wants (fun u s2 => u = .none ∧ ∃ h2 tk, s2 = { s with heap := h2, toks := tk } ∧ TupAt P w h2 s.heap.objs.size ks ks.length ∧ ∀ b o, s.heap.get? b = some o → h2.get? b = some o) E)
      PySem.F.called_set.init.plain PySem.F.entry_set_init (check_set_init_1 ty ?_)) fun r2 s2 hr2 => ?_
    · obtain ⟨⟨cl, dc, dt, sl⟩, g1, e1, n1, e2⟩ := hq
      cases e1
      cases e2
      have g2 : (mt s.heap led).get? q = some { cls := .type "list", dict := dc, data := .seq its n1, slots := sl } := Heap.get?_push_of_some _ g1
      have f8 := PySem.F.sub_list_set
      have f9 := PySem.F.sub_list_frozenset
      have fa : (Value.type "list" == Value.type "dict") = false := by decide
      have i1 : (mt s.heap led).IsList q its := ⟨_, g2, rfl, n1, rfl⟩
      have lt : q < s.heap.objs.size := Heap.lt_size g1
      unfold Builtin.«set.__init__» noKeywords Builtin.Frozenset.updateFrom
      generalize hp : pyIter = itr
      wp_walk
      subst hp
      refine wpAny_pyIter_list i1 (wpAny_bind (wpAny_runValue ?_))
      have z1 : (mt s.heap led).objs.size = s.heap.objs.size + 1 := Heap.size_push ..
      have n2 : q ≠ (mt s.heap led).objs.size := Nat.ne_of_lt (Nat.lt_of_lt_of_le lt (by rw [z1]; exact Nat.le_succ _))
      have n3 : s.heap.objs.size ∉ [(mt s.heap led).objs.size, q] := by
        simp only [List.mem_cons, List.not_mem_nil, or_false, not_or]
        exact ⟨Nat.ne_of_lt (by rw [z1]; exact Nat.lt_succ_self _), Nat.ne_of_gt lt⟩
      have gone : ∀ b, s.heap.objs.size ≤ b → s.heap.get? b = none := fun b hb => by
        cases z : s.heap.get? b with
        | none => rfl
        | some o => exact absurd (Heap.lt_size z) (Nat.not_lt.mpr hb)
      have hv : ∀ (i : Nat) (v : Value), its[i]? = some v → ∃ p, ks[i]? = some p ∧ v = .ref p.1 := fun i v hv => by
        have z : (ks.map fun p => Value.ref p.1)[i]? = some v := by rw [← hx, Array.getElem?_toList]; exact hv
        rw [List.getElem?_map, Option.map_eq_some_iff] at z
        obtain ⟨p, z1, z2⟩ := z
        exact ⟨p, z1, z2.symm⟩
      refine tups_loop ((Walks.list (show A.in1.in1.in1.handled = none by simp [hh]) _ q n2 its).toS) s.heap.objs.size n3 ks D hD dl hv hsz s.heap hk (gone _ (Nat.le_refl _)) (fun b hb => gone b (by rw [List.mem_singleton.mp hb, z1]; exact Nat.le_succ _)) hu its.size 0 _ (by omega)
        ⟨⟨_, Heap.get?_push_size _ rfl, rfl, rfl⟩, i1.push _⟩ (fun b o e => Heap.get?_push_of_some _ (Heap.get?_push_of_some _ e)) ?_ ?_
      · have g3 : ((mt s.heap led).push { cls := .type "list_iterator", data := .fields #[.ref q, .int 0 0] }).get? s.heap.objs.size = some (mtO led) := Heap.get?_push_of_some _ g0
        subst hled
        exact ⟨[], #[], 0, _, setTR_fresh g3, Got.zero ks⟩
      · rintro ⟨h2, g', d', tk, o'⟩ mv m kp
        obtain rfl : g' = s.gens := mv.gens
        obtain rfl : d' = s.drawn := mv.drawn
        obtain rfl : o' = s.os := mv.os
        rw [hsz] at m
        exact wpAny_pure (show wpAny _ _ (ret Value.none) _ _ _ from wpAny_pure ⟨rfl, h2, tk, rfl, m, kp⟩)
    · match r2, hr2 with
      | .ok (.ret u), hr2 =>
        obtain ⟨rfl, h2, tk, rfl, m, kp⟩ := hr2
        repeat (any_goals (first | assumption | wp_step))
        exact k _ _ m kp
      | .error e, hr2 => exact hr2
  | .error e, hr => exact hr
end
end DL
namespace DL
open PySem PySem.Spec PyProof.Rows L2
def rSetOfU (K : PySem.W.Frag) (P : Program) (w : World) : List V → Hp → VK → Prop := fun xs H Q => ∃ (l : Addr) (ks : List (Addr × List Int)) (D : List (List Int)), xs = [V.ref l] ∧ SqL K H l (ks.map fun p => V.ref p.1) ∧ (∀ p ∈ ks, SqT K H p.1 (p.2.map V.int)) ∧ (∀ p ∈ ks, p.2 ∈ D) ∧ D.length < 62 ∧
  ∀ a L, H a = none → (∀ p ∈ L, p ∈ ks) → (∀ p ∈ ks, p.2 ∈ L.map (·.2)) → Q (.ref a) (upd H a (SetTO P w a L))
theorem call_setU {X : Cx} (hc : X.calm = true) (hu : X.A.units + 64 < cLine) : CallR X (.type "set") (rSetOfU X.K X.prog X.w) := by
  intro pins s σ H xs us Q I r h
  obtain ⟨l, ks, D, rfl, hl, hk, hD, dl, q⟩ := h
  obtain ⟨its, rv, pl, hz⟩ := I.list hl
  rw [Vals.ref1 r]
  have nf : H s.heap.objs.size = none := I.hok.fresh (Nat.le_refl _)
  refine set_of_tups (P := X.prog) (w := X.w) ks (I.ok.hd hc) pl.isList (by simpa using refs_of_vals rv) (fun p hp => I.isT (hk p hp)) D hD dl (by omega) fun h2 tk ⟨L, es, ep, t, S, g⟩ kp => ?_
  exact ⟨.ref s.heap.objs.size, upd H s.heap.objs.size (SetTO X.prog X.w s.heap.objs.size L), I.laid (t' := tk) kp (Nat.le_refl _) (setTO_new S.t0), rfl, q _ L nf (fun p hp => List.mem_of_mem_take (g.sub p hp)) fun p hp => g.all p (by rw [List.take_length]; exact hp)⟩
abbrev pairD (x : Int × Int) : D := .tuple [.int x.1, .int x.2]
@[simp] def dSortSet (t : DT) : DT := fun ds Q => t ds fun h ds1 => pk ds1 h fun d => ∃ (ps D : List (Int × Int)), d = .list (ps.map pairD) ∧ (∀ x ∈ ps, x ∈ D) ∧ D.length < 62 ∧ (∀ x ∈ ps, (0 ≤ x.1 ∧ x.1 < 64) ∧ 0 ≤ x.2 ∧ x.2 < 64) ∧
  ∀ zs : List (Int × Int), zs.Nodup → (∀ x, x ∈ zs ↔ x ∈ ps) → Q (.new (.own (zs.map pairD))) ds1
def twoL (x : Int × Int) : List Int := [x.1, x.2]
def twoP (l : List Int) : Int × Int := (l.getD 0 0, l.getD 1 0)
theorem two_p (x : Int × Int) : twoP (twoL x) = x := rfl
section
variable {X : Cx} {K : PySem.W.Frag} {F T q : Ad} {σ : Sl} {H : Hp} {ds : DS} {fp : Nat → Ad} {te : TE} {t : DT} {e : Expr} {pos p1 p2 p3 : Pos}
theorem pairs_of {R : Hp} : ∀ {ps : List (Int × Int)} {ws : List V}, IsA K R ws (ps.map pairD) → ∃ ks : List (Addr × List Int), ws = ks.map (fun p => V.ref p.1) ∧ ks.map (·.2) = ps.map twoL ∧ ∀ p ∈ ks, SqT K R p.1 (p.2.map V.int)
  | [], _, h => by cases h; exact ⟨[], rfl, rfl, fun _ h => nomatch h⟩
  | x :: ps, _, h => by
    cases h with
    | cons h1 h2 =>
      obtain ⟨ks, rfl, e, c⟩ := pairs_of h2
      cases h1 with
      | tup h3 h4 =>
        cases h4 with
        | cons h5 h4 =>
          cases h4 with
          | cons h6 h4 =>
            cases h4; cases h5; cases h6
            refine ⟨(_, twoL x) :: ks, rfl, by rw [List.map_cons, List.map_cons, e], fun p hp => ?_⟩
            rcases List.mem_cons.mp hp with rfl | hp
            · exact h3
            · exact c p hp
theorem Rep.beside {a : Addr} {o : HO} (r : Rep K F T σ H ds fp) (ha : H a = none) : Rep K F T σ (upd H a o) ds fp ∧ Grow F H F (upd H a o) ∧ ∀ b, T b → upd H a o b = H b := by
  obtain ⟨n1, n2, n3⟩ := r.new_ne ha
  have up : ∀ b, b ≠ a → upd H a o b = H b := fun b ne => upd_ne ne
  have g : Grow F H F (upd H a o) := fun b f => ⟨f, up b fun z => n1 (z ▸ f)⟩
  exact ⟨r.go g (fun i b h => ⟨up b fun z => n3 i (z ▸ h), r.fF i b h, r.fT i b h⟩) r.tF (fun b f => by rw [(g b f).2]; exact r.fd b f) (fun b t => by rw [up b fun z => n2 (z ▸ t)]; exact r.td b t), g, fun b t => up b fun z => n2 (z ▸ t)⟩
theorem eok_sortSet {P : Program} {w : World} (h : EOk K te t) : EOk K (tCB (rSortedT K P w) (tCons (tCB (rSetOfU K P w) (tCons te tNil)) tNil)) (dSortSet t) := fun F T σ H ds fp Q R rp e k => by
  refine h F T σ H ds fp _ _ rp e fun h1 ds1 v1 H1 F1 fp1 q1 k1 p1 => ?_
  obtain ⟨d, i1, ps, D, rfl, hD, dl, hb, k2⟩ := pk_ok p1.rep p1.r k1
  obtain ⟨a, ws, rfl, la, is⟩ := i1.list
  obtain ⟨ks, rfl, ek, sk⟩ := pairs_of is
  have r1 : Rep K F1 T σ H1 ds1 fp1 := p1.rep.less fun a z => .inl z
  have in_ps : ∀ p ∈ ks, ∃ x ∈ ps, p.2 = twoL x := fun p hp => by
    have : p.2 ∈ ps.map twoL := ek ▸ List.mem_map.mpr ⟨p, hp, rfl⟩
    obtain ⟨x, hx, e⟩ := List.mem_map.mp this
    exact ⟨x, hx, e.symm⟩
  refine ⟨a, ks, D.map twoL, rfl, la.sq, fun p hp => same_t (res_same _ _) (sk p hp), fun p hp => ?_, by rw [List.length_map]; exact dl, fun b L hb0 hL1 hL2 => ?_⟩
  · obtain ⟨x, hx, e⟩ := in_ps p hp
    rw [e]; exact List.mem_map.mpr ⟨x, hD x hx, rfl⟩
  obtain ⟨r2, g2, t2⟩ := r1.beside (o := SetTO P w b L) hb0
  refine ⟨b, L, 2, 64, rfl, upd_same, fun p hp => same_t (fun c o z => ?_) (sk p (hL1 p hp)), by decide, fun p hp => ?_, fun L' c pm nd few pw hc => ?_⟩
  · obtain ⟨f, z⟩ := res_some z
    rw [(g2 c f).2]; exact z
  · obtain ⟨x, hx, e⟩ := in_ps p (hL1 p hp)
    have hb := hb x hx
    rw [e]
    refine ⟨rfl, fun y hy => ?_⟩
    simp only [twoL, List.mem_cons, List.not_mem_nil, or_false] at hy
    rcases hy with rfl | rfl
    · exact hb.1
    · exact hb.2
  obtain ⟨r3, g3, t3⟩ := r2.newT (o := .lst (L'.map fun q => V.ref q.1)) hc trivial
  obtain ⟨nF, nT, nfp⟩ := r2.new_ne hc
  have hz : ∀ p ∈ L', ∃ x ∈ ps, p.2 = twoL x := fun p hp => in_ps p (hL1 p (pm.mem_iff.mp hp))
  have ez : L'.map (·.2) = (L'.map fun p => twoP p.2).map twoL := by
    rw [List.map_map]
    apply List.map_congr_left
    intro p hp
    obtain ⟨x, _, e⟩ := hz p hp
    show p.2 = twoL (twoP p.2)
    rw [e, two_p]
  have ia : IsA K (res F1 H1) (L'.map fun q => V.ref q.1) ((L'.map fun p => twoP p.2).map pairD) := by
    rw [List.map_map]
    have : ∀ (l : List (Addr × List Int)), (∀ p ∈ l, p ∈ L') → IsA K (res F1 H1) (l.map fun q => V.ref q.1) (l.map (pairD ∘ fun p => twoP p.2)) := by
      intro l
      induction l with
      | nil => intro _; exact .nil
      | cons p l ih =>
        intro hl
        refine .cons ?_ (ih fun q hq => hl q (List.mem_cons_of_mem _ hq))
        obtain ⟨x, _, e⟩ := hz p (hl p List.mem_cons_self)
        have s := sk p (hL1 p (pm.mem_iff.mp (hl p List.mem_cons_self)))
        show Is K _ (V.ref p.1) (pairD (twoP p.2))
        rw [e] at s ⊢
        exact .tup s (.cons (.int _) (.cons (.int _) .nil))
    exact this L' fun _ h => h
  refine k _ _ _ _ _ _ (fun y => y = c) (k2 (L'.map fun p => twoP p.2) ?_ fun x => ⟨fun hx => ?_, fun hx => ?_⟩) ⟨r3, fun y e => by cases e; exact nT, (p1.g.trans g2).trans g3, fun y z => ((t3 y z).trans (t2 y z)).trans (p1.t y z), ⟨c, _, rfl, fun _ => Iff.rfl, upd_same, ?_⟩⟩
  · rw [ez] at nd
    exact nd.of_map _ fun x y ne e => ne (by rw [e])
  · obtain ⟨p, hp, e⟩ := List.mem_map.mp hx
    obtain ⟨y, hy, e2⟩ := hz p hp
    rw [e2, two_p] at e
    rw [← e]; exact hy
  · have : twoL x ∈ ks.map (·.2) := ek ▸ List.mem_map.mpr ⟨x, hx, rfl⟩
    obtain ⟨p, hp, e⟩ := List.mem_map.mp this
    have h2 := hL2 p hp
    rw [e, ← (pm.map (·.2)).mem_iff] at h2
    obtain ⟨p', hp', e'⟩ := List.mem_map.mp h2
    exact List.mem_map.mpr ⟨p', hp', by rw [e', two_p]⟩
  · exact (IsA.mono g2.same _ ia).mono g3.same
theorem do_sortSet (hc : X.calm = true) (hu : X.A.units + 64 < cLine) (hg : Gl X "sorted") (hm : X.mg "sorted" = none) (hg2 : Gl X "set") (hm2 : X.mg "set" = none) (h : DO X e te t)
    (he : starEach [.Call (.Name "set" p2) [e] [] p3] X.env = (false, eval (.Call (.Name "set" p2) [e] [] p3) X.env) :: starEach [] X.env := by rfl) (he2 : starEach [e] X.env = (false, eval e X.env) :: starEach [] X.env := by rfl) :
    DO X (.Call (.Name "sorted" p1) [.Call (.Name "set" p2) [e] [] p3] [] pos) (tCB (rSortedT X.K X.prog X.w) (tCons (tCB (rSetOfU X.K X.prog X.w) (tCons te tNil)) tNil)) (dSortSet t) :=
  ⟨pe_callB (cr_sortedT hc) hg hm (by decide +kernel) (pa_cons (pe_callTy (call_setU hc hu) hg2 hm2 rfl (pa_cons h.pe pa_nil he2) (by decide) (by decide) he2 rfl) pa_nil he) (by decide) (by decide) he rfl, eok_sortSet h.ok⟩
end
end DL
namespace DL
open PySem PySem.Spec PyProof.Rows L2
section
variable {P : Program} {w : World} {A : Around} {R : Result → Shared → Prop} {it : Addr} {fp wr : List Addr} {G : Array GenState → Array GenState → Prop} {n : Nat} {PI : Nat → Value → Prop} {St : Nat → Shared → Prop}
theorem flat_next {vss : List (List Value)} {i : Nat} {l : List Value} (h : vss[i]? = some l) : (vss.take (i + 1)).flatten = (vss.take i).flatten ++ l := by
  rw [List.take_succ, h, List.flatten_append]; simp
theorem flat_le (vss : List (List Value)) (i : Nat) : (vss.take i).flatten.length ≤ vss.flatten.length := by
  have e : vss.flatten = (vss.take i).flatten ++ (vss.drop i).flatten := by rw [← List.flatten_append, List.take_append_drop]
  rw [e, List.length_append]; omega
theorem lists_loop (W : WalksS P w A.in1 it fp wr G n PI St) (S : Addr) (hS : S ∉ fp) (vss : List (List Value)) (hn : n = vss.length) (h0 : Heap) (hv : ∀ i v, PI i v → ∃ b l m, v = .ref b ∧ vss[i]? = some l ∧ IsL h0 b l.toArray m) (zw : ∀ b ∈ wr, h0.get? b = none) (lw : ∀ b ∈ wr, b < S) (zS : h0.get? S = none) (hz : vss.flatten.length ≤ sizeLine) (z : Addr) :
    ∀ (k i : Nat) (s : Shared) (t : Addr) (m c : Nat), i + k = n → St i s → (∀ b o, h0.get? b = some o → s.heap.get? b = some o) → IsL s.heap S #[.ref t] c → t ≠ S → t ∉ wr → (t = z ∨ S < t) → IsL s.heap t (vss.take i).flatten.toArray m →
      (∀ s' t' m', Moved (S :: wr) G s s' → (t' = z ∨ S < t') → IsL s'.heap t' vss.flatten.toArray m' → (∀ b o, h0.get? b = some o → s'.heap.get? b = some o) → R (.ok (.ret (.ref t'))) s') →
      codeAny (model P w) A (.builtin "sum.loop" ⟨[.ref it, .ref S, rawInt 2, rawInt 0], []⟩) R s := by
  have nSw : S ∉ wr := fun z => hS (W.sub _ z)
  have up : ∀ b ∈ wr, b ∈ S :: wr := fun b z => List.mem_cons_of_mem _ z
  intro k
  induction k with
  | zero =>
    intro i s t m c e st old gS nt ntw tz gt k
    obtain rfl : i = n := by omega
    refine codeAny_builtin PySem.F.entry_sum_loop (by
      rw [Around.under_plainId PySem.F.plain_sum_loop _]
      refine wpAny_bind (wpAny_seqItems gS rfl (wpAny_bind (wpAny_tryCatch (W.done s _ _ st fun s' mv => ?_))))
      refine wpAny_pure (k s' t m (mv.mono up) tz ?_ fun b o q => mv.heap b o (fun z => by rw [zw b z] at q; cases q) (old b o q))
      have g2 := mv.heap t _ ntw gt
      rw [hn, List.take_length] at g2
      exact g2)
  | succ k ih =>
    intro i s t m c e st old gS nt ntw tz gt k
    refine codeAny_builtin PySem.F.entry_sum_loop ?_
    rw [Around.under_plainId PySem.F.plain_sum_loop _]
    refine wpAny_bind (wpAny_seqItems gS rfl (wpAny_bind (wpAny_tryCatch (W.item i s _ _ (by omega) st fun v s1 hp st1 mv => ?_))))
    obtain ⟨b, l, mb, rfl, el, gb⟩ := hv i v hp
    have gS1 := mv.heap S _ nSw gS
    have gt1 := mv.heap t _ ntw gt
    have old1 : ∀ b o, h0.get? b = some o → s1.heap.get? b = some o := fun b o q => mv.heap b o (fun z => by rw [zw b z] at q; cases q) (old b o q)
    have gb1 : IsL s1.heap b l.toArray mb := old1 b _ gb
    have ef := flat_next el
    have lf := flat_le vss (i + 1)
    have sz : ((vss.take i).flatten.toArray).size + (l.toArray).size ≤ sizeLine := by
      rw [ef, List.length_append] at lf
      rw [List.size_toArray, List.size_toArray]; omega
    have lS : S < s1.heap.objs.size := Heap.lt_size gS1
    show wpAny _ A.in1 ((holding [Value.ref b] (binaryOp .Add (.ref t) (.ref b))).attempt >>= _) _ _ _
    refine wpAny_bind (wpAny_attempt (wpAny_holding (PySem.P.add_list gt1 gb1 ?_ sz)))
    have ea : (vss.take i).flatten.toArray ++ l.toArray = (vss.take (i + 1)).flatten.toArray := by rw [ef]; simp
    rw [ea]
    generalize hN : s1.heap.objs.size = N at lS
    generalize hH2 : s1.heap.push { cls := .type "list", data := .seq (vss.take (i + 1)).flatten.toArray } = H2
    have kp : ∀ b o, s1.heap.get? b = some o → H2.get? b = some o := fun b o q => by rw [← hH2]; exact Heap.get?_push_of_some _ q
    have gN : IsL H2 N (vss.take (i + 1)).flatten.toArray 0 := by rw [← hH2, ← hN]; exact Heap.get?_push_size _ rfl
    have gS2 := kp S _ gS1
    show wpAny _ A.in1 (updateSeq S (fun _ => #[.ref N]) >>= _) _ _ _
    refine wpAny_bind (wpAny_updateSeq gS2 rfl ?_)
    have gS3 := Heap.get?_update_self (Obj.mapSeq fun _ => #[Value.ref N]) gS2 rfl
    refine wpAny_bind (wpAny_letGo (wpAny_bind (wpAny_updateSeq gS3 rfl ?_)))
    have off : ∀ {b : Addr} {o : Obj}, b ≠ S → H2.get? b = some o → ((H2.update S (Obj.mapSeq fun _ => #[Value.ref N])).update S (Obj.mapSeq fun _ => #[Value.ref N])).get? b = some o := fun ne q =>
      (Heap.get?_update_other _ _ (fun h => ne h.symm)).trans ((Heap.get?_update_other _ _ (fun h => ne h.symm)).trans q)
    have nNS : N ≠ S := Nat.ne_of_gt lS
    refine wpAny_pure ⟨plainId_quiet PySem.F.plain_sum_loop _, ih (i + 1) _ N 0 _ (by omega) (W.frame _ s1 _ _ st1 (Nat.le_refl _) fun b hb o q => off (fun z => hS (z ▸ hb)) (kp b o q)) (fun b o q => off (fun z => by rw [z, zS] at q; cases q) (kp b o (old1 b o q)))
      (Heap.get?_update_self _ gS3 rfl) nNS (fun z => Nat.lt_asymm lS (lw N z)) (.inr lS) (off nNS gN) fun s2 t2 m2 mv2 z2 g2 o2 => ?_⟩
    refine k s2 t2 m2 (Moved.trans W.gtrans ((mv.mono up).then_heap (Nat.le_refl _) fun b o hb q => ?_) mv2) z2 g2 o2
    exact off (fun z => hb (z ▸ List.mem_cons_self)) (kp b o q)
end
section
variable {P : Program} {w : World} {A : Around} {E : Value → Shared → Prop} {s : Shared}
theorem args_sum2 (a b : Value) : argsOk "sum" ⟨[a, b], []⟩ := by unfold argsOk; kernel_rfl
theorem sum_lists {l z : Addr} {its : Array Value} {mz : Nat} (vss : List (List Value)) {Q : Value → Shared → Prop} (hh : A.handled = none) (hl : s.heap.IsList l its) (hi : ∀ (i : Nat) (v : Value), its[i]? = some v → ∃ (b : Addr) (l : List Value) (m : Nat), v = Value.ref b ∧ vss[i]? = some l ∧ IsL s.heap b l.toArray m) (hn : its.size = vss.length)
    (hzl : IsL s.heap z #[] mz) (hz : vss.flatten.length ≤ sizeLine)
    (k : ∀ (h2 : Heap) (tk : Nat) (t : Addr) (m : Nat), (∀ b o, s.heap.get? b = some o → h2.get? b = some o) → (t = z ∨ s.heap.objs.size ≤ t) → IsL h2 t vss.flatten.toArray m → Q (.ref t) { s with heap := h2, toks := tk }) :
    wpAny (model P w) A (call (.builtin "sum") [.ref l, .ref z]) Q E s := by
  refine call_function_tree PySem.F.kind_sum PySem.F.plain_sum PySem.F.entry_sum (args_sum2 _ _) ?_
  unfold Builtin.«sum»
  simp only [List.length_cons, List.length_nil]
  rw [if_neg (by decide)]
  refine wpAny_bind (wpAny_of_eq (show Builtin.Builtins.bindParams "sum" ["start"] 0 { pos := [Value.ref z], kw := [] } = pure [some (.ref z)] from rfl) ?_)
  refine wpAny_bind (wpAny_pyIter_list hl ?_)
  have hz1 : IsL (s.heap.push { cls := .type "list_iterator", data := .fields #[.ref l, .int 0 0] }) z #[] mz := hzl.push _
  have s1 : isSubtype (.type "list") (.type "str") = pure false := by rw [isSubtype_type]; kernel_rfl
  have s2 : isSubtype (.type "list") (.type "bytes") = pure false := by rw [isSubtype_type]; kernel_rfl
  have s3 : isSubtype (.type "list") (.type "bytearray") = pure false := by rw [isSubtype_type]; kernel_rfl
  refine wpAny_bind (wpAny_pure ?_)
  simp only [List.forIn_cons, List.forIn_nil]
  refine wpAny_bind (wpAny_bind (wpAny_bind (wpAny_isInstance (T := "list") (b := false) hz1.isList.typeIs s1 ?_)))
  simp only [Bool.false_eq_true, if_false]
  refine wpAny_pure (wpAny_bind (wpAny_bind (wpAny_isInstance (T := "list") (b := false) hz1.isList.typeIs s2 ?_)))
  simp only [Bool.false_eq_true, if_false]
  refine wpAny_pure (wpAny_bind (wpAny_bind (wpAny_isInstance (T := "list") (b := false) hz1.isList.typeIs s3 ?_)))
  simp only [Bool.false_eq_true, if_false]
  refine wpAny_pure (wpAny_pure (wpAny_bind (wpAny_newList ?_)))
  have zl : (s.heap.push { cls := .type "list_iterator", data := .fields #[.ref l, .int 0 0] }).objs.size = s.heap.objs.size + 1 := Heap.size_push ..
  have lt : l < s.heap.objs.size := by
    obtain ⟨o, g, _⟩ := hl
    exact Heap.lt_size g
  have hl1 : (s.heap.push { cls := .type "list_iterator", data := .fields #[.ref l, .int 0 0] }).IsList l its := hl.push _
  have hneI : l ≠ s.heap.objs.size := Nat.ne_of_lt lt
  have gone : ∀ b, s.heap.objs.size ≤ b → s.heap.get? b = none := fun b hb => by
    cases z : s.heap.get? b with
    | none => rfl
    | some o => exact absurd (Heap.lt_size z) (Nat.not_lt.mpr hb)
  generalize hS : (s.heap.push { cls := .type "list_iterator", data := .fields #[.ref l, .int 0 0] }).objs.size = S at zl
  have hSf : S ∉ [s.heap.objs.size, l] := by
    simp only [List.mem_cons, List.not_mem_nil, or_false, not_or]
    exact ⟨by rw [zl]; exact Nat.succ_ne_self _, by rw [zl]; exact Nat.ne_of_gt (Nat.lt_succ_of_lt lt)⟩
  have zlt : z < s.heap.objs.size := Heap.lt_size hzl
  refine wpAny_pure ⟨plainId_quiet PySem.F.plain_sum_loop _, lists_loop ((Walks.list (show A.in1.handled = none by simp [hh]) s.heap.objs.size l hneI its).toS) S hSf vss hn s.heap hi
    (fun b hb => by rw [List.mem_singleton.mp hb]; exact gone _ (Nat.le_refl _)) (fun b hb => by rw [List.mem_singleton.mp hb, zl]; exact Nat.lt_succ_self _) (gone _ (by rw [zl]; exact Nat.le_succ _)) hz z its.size 0 _ z mz 0 (by omega)
    ⟨⟨_, Heap.get?_push_of_some _ (Heap.get?_push_size _ rfl), rfl, rfl⟩, hl1.push _⟩ (fun b o e => Heap.get?_push_of_some _ (Heap.get?_push_of_some _ e)) ?_ (by rw [zl]; exact Nat.ne_of_lt (Nat.lt_succ_of_lt zlt)) (by rw [List.mem_singleton]; exact Nat.ne_of_lt zlt) (.inl rfl) ?_ ?_⟩
  · rw [← hS]; exact Heap.get?_push_size _ rfl
  · exact hz1.push _
  · rintro ⟨h2, g', d', tk, o'⟩ t' m' mv z2 g2 o2
    obtain rfl : g' = s.gens := mv.gens
    obtain rfl : d' = s.drawn := mv.drawn
    obtain rfl : o' = s.os := mv.os
    exact k h2 tk t' m' o2 (z2.imp id fun z => by rw [zl] at z; exact Nat.le_of_lt (Nat.lt_of_succ_lt z)) g2
end
/-- sum(xs, []), xs a list of lists -/
def rSumL (K : PySem.W.Frag) : List V → Hp → VK → Prop := fun xs H Q => ∃ (l z : Addr) (ks : List (Addr × List V)), xs = [.ref l, .ref z] ∧ SqL K H l (ks.map fun p => V.ref p.1) ∧ (∀ p ∈ ks, Ls K H p.1 p.2) ∧ H z = some (.lst []) ∧ (ks.map (·.2)).flatten.length ≤ sizeLine ∧
  ((ks.map (·.2)).flatten = [] → Q (.ref z) H) ∧ ∀ a, H a = none → Q (.ref a) (upd H a (.lst (ks.map (·.2)).flatten))
theorem refs_at : ∀ {ks : List (Addr × List V)} {us : List Value} {i : Nat} {v : Value}, Vals (ks.map fun p => V.ref p.1) us → us[i]? = some v → ∃ p, ks[i]? = some p ∧ v = .ref p.1
  | [], _, _, _, h, e => by cases h; simp at e
  | p :: ks, _, 0, v, h, e => by
    cases h with
    | cons h1 _ => simp at e; subst e; exact ⟨p, rfl, h1⟩
  | p :: ks, _, i + 1, v, h, e => by
    cases h with
    | cons _ h2 => simpa using refs_at (i := i) h2 (by simpa using e)
theorem vals_flat : ∀ {vss : List (List Value)} {xss : List (List V)}, Paired (fun us xs => Vals xs us) vss xss → Vals xss.flatten vss.flatten
  | _, _, .nil => .nil
  | _, _, .cons h r => by
    rw [List.flatten_cons, List.flatten_cons]
    exact h.append (vals_flat r)
theorem call_sumL {X : Cx} (hc : X.calm = true) : CallR X (.builtin "sum") (rSumL X.K) := by
  intro pins s σ H xs us Q I r h
  obtain ⟨l, z, ks, rfl, hl, hk, hz, hL, q1, q2⟩ := h
  cases r with
  | cons r1 r =>
    cases r with
    | cons r2 r =>
      cases r
      cases r1
      cases r2
      obtain ⟨its, rv, pl, -⟩ := I.list hl
      obtain ⟨-, itz, mz, rz, hlz, ez⟩ := I.lstM hz
      have e0 : itz = [] := by cases rz; rfl
      subst e0
      have ex : ∃ vss : List (List Value), vss.length = ks.length ∧ (∀ (i : Nat) (p : Addr × List V), ks[i]? = some p → ∃ (us : List Value) (m : Nat), vss[i]? = some us ∧ IsL s.heap p.1 us.toArray m) ∧ Paired (fun us xs => Vals xs us) vss (ks.map (·.2)) := by
        clear rv hl pl hL q1 q2
        induction ks with
        | nil => exact ⟨[], rfl, fun i p h => by simp at h, .nil⟩
        | cons p ks ih =>
          obtain ⟨vss, h1, h2, h3⟩ := ih fun q hq => hk q (List.mem_cons_of_mem _ hq)
          obtain ⟨_, us, m, rp, _, ep⟩ := lstRd I (hk p List.mem_cons_self)
          refine ⟨us :: vss, by simp [h1], fun i q hq => ?_, .cons rp h3⟩
          cases i with
          | zero => simp at hq; subst hq; exact ⟨us, m, rfl, ep⟩
          | succ i => simpa using h2 i q (by simpa using hq)
      obtain ⟨vss, hn, hi, hp⟩ := ex
      have hf := vals_flat hp
      have lf : vss.flatten.length ≤ sizeLine := by rw [← hf.length]; exact hL
      have hil : its.length = ks.length := by have := rv.length; rw [List.length_map] at this; exact this.symm
      refine sum_lists vss (I.ok.hd hc) pl.isList (fun i v hv => ?_) (by rw [List.size_toArray, hil, hn]) ez lf fun h2 tk t m kp ht g2 => ?_
      · have hv' : its[i]? = some v := by simpa using hv
        obtain ⟨p, e1, rfl⟩ := refs_at rv hv'
        obtain ⟨us, m, e2, e3⟩ := hi i p e1
        exact ⟨p.1, us, m, rfl, e2, e3⟩
      · rcases ht with rfl | ht
        · have g3 := kp _ _ ez
          have g2' : h2.get? t = some { cls := .type "list", data := .seq vss.flatten.toArray m } := g2
          rw [g3] at g2'
          injection g2' with g2'
          injection g2' with _ _ g2' _
          injection g2' with g2' _
          have ev : vss.flatten = [] := by
            have := congrArg Array.toList g2'
            simpa using this.symm
          have ex : (ks.map (·.2)).flatten = [] := List.eq_nil_of_length_eq_zero (by rw [hf.length, ev]; rfl)
          exact ⟨.ref t, H, I.kept (t' := tk) kp, rfl, q1 ex⟩
        · exact ⟨.ref t, upd H t (.lst (ks.map (·.2)).flatten), I.laid (t' := tk) kp ht ⟨hL, vss.flatten, m, hf, g2⟩, rfl, q2 t (I.hok.fresh ht)⟩
@[simp] def bSumL : DN
  | [.list xs, .list []], Q => ∃ ys : List (List D), xs = ys.map .list ∧ ys.flatten.length ≤ sizeLine ∧ Q (.new (.own ys.flatten))
  | _, _ => False
section
variable {X : Cx} {K : PySem.W.Frag} {F T q : Ad} {σ : Sl} {H : Hp} {ds : DS} {fp : Nat → Ad} {te tz : TE} {t : DT} {e : Expr} {pos p1 p2 : Pos}
/-- sum(xs, []) -/
@[simp] def dSumL (t : DT) : DT := fun ds Q => t ds fun h ds1 => pk ds1 h fun d => ∃ ys : List (List D), d = .list (ys.map .list) ∧ ys.flatten.length ≤ sizeLine ∧ Q (.new (.own ys.flatten)) ds1
theorem lists_of {R : Hp} : ∀ {ys : List (List D)} {ws : List V}, IsA K R ws (ys.map .list) → ∃ ks : List (Addr × List V), ws = ks.map (fun p => V.ref p.1) ∧ (∀ p ∈ ks, Ls K R p.1 p.2) ∧ IsA K R (ks.map (·.2)).flatten ys.flatten
  | [], _, h => by cases h; exact ⟨[], rfl, (fun _ h => nomatch h), .nil⟩
  | y :: ys, _, h => by
    cases h with
    | cons h1 h2 =>
      obtain ⟨ks, rfl, c, d⟩ := lists_of h2
      cases h1 with
      | @lst a xs _ h3 h4 =>
        refine ⟨(a, xs) :: ks, rfl, fun p hp => ?_, ?_⟩
        · rcases List.mem_cons.mp hp with rfl | hp
          · exact h3
          · exact c p hp
        · rw [List.map_cons, List.flatten_cons, List.flatten_cons]
          exact h4.append d
theorem eok_sumL (h : EOk K te t) : EOk K (tCB (rSumL K) (tCons te (tCons (tLst tNil) tNil))) (dSumL t) := fun F T σ H ds fp Q R rp e k => by
  refine h F T σ H ds fp _ _ rp e fun h1 ds1 v1 H1 F1 fp1 q1 k1 p1 => ?_
  obtain ⟨d, i1, ys, rfl, hl, k2⟩ := pk_ok p1.rep p1.r k1
  obtain ⟨a, ws, rfl, la, is⟩ := i1.list
  obtain ⟨ks, rfl, sk, ia⟩ := lists_of is
  have r1 : Rep K F1 T σ H1 ds1 fp1 := p1.rep.less fun a z => .inl z
  refine ⟨by simp, fun z hz => ?_⟩
  obtain ⟨r2, g2, t2⟩ := r1.newT (o := .lst []) hz trivial
  obtain ⟨nF, nT, nfp⟩ := r1.new_ne hz
  have sm : Same H1 (upd H1 z (.lst [])) := fun c o e => by rw [upd_ne fun y => by rw [y, hz] at e; cases e]; exact e
  refine ⟨a, z, ks, rfl, (same_l sm la).sq, fun p hp => same_l sm (same_l (res_same _ _) (sk p hp)), upd_same, by rw [ia.length]; exact hl, fun ef => ?_, fun b hb => ?_⟩
  · have ey : ys.flatten = [] := List.eq_nil_of_length_eq_zero (by rw [← ia.length, ef]; rfl)
    rw [ey] at k2
    exact k _ _ _ _ _ _ (fun y => y = z) k2 ⟨r2, fun y e => by cases e; exact nT, p1.g.trans g2, fun y ty => (t2 y ty).trans (p1.t y ty), ⟨z, _, rfl, fun _ => Iff.rfl, upd_same, .nil⟩⟩
  · have r3 : Rep K F1 T σ (upd H1 z (.lst [])) ds1 fp1 := r2.less fun y ty => .inl ty
    obtain ⟨r4, g4, t4⟩ := r3.newT (o := .lst (ks.map (·.2)).flatten) hb trivial
    obtain ⟨mF, mT, mfp⟩ := r3.new_ne hb
    exact k _ _ _ _ _ _ (fun y => y = b) k2 ⟨r4, fun y e => by cases e; exact mT, (p1.g.trans g2).trans g4, fun y ty => (t4 y ty).trans ((t2 y ty).trans (p1.t y ty)), ⟨b, _, rfl, fun _ => Iff.rfl, upd_same, (ia.mono g2.same _).mono g4.same⟩⟩
theorem do_sumL {p3 : Pos} (hc : X.calm = true) (hg : Gl X "sum") (hm : X.mg "sum" = none) (h : DO X e te t) (he : starEach [e, .List [] p3] X.env = (false, eval e X.env) :: starEach [.List [] p3] X.env := by rfl) (he2 : starEach [.List [] p3] X.env = (false, eval (.List [] p3) X.env) :: starEach [] X.env := by rfl)
    (hpl : (backTo pos (starEach [.List [] p3] X.env)).any (·.1) = false := by rfl) : DO X (.Call (.Name "sum" p1) [e, .List [] p3] [] pos) (tCB (rSumL X.K) (tCons te (tCons (tLst tNil) tNil))) (dSumL t) :=
  ⟨pe_callB (call_sumL hc) hg hm (by decide +kernel) (pa_cons h.pe (pa_cons (pe_lst pa_nil) pa_nil he2) he) (by decide) (by decide) he hpl, eok_sumL h.ok⟩
end
end DL
namespace K18.L17
open PySem PySem.Spec PyProof.Rows L2 BK
open DL hiding g_is_between tb_is_between rd_is_between
/-- a comprehension over read items, which leaves the slots as they are -/
theorem comp_fil {α : Type} {g : DGT} {c : DTT} {t : DT} {vs : List Nat} {ds : DS} {P : List D → DS → Prop} (enc : α → D) (q : α → Bool) (f : α → D) : ∀ (items : List α) (acc : List D),
    (∀ a ∈ items, ∀ L : Option D → DS → Prop, L (if q a = true then some (f a) else none) ds → g (enc a) ds fun ds1 => c ds1 fun b ds2 => if b = true then t ds2 fun h ds3 => take1 h ds3 fun x ds4 => L (some x) (wipeD ds4 vs) else L none (wipeD ds2 vs)) →
    P (acc ++ (items.filter q).map f) ds → compD g c t vs (items.map enc) acc ds P
  | [], acc, _, h => by
    have h : P (acc ++ []) ds := h
    rw [List.append_nil] at h
    exact h
  | a :: r, acc, hs, h => by
    refine hs a List.mem_cons_self (fun o ds' => compD g c t vs (r.map enc) (match o with | some x => acc ++ [x] | none => acc) ds' P) ?_
    have hr : ∀ b ∈ r, _ := fun b hb => hs b (List.mem_cons_of_mem _ hb)
    by_cases hq : q a = true
    · rw [if_pos hq]
      refine comp_fil enc q f r _ hr ?_
      rw [List.filter_cons_of_pos hq] at h
      simpa using h
    · rw [if_neg hq]
      refine comp_fil enc q f r _ hr ?_
      rw [List.filter_cons_of_neg hq] at h
      exact h
def mapK (m : Kn) : List (Key × D) := m.map fun p => (Sum.inl p.1, PyData.int p.2)
def knD (m : Kn) : D := .dict (kvD (mapK m))
theorem val_map (c : Int) : ∀ m : Kn, valD (mapK m) (.inl c) = (getK m c).map .int
  | [] => rfl
  | p :: m => by
    have ih := val_map c m
    unfold valD getK mapK at ih ⊢
    rw [List.map_cons, List.find?_cons, List.find?_cons]
    by_cases e : p.1 = c
    · have : (Sum.inl p.1 : Key) = .inl c := by rw [e]
      rw [decide_eq_true e, decide_eq_true this]; rfl
    · have : ¬ (Sum.inl p.1 : Key) = .inl c := fun h => e (Sum.inl.inj h)
      rw [decide_eq_false e, decide_eq_false this]; exact ih
theorem val_has (c : Int) (m : Kn) : (valD (mapK m) (.inl c)).isSome = (getK m c).isSome := by rw [val_map]; cases getK m c <;> rfl
theorem put_new {m : Kn} {c : Int} {v : Int} (h : c ∉ m.map (·.1)) : putD (mapK m) (.inl c) (.int v) = mapK (m ++ [(c, v)]) := by
  unfold putD
  have : (mapK m).any (fun kv => decide (kv.1 = .inl c)) = false := by
    rw [List.any_eq_false]
    intro kv hkv e
    obtain ⟨p, hp, rfl⟩ := List.mem_map.mp hkv
    exact h (List.mem_map.mpr ⟨p, hp, Sum.inl.inj (of_decide_eq_true e)⟩)
  rw [this, if_neg Bool.false_ne_true]
  unfold mapK
  rw [List.map_append]; rfl
theorem merge_go : ∀ (m acc : Kn), keysN (acc ++ m) → mergeD (mapK acc) (mapK m) = mapK (acc ++ m)
  | [], acc, _ => by rw [List.append_nil]; rfl
  | p :: m, acc, h => by
    have h2 : keysN ((acc ++ [p]) ++ m) := by rw [List.append_assoc]; exact h
    have hn : p.1 ∉ acc.map (·.1) := by
      unfold keysN at h
      rw [List.map_append] at h
      exact fun hc => (List.nodup_append.mp h).2.2 _ hc _ List.mem_cons_self rfl
    have e : mergeD (mapK acc) (mapK (p :: m)) = mergeD (putD (mapK acc) (.inl p.1) (.int p.2)) (mapK m) := rfl
    rw [e, put_new hn, merge_go m (acc ++ [p]) h2, List.append_assoc]; rfl
theorem merge_new {m : Kn} (h : keysN m) : mergeD [] (mapK m) = mapK m := merge_go m [] h
theorem keys_int (m : Kn) : (mapK m).map (fun kv => dK kv.1) = m.map fun p => PyData.int p.1 := by unfold mapK; rw [List.map_map]; rfl
def prI (p : Int × Int) : D := .tuple [.int p.1, .int p.2]
theorem pairs_map (m : Kn) : m.map prI = (mapK m).map fun kv => PyData.tuple [dK kv.1, kv.2] := by unfold mapK; rw [List.map_map]; rfl
theorem mapK_len (m : Kn) : (mapK m).length = m.length := List.length_map _
theorem ev_ddin {ds : DS} {t u : DT} {c : Int} {m : Kn} {neg : Bool} (x : EvT t ds (.int c)) (y : EvT u ds (knD m)) : EvT (dDIn neg t u) ds (.bool (if neg then !(getK m c).isSome else (getK m c).isSome)) := fun Q k =>
  x _ fun h i => y _ fun h2 i2 => i.pk' (i2.pk' ⟨mapK m, .inl c, rfl, rfl, by rw [val_has]; exact k _ .tmp⟩)
theorem ev_ddix {ds : DS} {t u : DT} {c v : Int} {m : Kn} (x : EvT t ds (knD m)) (y : EvT u ds (.int c)) (e : getK m c = some v) : EvT (dDIx t u) ds (.int v) := fun Q k =>
  x _ fun h i => y _ fun h2 i2 => i.pk' (i2.pk' ⟨mapK m, .inl c, .int v, rfl, rfl, by rw [val_map, e]; rfl, k _ .tmp⟩)
def optD : Option Int → D
  | none => .none
  | some v => .int v
theorem opt_getD (m : Kn) (c : Int) : (valD (mapK m) (.inl c)).getD .none = optD (getK m c) := by rw [val_map]; cases getK m c <;> rfl
theorem ev_ddget {ds : DS} {u : DT} {j : Nat} {c : Int} {m : Kn} (hj : ds[j]? = some (.val (knD m))) (x : EvT u ds (.int c)) : EvT (dDGet j u) ds (optD (getK m c)) := fun Q k =>
  ⟨⟨_, hj⟩, x _ fun h i => i.pk' ⟨mapK m, .inl c, hj, rfl, by rw [opt_getD]; exact k _ .tmp⟩⟩
theorem ev_neI {ds : DS} {t u : DT} {a b : Int} (x : EvT t ds (.int a)) (y : EvT u ds (.int b)) : EvT (d2 dNe t u) ds (.bool (!decide (a = b))) := ev_2 x y fun Q q => by simpa using q
theorem ev_eqI {ds : DS} {t u : DT} {a b : Int} (x : EvT t ds (.int a)) (y : EvT u ds (.int b)) : EvT (d2 dEq t u) ds (.bool (decide (a = b))) := ev_2 x y fun Q q => by simpa using q
theorem take_ev {ds : DS} {t : DT} {d : D} {P : D → DS → Prop} (x : EvT t ds d) (p : P d ds) : t ds fun h ds1 => take1 h ds1 P := x _ fun h i => i.tk P p
theorem ev_mulA {ds : DS} {t u : DT} {a b : Int} (x : EvT t ds (.int a)) (y : EvT u ds (.int b)) (m : MulOk a b) : EvT (d2 dMulA t u) ds (.int (a * b)) := ev_2 x y fun Q q => ⟨m, q⟩
theorem nl_int {i : Int} : ∀ xs, (PyData.int i : D) ≠ .list xs := fun _ => nofun
theorem nl_str {z : Str} : ∀ xs, (PyData.str z : D) ≠ .list xs := fun _ => nofun
theorem ev_fdiv {ds : DS} {t u : DT} {a b : Int} (x : EvT t ds (.int a)) (y : EvT u ds (.int b)) (m : DivOk b) : EvT (d2 dFdiv t u) ds (.int (a.fdiv b)) := ev_2 x y fun Q q => ⟨m, q⟩
def g_divided : DF := fun dl P => ∃ (t b : Int) (w : Nd), dl = [.int t, .int b, .str w.s] ∧ 1 ≤ b ∧ b ≤ 1000 ∧ P (.val (.int (ndiv t b w)))
def tb_divided : DM := (mSeq (mIf (bT (d2 dEq (dVar 2) (dC (.str "down")))) (mRet (d2 dFdiv (dVar 0) (dVar 1))) mNil)
    (mRet (dIf (bT (d2 dEq (dVar 2) (dC (.str "up")))) (d1 dNeg (d2 dFdiv (d1 dNeg (dVar 0)) (dVar 1))) (d2 dFdiv (d2 dAdd (d2 dMulA (dC (.int 2)) (dVar 0)) (dVar 1)) (d2 dMulA (dC (.int 2)) (dVar 1))))))
theorem rd_divided : ∀ dl Q, dl.length = 3 → g_divided dl Q → tb_divided (enF Q) (slots0 3 dl) := by
  rintro dl Q - ⟨t, b, w, rfl, h1, h2, h⟩
  have d1 : DivOk b := DivOk.of (b := 30) (by omega) (by omega) (by decide)
  have d2 : DivOk (2 * b) := DivOk.of (b := 30) (by omega) (by omega) (by decide)
  have m1 : MulOk 2 t := MulOk.l ⟨by decide, by decide⟩
  have m2 : MulOk 2 b := MulOk.l ⟨by decide, by decide⟩
  show tb_divided (enF Q) [.val (.int t), .val (.int b), .val (.str w.s)]
  unfold tb_divided
  cases w with
  | down => exact seq_yes (eb_eqS (ev_v (i := 2) rfl)) (ret_v (ev_fdiv (ev_v (i := 0) rfl) (ev_v (i := 1) rfl) d1) nl_int h)
  | up => exact seq_no (eb_eqS (ev_v (i := 2) rfl)) (ret_v (ev_if (eb_eqS (b := true) (ev_v (i := 2) rfl)) (fun _ => ev_neg (ev_fdiv (ev_neg (ev_v (i := 0) rfl)) (ev_v (i := 1) rfl) d1)) (fun h => nomatch h)) nl_int h)
  | near => exact seq_no (eb_eqS (ev_v (i := 2) rfl)) (ret_v (ev_if (eb_eqS (b := false) (ev_v (i := 2) rfl)) (fun h => nomatch h) (fun _ => ev_fdiv (ev_add (ev_mulA ev_c (ev_v (i := 0) rfl) m1) (ev_v (i := 1) rfl)) (ev_mulA ev_c (ev_v (i := 1) rfl) m2) d2)) nl_int h)
def optK : Option Kn → D
  | none => .none
  | some m => knD m
def g_met_cells : DF := fun dl P => ∃ (o : Option Kn) (b : Kn), dl = [optK o, knD b] ∧ (∀ m, o = some m → keysN m ∧ m.length ≤ 1000) ∧ P (.val (knD (meet1 id b o)))
def cc_met_cells_1 : DTT := (bAnd (bT (dDIn false (dVar 2) (dVar 1))) (bT (d2 dEq (dDIx (dVar 1) (dVar 2)) (dDIx (dVar 0) (dVar 2)))))
def ce_met_cells_1 : DT := (dTup (aCons (dVar 2) (aCons (dDIx (dVar 0) (dVar 2)) aNil)))
def tb_met_cells : DM := (mSeq (mIf (bT (d2 (dIsN false) (dVar 0) (dC .none))) (mRet (dVar 1)) mNil)
    (mRet (dFz (dB bDictP (aCons (dComp (iDk (dVar 0)) (gNm 2) cc_met_cells_1 ce_met_cells_1 [2]) aNil)))))
theorem rd_met_cells : ∀ dl Q, dl.length = 2 → g_met_cells dl Q → tb_met_cells (enF Q) (slots0 3 dl) := by
  rintro dl Q - ⟨o, b, rfl, ho, k⟩
  have sz : (1000 : Nat) ≤ sizeLine := by decide
  show tb_met_cells (enF Q) [.val (optK o), .val (knD b), .no]
  unfold tb_met_cells
  cases o with
  | none => exact seq_yes (b := _) (fun Q q => by simpa [optK, isNone] using q) (by simpa [knD, meet1] using k)
  | some a =>
    obtain ⟨hk, hl⟩ := ho a rfl
    refine seq_no (fun Q q => by simpa [optK, knD, isNone] using q) ?_
    show dFz _ _ _
    unfold dFz
    simp only [dB, aCons, dComp, aNil, iDk, dVar, optK, List.getElem?_cons_zero, pk, peek, knD]
    refine ⟨mapK a, rfl, by rw [List.length_map, mapK_len]; omega, ?_⟩
    rw [keys_int]
    refine comp_fil (fun p : Int × Int => PyData.int p.1) (fun p => decide (getK b p.1 = some p.2)) prI a [] (fun p hp L hL => ?_) ?_
    · have e1 : getK a p.1 = some p.2 := (get_mem hk).mpr hp
      show cc_met_cells_1 [.val (knD a), .val (knD b), .val (.int p.1)] _
      have v0 : EvT (dVar 0) [.val (knD a), .val (knD b), .val (.int p.1)] (knD a) := ev_v rfl
      have v1 : EvT (dVar 1) [.val (knD a), .val (knD b), .val (.int p.1)] (knD b) := ev_v rfl
      have v2 : EvT (dVar 2) [.val (knD a), .val (knD b), .val (.int p.1)] (.int p.1) := ev_v rfl
      unfold cc_met_cells_1
      cases hb : getK b p.1 with
      | none =>
        rw [hb] at hL
        have hL : L none [.val (knD a), .val (knD b), .no] := hL
        refine eb_and (a := false) (b := false) (eb_t (by have := ev_ddin (neg := false) v2 v1; rw [hb] at this; exact this)) (fun h => nomatch h) _ ?_
        exact hL
      | some v =>
        refine eb_and (a := true) (eb_t (by have := ev_ddin (neg := false) v2 v1; rw [hb] at this; exact this)) (fun _ => eb_t (ev_eqI (ev_ddix v1 v2 hb) (ev_ddix v0 v2 e1))) _ ?_
        rw [hb] at hL
        by_cases e : v = p.2
        · subst e
          rw [if_pos (by simp)] at hL
          simp only [Bool.true_and, decide_true, if_true]
          exact take_ev (ev_pr v2 (ev_ddix v0 v2 e1)) hL
        · rw [if_neg (by simpa using e)] at hL
          rw [decide_eq_false e]
          exact hL
    · simp only [peeks, pk, peek, bDictP, List.nil_append]
      refine ⟨mapK (metL a b), pairs_map _, mapK (metL a b), by rw [merge_new (keys_met hk)], ?_⟩
      exact k
end K18.L17
namespace K18
open PySem PySem.Spec PyProof.Rows L2 BK
open DL hiding g_is_between tb_is_between rd_is_between
theorem valD_nil (j : Key) : valD [] j = none := rfl
theorem valD_cons (p : Key × D) (r : List (Key × D)) (j : Key) : valD (p :: r) j = if p.1 = j then some p.2 else valD r j := by
  unfold valD
  rw [List.find?_cons]
  by_cases h : p.1 = j <;> simp [h]
theorem valD_put : ∀ (l : List (Key × D)) (k j : Key) (d : D), valD (putD l k d) j = if j = k then some d else valD l j := by
  intro l k j d
  unfold putD
  split
  · rename_i h
    induction l with
    | nil => simp at h
    | cons e l ih =>
      rw [List.map_cons, valD_cons, valD_cons]
      by_cases hk : e.1 = k
      · rw [if_pos hk]
        by_cases hj : j = k
        · rw [if_pos hj, if_pos (hk.trans hj.symm)]
        · have h1 : ¬ e.1 = j := fun z => hj (z.symm.trans hk)
          rw [if_neg hj, if_neg h1, if_neg h1]
          by_cases hl : (l.any fun e => decide (e.1 = k)) = true
          · have := ih hl; rw [if_neg hj] at this; exact this
          · have : l.map (fun e => if e.1 = k then (e.1, d) else e) = l := by
              conv => rhs; rw [← List.map_id l]
              apply List.map_congr_left
              intro x hx
              rw [if_neg fun z => hl (List.any_eq_true.mpr ⟨x, hx, decide_eq_true z⟩)]; rfl
            rw [this]
      · rw [if_neg hk]
        have hl : (l.any fun e => decide (e.1 = k)) = true := by simpa [hk] using h
        rw [ih hl]
        by_cases hj : e.1 = j
        · have : ¬ j = k := fun z => hk (hj.trans z)
          rw [if_pos hj, if_neg this, if_pos hj]
        · rw [if_neg hj, if_neg hj]
  · rename_i h
    induction l with
    | nil => rw [List.nil_append, valD_cons, valD_nil]; by_cases hj : j = k
             · simp [hj]
             · simp [hj, Ne.symm hj]
    | cons e l ih =>
      have h2 : ¬ (l.any fun e => decide (e.1 = k)) = true := fun z => h (by simp [List.any_cons, z])
      have hk : ¬ e.1 = k := fun z => h (by simp [List.any_cons, z])
      rw [List.cons_append, valD_cons, valD_cons, ih h2]
      by_cases hj : e.1 = j
      · have : ¬ j = k := fun z => hk (hj.trans z)
        rw [if_pos hj, if_neg this, if_pos hj]
      · rw [if_neg hj, if_neg hj]
abbrev natsD (ls : List Nat) : List D := ls.map fun (x : Nat) => .int (x : Int)
end K18
namespace K18
open PySem PySem.Spec PyProof.Rows L2 BK
open DL hiding g_is_between tb_is_between rd_is_between
def cellK (k : Key) : Prop := ∃ c : Int, k = .inl c ∧ cellB c
structure CK (kvs : List (Key × D)) : Prop where
  nd : (kvs.map (·.1)).Nodup
  ce : ∀ k ∈ kvs.map (·.1), cellK k
theorem CK.nil : CK [] := ⟨List.nodup_nil, fun _ h => nomatch h⟩
theorem nodup_len {α : Type} [DecidableEq α] : ∀ {l m : List α}, l.Nodup → (∀ x ∈ l, x ∈ m) → l.length ≤ m.length
  | [], _, _, _ => Nat.zero_le _
  | x :: l, m, hn, hs => by
    rw [List.nodup_cons] at hn
    have hx := hs x List.mem_cons_self
    have ih := nodup_len (l := l) (m := m.erase x) hn.2 fun y hy => by
      have hy' := hs y (List.mem_cons_of_mem _ hy)
      have : y ≠ x := fun e => hn.1 (e ▸ hy)
      exact (List.mem_erase_of_ne this).mpr hy'
    rw [List.length_erase_of_mem hx] at ih
    have : 0 < m.length := List.length_pos_of_mem hx
    rw [List.length_cons]; omega
theorem CK.len {kvs : List (Key × D)} (h : CK kvs) : kvs.length ≤ 10 := by
  have := nodup_len (l := kvs.map (·.1)) (m := (List.range 10).map fun (n : Nat) => (Sum.inl (n : Int) : Key)) h.nd fun k hk => by
    obtain ⟨c, rfl, h0, h1⟩ := h.ce k hk
    exact List.mem_map.mpr ⟨c.toNat, List.mem_range.mpr (by omega), by rw [show ((c.toNat : Nat) : Int) = c by omega]⟩
  simpa using this
theorem keys_put (l : List (Key × D)) (k : Key) (d : D) : (putD l k d).map (·.1) = if (l.any fun e => decide (e.1 = k)) = true then l.map (·.1) else l.map (·.1) ++ [k] := by
  unfold putD
  split
  · rw [List.map_map]
    apply List.map_congr_left
    intro e _
    by_cases h : e.1 = k <;> simp [h]
  · rw [List.map_append]; rfl
theorem CK.put {kvs : List (Key × D)} (h : CK kvs) {k : Key} (hk : cellK k) (d : D) : CK (putD kvs k d) := by
  have e := keys_put kvs k d
  split at e
  · exact ⟨by rw [e]; exact h.nd, by rw [e]; exact h.ce⟩
  · rename_i ha
    refine ⟨by
      rw [e, List.nodup_append]
      refine ⟨h.nd, by simp, ?_⟩
      rintro a ha' b hb rfl
      obtain ⟨x, hx, rfl⟩ := List.mem_map.mp ha'
      simp at hb
      exact ha (List.any_eq_true.mpr ⟨x, hx, decide_eq_true hb⟩), ?_⟩
    rw [e]
    intro x hx
    rcases List.mem_append.mp hx with hx | hx
    · exact h.ce x hx
    · rw [List.mem_singleton.mp hx]; exact hk
theorem CK.drop {kvs : List (Key × D)} (h : CK kvs) (k : Key) : CK (dropD kvs k) := by
  have sub : ((dropD kvs k).map (·.1)).Sublist (kvs.map (·.1)) := List.Sublist.map _ List.filter_sublist
  exact ⟨h.nd.sublist sub, fun x hx => h.ce x (sub.subset hx)⟩
theorem Rw.at1 {r : Rw} {c : Int} (h : r.sets = some c) : atI (.str r.word :: r.args) 1 = some (.int c) := by
  cases r <;> simp at h <;> (subst h; rfl)
end K18
namespace K18
open PySem PySem.Spec PyProof.Rows L2 BK
open DL hiding g_is_between tb_is_between rd_is_between
theorem sett_is {ds : DS} {h : Hd} {d : D} {P : SD → DS → Prop} (i : HdIs ds h d) (n : ∀ xs, d ≠ .list xs) (k : P (.val d) ds) : sett h ds P := by
  have e := i.pk
  cases h with
  | tmp d' => cases e; exact k
  | slot j =>
    cases hd : ds[j]? with
    | none => simp [hd] at e
    | some s =>
      cases s with
      | val d' => simp [hd] at e; subst e; simpa [sett, hd] using k
      | own xs => simp [hd] at e; exact absurd e.symm (n _)
      | no => simp [hd] at e
      | dic _ => simp [hd] at e
      | wd _ => simp [hd] at e
      | ob _ => simp [hd] at e
  | new s =>
    cases s with
    | val d' => cases e; exact k
    | own xs => cases e; exact absurd rfl (n _)
    | no => cases e
    | dic _ => cases e
    | wd _ => cases e
    | ob _ => cases e
  | fld _ _ _ =>
    simp only [peek] at e
    split at e
    · split at e
      · split at e
        · cases e; exact absurd rfl (n _)
        · cases e
      · cases e
    · cases e
end K18
namespace K18.L17
open PySem PySem.Spec PyProof.Rows L2 BK
open DL hiding g_is_between tb_is_between rd_is_between
def g_reckoned : DF := fun dl P => ∃ (r : Rw) (vs : List Int) (v a m : Int), dl = [r.d, .list (vs.map .int)] ∧ r.Ok a m ∧ reck r vs = some v ∧ P (.val (.int v))
def tb_reckoned : DM := (mSeq (mSet 2 (d2 dIx (dVar 0) (dC (.int 0))))
    (mSeq (mIf (bT (d2 dEq (dVar 2) (dC (.str "copy")))) (mRet (d2 dIx (dVar 1) (dC (.int 0)))) mNil)
    (mSeq (mIf (bT (d2 dEq (dVar 2) (dC (.str "times")))) (mRet (d2 dMulA (d2 dIx (dVar 0) (dC (.int 2))) (d2 dIx (dVar 1) (dC (.int 0))))) mNil)
    (mSeq (mIf (bT (d2 dEq (dVar 2) (dC (.str "share")))) (mRet (dCall g_divided (aCons (d2 dMulA (d2 dIx (dVar 1) (dC (.int 0))) (d2 dIx (dVar 0) (dC (.int 3)))) (aCons (d2 dIx (dVar 0) (dC (.int 4))) (aCons (d2 dIx (dVar 0) (dC (.int 5))) aNil))))) mNil)
    (mSeq (mUnp (dVar 1) (gTp 2 (gsCons (gNm 3) (gsCons (gNm 4) gsNil))))
    (mSeq (mIf (bOr (bT (d2 dEq (dVar 2) (dC (.str "add")))) (bT (d2 dEq (dVar 2) (dC (.str "take"))))) (mRet (dIf (bT (d2 dEq (dVar 2) (dC (.str "add")))) (d2 dAdd (dVar 3) (dVar 4)) (d2 dSub (dVar 3) (dVar 4)))) mNil)
    (mSeq (mIf (bOr (bT (d2 dEq (dVar 2) (dC (.str "less")))) (bT (d2 dEq (dVar 2) (dC (.str "same"))))) (mRet (dIf (bT (d2 dEq (dVar 2) (dC (.str "less")))) (dB bInt (aCons (d2 dLt (dVar 3) (dVar 4)) aNil)) (dB bInt (aCons (d2 dEq (dVar 3) (dVar 4)) aNil)))) mNil)
    (mRet (dIf (bT (d2 dEq (dVar 2) (dC (.str "least")))) (dB bMin (aCons (dVar 3) (aCons (dVar 4) aNil))) (dB bMax (aCons (dVar 3) (aCons (dVar 4) aNil))))))))))))
theorem ev_minI {ds : DS} {t u : DT} {a b : Int} (x : EvT t ds (.int a)) (y : EvT u ds (.int b)) : EvT (dB bMin (aCons t (aCons u aNil))) ds (.int (min a b)) := ev_b (ev_cons x (ev_cons y ev_nil)) fun Q q => q
theorem ev_maxI {ds : DS} {t u : DT} {a b : Int} (x : EvT t ds (.int a)) (y : EvT u ds (.int b)) : EvT (dB bMax (aCons t (aCons u aNil))) ds (.int (max a b)) := ev_b (ev_cons x (ev_cons y ev_nil)) fun Q q => q
theorem ev_ltI {ds : DS} {t u : DT} {a b : Int} (x : EvT t ds (.int a)) (y : EvT u ds (.int b)) : EvT (d2 dLt t u) ds (.bool (decide (a < b))) := ev_2 x y fun Q q => by simpa using q
theorem ev_intB {ds : DS} {t : DT} {b : Bool} (x : EvT t ds (.bool b)) : EvT (dB bInt (aCons t aNil)) ds (.int (if b then 1 else 0)) := ev_b (ev_cons x ev_nil) fun Q q => by cases b <;> simpa using q
theorem ev_intI {ds : DS} {t : DT} {i : Int} (x : EvT t ds (.int i)) : EvT (dB bInt (aCons t aNil)) ds (.int i) := ev_b (ev_cons x ev_nil) fun Q q => by simpa using q
theorem ev_at {ds : DS} {t : DT} {r : Rw} {i : Int} {d : D} (x : EvT t ds r.d) (e : atI (.str r.word :: r.args) i = some d) : EvT (d2 dIx t (dC (.int i))) ds d := ev_ixT (by rw [r.d_eq] at x; exact x) ev_c e
theorem set_ev {E : En} {ds : DS} {j : Nat} {t : DT} {d : D} (x : EvT t ds d) (n : ∀ xs, d ≠ .list xs) (k : put j (.val d) ds E.nx) : mSet j t E ds := x _ fun h i => sett_is i n k
theorem rd_reckoned : ∀ dl Q, dl.length = 2 → g_reckoned dl Q → tb_reckoned (enF Q) (slots0 5 dl) := by
  rintro dl Q - ⟨r, vs, v, a, m, rfl, ho, hv, k⟩
  show tb_reckoned (enF Q) [.val r.d, .val (.list (vs.map .int)), .no, .no, .no]
  unfold tb_reckoned
  refine seq1 [.val r.d, .val (.list (vs.map .int)), .val (.str r.word), .no, .no] (fun k hk => set_ev (ev_w (ev_v rfl)) nl_str hk) ?_
  cases r with
  | copy c x =>
    match vs, hv with
    | [y0], hv =>
      cases hv
      exact seq_yes (eb_eqS (z := "copy") (ev_v (i := 2) rfl)) (ret_v (ev_ixL (xs := [.int v]) (ev_v (i := 1) rfl) ev_c rfl) nl_int k)
  | times c n x =>
    match vs, hv with
    | [y0], hv =>
      cases hv
      exact seq_no (eb_eqS (z := "times") (ev_v (i := 2) rfl)) (seq_yes (eb_eqS (z := "times") (ev_v (i := 2) rfl)) (ret_v (ev_mulA (ev_at (r := .times c n x) (d := .int n) (ev_v (i := 0) rfl) rfl) (ev_ixL (xs := [.int y0]) (ev_v (i := 1) rfl) ev_c rfl) (MulOk.l (by have := ho.2.1; omega))) nl_int k))
  | share c x p q w =>
    match vs, hv with
    | [y0], hv =>
      cases hv
      have hp := ho.2.2.1
      have hq := ho.2.2.2
      exact seq_no (eb_eqS (z := "share") (ev_v (i := 2) rfl)) (seq_no (eb_eqS (z := "share") (ev_v (i := 2) rfl)) (seq_yes (eb_eqS (z := "share") (ev_v (i := 2) rfl)) (ret_v (ev_call (ev_cons (ev_mulA (ev_ixL (xs := [.int y0]) (ev_v (i := 1) rfl) ev_c rfl) (ev_at (r := .share c x p q w) (d := .int p) (ev_v (i := 0) rfl) rfl) (MulOk.r (by have := hp.1; have := hp.2; omega)))
        (ev_cons (ev_at (r := .share c x p q w) (d := .int q) (ev_v (i := 0) rfl) rfl) (ev_cons (ev_at (r := .share c x p q w) (d := .str w.s) (ev_v (i := 0) rfl) rfl) ev_nil))) fun P h => ⟨y0 * p, q, w, rfl, hq.1, by omega, h⟩) nl_int k)))
  | tri kk c a1 b1 =>
    match vs, hv with
    | [x, y], hv =>
      cases hv
      have v3 : EvT (dVar 3) [.val (Rw.tri kk c a1 b1).d, .val (.list [.int x, .int y]), .val (.str kk.s), .val (.int x), .val (.int y)] (.int x) := ev_v rfl
      have v4 : EvT (dVar 4) [.val (Rw.tri kk c a1 b1).d, .val (.list [.int x, .int y]), .val (.str kk.s), .val (.int x), .val (.int y)] (.int y) := ev_v rfl
      have n1 : decide (kk.s = "copy") = false := by cases kk <;> decide +kernel
      have n2 : decide (kk.s = "times") = false := by cases kk <;> decide +kernel
      have n3 : decide (kk.s = "share") = false := by cases kk <;> decide +kernel
      refine seq_no (eb_eqS (ev_v (i := 2) rfl) n1) (seq_no (eb_eqS (ev_v (i := 2) rfl) n2) (seq_no (eb_eqS (ev_v (i := 2) rfl) n3) ?_))
      refine seq1 [.val (Rw.tri kk c a1 b1).d, .val (.list [.int x, .int y]), .val (.str kk.s), .val (.int x), .val (.int y)] (fun k hk => by simpa [Rw.word] using hk) ?_
      cases kk with
      | add => exact seq_yes (b := _) (eb_or (a := true) (b := true) (eb_eqS (ev_v (i := 2) rfl)) (fun h => nomatch h)) (ret_v (ev_if (eb_eqS (b := true) (ev_v (i := 2) rfl)) (fun _ => ev_add v3 v4) (fun h => nomatch h)) nl_int k)
      | take => exact seq_yes (b := _) (eb_or (a := false) (b := true) (eb_eqS (ev_v (i := 2) rfl)) (fun h => eb_eqS (ev_v (i := 2) rfl))) (ret_v (ev_if (eb_eqS (b := false) (ev_v (i := 2) rfl)) (fun h => nomatch h) (fun _ => ev_sub v3 v4)) nl_int k)
      | less =>
        refine seq_no (eb_or (a := false) (b := false) (eb_eqS (ev_v (i := 2) rfl)) (fun h => eb_eqS (ev_v (i := 2) rfl))) (seq_yes (eb_or (a := true) (b := true) (eb_eqS (ev_v (i := 2) rfl)) (fun h => nomatch h)) (ret_v (ev_if (eb_eqS (b := true) (ev_v (i := 2) rfl)) (fun _ => ev_intB (ev_ltI v3 v4)) (fun h => nomatch h)) nl_int ?_))
        simpa [triOp] using k
      | same =>
        refine seq_no (eb_or (a := false) (b := false) (eb_eqS (ev_v (i := 2) rfl)) (fun h => eb_eqS (ev_v (i := 2) rfl))) (seq_yes (eb_or (a := false) (b := true) (eb_eqS (ev_v (i := 2) rfl)) (fun h => eb_eqS (ev_v (i := 2) rfl))) (ret_v (ev_if (eb_eqS (b := false) (ev_v (i := 2) rfl)) (fun h => nomatch h) (fun _ => ev_intB (ev_eqI v3 v4))) nl_int ?_))
        simpa [triOp] using k
      | least => exact seq_no (eb_or (a := false) (b := false) (eb_eqS (ev_v (i := 2) rfl)) (fun h => eb_eqS (ev_v (i := 2) rfl))) (seq_no (eb_or (a := false) (b := false) (eb_eqS (ev_v (i := 2) rfl)) (fun h => eb_eqS (ev_v (i := 2) rfl))) (ret_v (ev_if (eb_eqS (b := true) (ev_v (i := 2) rfl)) (fun _ => ev_minI v3 v4) (fun h => nomatch h)) nl_int k))
      | most => exact seq_no (eb_or (a := false) (b := false) (eb_eqS (ev_v (i := 2) rfl)) (fun h => eb_eqS (ev_v (i := 2) rfl))) (seq_no (eb_or (a := false) (b := false) (eb_eqS (ev_v (i := 2) rfl)) (fun h => eb_eqS (ev_v (i := 2) rfl))) (ret_v (ev_if (eb_eqS (b := false) (ev_v (i := 2) rfl)) (fun h => nomatch h) (fun _ => ev_maxI v3 v4)) nl_int k))
  | _ => cases hv
end K18.L17
namespace K18
open PySem PySem.Spec PyProof.Rows L2 BK
open DL hiding g_is_between tb_is_between rd_is_between
theorem ev_jumpL {ds : DS} {t : DT} {r : Rw} (x : EvT t ds r.d) : EvT (d2 (dIn false) (d2 dIx t (dC (.int 0))) (dLst (aCons (dC (.str "go")) (aCons (dC (.str "if")) (aCons (dC (.str "bare")) aNil))))) ds (.bool (jumpB r)) :=
  ev_inL (ev_w x) (ev_lst (ev_cons ev_c (ev_cons ev_c (ev_cons ev_c ev_nil)))) rfl (by decide +kernel) (jump_in r)
theorem goal_some {r : Rw} (h : jumpB r = true) : ∃ g, r.goal = some g := Option.isSome_iff_exists.mp h
theorem goal_none {r : Rw} (h : jumpB r = false) : r.goal = none := by unfold jumpB at h; cases e : r.goal with
  | none => rfl
  | some g => rw [e] at h; cases h
def g__law_next : DF := fun dl P => ∃ (r : Rw) (a : Int), dl = [r.d, .int a] ∧ P (.own ((r.ways a).map .int))
def tb__law_next : DM := (mSeq (mSet 2 (dIf (bT (d2 dEq (d2 dIx (dVar 0) (dC (.int 0))) (dC (.str "go")))) (dLst aNil) (dLst (aCons (d2 dAdd (dVar 1) (dC (.int 1))) aNil))))
    (mRet (d2 dAdd (dVar 2) (dRep (dLst (aCons (d2 dIx (dVar 0) (d1 dNeg (dC (.int 1)))) aNil)) (dB bInt (aCons (d2 (dIn false) (d2 dIx (dVar 0) (dC (.int 0))) (dLst (aCons (dC (.str "go")) (aCons (dC (.str "if")) (aCons (dC (.str "bare")) aNil))))) aNil))))))
theorem ways_eq (r : Rw) (a : Int) : r.ways a = (if isGo r then [] else [a + 1]) ++ (match r.goal with | some g => [g] | none => []) := by cases r <;> rfl
def Rw.last : Rw → D
  | .put _ n => .int n
  | .copy _ a => .int a
  | .file _ i => .int i
  | .told _ i => .int i
  | .tri _ _ _ b => .int b
  | .times _ _ a => .int a
  | .share _ _ _ _ w => .str w.s
  | .go t => .int t
  | .jif _ t => .int t
  | .bare _ t => .int t
  | .note z => .str z.s
  | .tell _ z => .str (if z then "int" else "truth")
  | .hangs i => .int i
theorem Rw.atM (r : Rw) : atI (.str r.word :: r.args) (-1) = some r.last := by cases r <;> rfl
theorem Rw.last_goal {r : Rw} {g : Int} (h : r.goal = some g) : r.last = .int g := by cases r <;> simp at h <;> (subst h; rfl)
theorem lst1 {ds : DS} {t : DT} {d : D} (x : EvT t ds d) (Q : QE) (q : Q (.new (.own [d])) ds) : dLst (aCons t aNil) ds Q := x _ fun h hi => show takes [h] ds (fun dl ds2 => Q (.new (.own dl)) ds2) from takes_is (.cons hi .nil) q
theorem rd__law_next : ∀ dl Q, dl.length = 2 → g__law_next dl Q → tb__law_next (enF Q) (slots0 3 dl) := by
  rintro dl Q - ⟨r, a, rfl, k⟩
  show tb__law_next (enF Q) [.val r.d, .val (.int a), .no]
  unfold tb__law_next
  rw [ways_eq] at k
  refine seq1 [.val r.d, .val (.int a), .own (if isGo r then [] else [.int (a + 1)])] (fun k hk => ?_) ?_
  · have x : EvT (dVar 0) [.val r.d, .val (.int a), .no] r.d := ev_v rfl
    simp only [mSet, dIf]
    refine eb_eqS (ev_w x) (word_go r) _ ?_
    cases hg : isGo r with
    | true => rw [hg] at hk; simpa using hk
    | false => rw [hg] at hk; simpa using hk
  have x : EvT (dVar 0) [.val r.d, .val (.int a), .own (if isGo r then [] else [.int (a + 1)])] r.d := ev_v rfl
  have xl : EvT (d2 dIx (dVar 0) (d1 dNeg (dC (.int 1)))) [.val r.d, .val (.int a), .own (if isGo r then [] else [.int (a + 1)])] r.last := ev_ixT (by rw [r.d_eq] at x ⊢; exact x) (ev_neg ev_c) r.atM
  have xi : EvT (dB bInt (aCons (d2 (dIn false) (d2 dIx (dVar 0) (dC (.int 0))) (dLst (aCons (dC (.str "go")) (aCons (dC (.str "if")) (aCons (dC (.str "bare")) aNil))))) aNil)) [.val r.d, .val (.int a), .own (if isGo r then [] else [.int (a + 1)])] (.int (if jumpB r then 1 else 0)) :=
    ev_b (ev_cons (ev_jumpL x) ev_nil) fun Q q => q
  have sz : (1000 : Nat) ≤ sizeLine := by decide
  show d2 dAdd (dVar 2) (dRep _ _) _ _
  simp only [d2, dVar]
  refine lst1 xl _ ?_
  refine xi _ fun h hi => ?_
  refine hi.pk' ?_
  have z3 : 3 ≤ sizeLine := by omega
  have z2 : 2 ≤ sizeLine := by omega
  have z1 : 1 ≤ sizeLine := by omega
  cases hj : jumpB r with
  | true =>
    obtain ⟨g, hg⟩ := goal_some hj
    rw [hg] at k
    rw [Rw.last_goal hg]
    cases hgo : isGo r with
    | true => rw [hgo] at k; simpa [z1] using k
    | false => rw [hgo] at k; simpa [z1, z2] using k
  | false =>
    rw [goal_none hj] at k
    cases hgo : isGo r with
    | true => rw [hgo] at k; simpa [z1] using k
    | false => rw [hgo] at k; simpa [z1, z2] using k
def g__law_reads : DF := fun dl P => ∃ r : Rw, dl = [r.d] ∧ P (.own (r.reads.map .int))
def tb__law_reads : DM := (mSeq (mSet 1 (d2 dIx (dVar 0) (dC (.int 0))))
    (mSeq (mIf (bT (d2 (dIn false) (dVar 1) (dLst (aCons (dC (.str "if")) (aCons (dC (.str "tell")) aNil))))) (mRet (dLst (aCons (d2 dIx (dVar 0) (dC (.int 1))) aNil))) mNil)
    (mSeq (mIf (bT (d2 (dIn false) (dVar 1) (dLst (aCons (dC (.str "copy")) (aCons (dC (.str "share")) aNil))))) (mRet (dLst (aCons (d2 dIx (dVar 0) (dC (.int 2))) aNil))) mNil)
    (mSeq (mIf (bT (d2 dEq (dVar 1) (dC (.str "times")))) (mRet (dLst (aCons (d2 dIx (dVar 0) (dC (.int 3))) aNil))) mNil)
    (mRet (dIf (bT (d2 (dIn false) (dVar 1) (dLst (aCons (dC (.str "add")) (aCons (dC (.str "take")) (aCons (dC (.str "least")) (aCons (dC (.str "most")) (aCons (dC (.str "less")) (aCons (dC (.str "same")) aNil))))))))) (dB bList (aCons (dSl (dVar 0) (pSome (dC (.int 2))) pNone) aNil)) (dLst aNil)))))))
def isIT : Rw → Bool
  | .jif _ _ => true
  | .tell _ _ => true
  | _ => false
def isCS : Rw → Bool
  | .copy _ _ => true
  | .share _ _ _ _ _ => true
  | _ => false
def isTm : Rw → Bool
  | .times _ _ _ => true
  | _ => false
def isTr : Rw → Bool
  | .tri _ _ _ _ => true
  | _ => false
theorem in_it (r : Rw) : inD (.str r.word) [.str "if", .str "tell"] = isIT r := by
  cases r with
  | tri k c a b => cases k <;> rfl
  | _ => rfl
theorem in_cs (r : Rw) : inD (.str r.word) [.str "copy", .str "share"] = isCS r := by
  cases r with
  | tri k c a b => cases k <;> rfl
  | _ => rfl
theorem in_tr (r : Rw) : inD (.str r.word) [.str "add", .str "take", .str "least", .str "most", .str "less", .str "same"] = isTr r := by
  cases r with
  | tri k c a b => cases k <;> rfl
  | _ => rfl
theorem word_tm (r : Rw) : decide (r.word = "times") = isTm r := by
  cases r with
  | tri k c a b => cases k <;> rfl
  | _ => rfl
theorem reads_split (r : Rw) : (isIT r = true ∧ ∃ a, atI (.str r.word :: r.args) 1 = some (.int a) ∧ r.reads = [a]) ∨ (isIT r = false ∧ isCS r = true ∧ ∃ a, atI (.str r.word :: r.args) 2 = some (.int a) ∧ r.reads = [a]) ∨
    (isIT r = false ∧ isCS r = false ∧ isTm r = true ∧ ∃ a, atI (.str r.word :: r.args) 3 = some (.int a) ∧ r.reads = [a]) ∨
    (isIT r = false ∧ isCS r = false ∧ isTm r = false ∧ isTr r = true ∧ DL.cutD (.str r.word :: r.args) (some 2) none = r.reads.map .int) ∨
    (isIT r = false ∧ isCS r = false ∧ isTm r = false ∧ isTr r = false ∧ r.reads = []) := by
  cases r with
  | jif a t => exact .inl ⟨rfl, a, rfl, rfl⟩
  | tell a z => exact .inl ⟨rfl, a, rfl, rfl⟩
  | copy c a => exact .inr (.inl ⟨rfl, rfl, a, rfl, rfl⟩)
  | share c a p q w => exact .inr (.inl ⟨rfl, rfl, a, rfl, rfl⟩)
  | times c m a => exact .inr (.inr (.inl ⟨rfl, rfl, rfl, a, rfl, rfl⟩))
  | tri k c a b => exact .inr (.inr (.inr (.inl ⟨rfl, rfl, rfl, rfl, by simp [DL.cutD, HT.sIx, Rw.args]⟩)))
  | _ => exact .inr (.inr (.inr (.inr ⟨rfl, rfl, rfl, rfl, rfl⟩)))
theorem rd__law_reads : ∀ dl Q, dl.length = 1 → g__law_reads dl Q → tb__law_reads (enF Q) (slots0 2 dl) := by
  rintro dl Q - ⟨r, rfl, k⟩
  show tb__law_reads (enF Q) [.val r.d, .no]
  unfold tb__law_reads
  refine seq1 [.val r.d, .val (.str r.word)] (fun k hk => ?_) ?_
  · simp only [mSet]
    exact ev_w (ev_v (i := 0) rfl) _ fun h hi => sett_is hi (fun xs e => nomatch e) hk
  have x : EvT (dVar 0) [.val r.d, .val (.str r.word)] (.tuple (.str r.word :: r.args)) := ev_v (by rw [← r.d_eq]; rfl)
  have w : EvT (dVar 1) [.val r.d, .val (.str r.word)] (.str r.word) := ev_v rfl
  have t1 := eb_t (ev_inL w (ev_lst (ev_cons ev_c (ev_cons ev_c ev_nil))) rfl (by decide +kernel) (in_it r))
  have t2 := eb_t (ev_inL w (ev_lst (ev_cons ev_c (ev_cons ev_c ev_nil))) rfl (by decide +kernel) (in_cs r))
  have t3 := eb_eqS w (word_tm r)
  have t4 := eb_t (ev_inL w (ev_lst (ev_cons ev_c (ev_cons ev_c (ev_cons ev_c (ev_cons ev_c (ev_cons ev_c (ev_cons ev_c ev_nil))))))) rfl (by decide +kernel) (in_tr r))
  have one : ∀ {a : Int} {i : Int}, atI (.str r.word :: r.args) i = some (.int a) → r.reads = [a] → mRet (dLst (aCons (d2 dIx (dVar 0) (dC (.int i))) aNil)) (enF Q) [.val r.d, .val (.str r.word)] := fun {a i} e er => by
    rw [er] at k
    exact lst1 (ev_ixT x ev_c e) _ k
  rcases reads_split r with ⟨b1, a, e, er⟩ | ⟨b1, b2, a, e, er⟩ | ⟨b1, b2, b3, a, e, er⟩ | ⟨b1, b2, b3, b4, e⟩ | ⟨b1, b2, b3, b4, er⟩
  · rw [b1] at t1
    exact seq_yes t1 (one e er)
  · rw [b1] at t1; rw [b2] at t2
    exact seq_no t1 (seq_yes t2 (one e er))
  · rw [b1] at t1; rw [b2] at t2; rw [b3] at t3
    exact seq_no t1 (seq_no t2 (seq_yes t3 (one e er)))
  · rw [b1] at t1; rw [b2] at t2; rw [b3] at t3; rw [b4] at t4
    refine seq_no t1 (seq_no t2 (seq_no t3 ?_))
    simp only [mRet, dIf]
    refine t4 _ ?_
    rw [if_pos rfl]
    rw [r.d_eq]
    simp [e]
    exact k
  · rw [b1] at t1; rw [b2] at t2; rw [b3] at t3; rw [b4] at t4
    refine seq_no t1 (seq_no t2 (seq_no t3 ?_))
    simp only [mRet, dIf]
    refine t4 _ ?_
    rw [if_neg Bool.false_ne_true]
    rw [er] at k
    exact k
end K18
namespace K18.L17
open PySem PySem.Spec PyProof.Rows L2 BK
open DL hiding g_is_between tb_is_between rd_is_between
def cst_RECKONING : D := .tuple [(.str "copy"), (.str "add"), (.str "take"), (.str "least"), (.str "most"), (.str "times"), (.str "share"), (.str "less"), (.str "same")]
theorem rk_in (r : Rw) : inD (.str r.word) [.str "copy", .str "add", .str "take", .str "least", .str "most", .str "times", .str "share", .str "less", .str "same"] = reckB r := by
  cases r with
  | tri k c a b => cases k <;> rfl
  | _ => rfl
theorem ev_rk {ds : DS} {t : DT} {r : Rw} (x : EvT t ds r.d) : EvT (d2 (dIn false) (d2 dIx t (dC (.int 0))) (dC cst_RECKONING)) ds (.bool (reckB r)) :=
  ev_inT (ev_w x) ev_c rfl (by decide +kernel) (rk_in r)
theorem ev_ninT {ds : DS} {t u : DT} {d : D} {xs : List D} {b : Bool} (x : EvT t ds d) (y : EvT u ds (.tuple xs)) (f1 : flatD d = true) (f2 : xs.all flatD = true) (e : inD d xs = b) : EvT (d2 (dIn true) t u) ds (.bool (!b)) :=
  ev_2 x y fun Q q => by subst e; cases d <;> exact ⟨f1, f2, q⟩
theorem ev_ninL {ds : DS} {t u : DT} {d : D} {xs : List D} {b : Bool} (x : EvT t ds d) (y : EvT u ds (.list xs)) (f1 : flatD d = true) (f2 : xs.all flatD = true) (e : inD d xs = b) : EvT (d2 (dIn true) t u) ds (.bool (!b)) :=
  ev_2 x y fun Q q => by subst e; cases d <;> exact ⟨f1, f2, q⟩
theorem ev_nset {ds : DS} {t : DT} {r : Rw} (x : EvT t ds r.d) : EvT (d2 (dIn true) (d2 dIx t (dC (.int 0))) (dC cst_SETTING)) ds (.bool (!setB r)) :=
  ev_ninT (ev_w x) ev_c rfl (by decide +kernel) (set_in r)
def isPut : Rw → Bool
  | .put _ _ => true
  | _ => false
theorem word_put (r : Rw) : decide (r.word = "put") = isPut r := by
  cases r with
  | tri k c a b => cases k <;> rfl
  | _ => rfl
def isJif : Rw → Bool
  | .jif _ _ => true
  | _ => false
theorem word_jif (r : Rw) : decide (r.word = "if") = isJif r := by
  cases r with
  | tri k c a b => cases k <;> rfl
  | _ => rfl
theorem Rw.at1 {r : Rw} {c : Int} (h : r.sets = some c) : atI (.str r.word :: r.args) 1 = some (.int c) := by
  cases r <;> simp at h <;> (subst h; rfl)
theorem opt_in : ∀ l : List (Option Int), inD .none (l.map optD) = (allSome l).isNone
  | [] => rfl
  | none :: l => by
    have e : inD .none ((none :: l).map optD) = (PyData.eqv .none .none || inD .none (l.map optD)) := rfl
    rw [e]; rfl
  | some x :: l => by
    have e : inD .none ((some x :: l).map optD) = (PyData.eqv (.int x) .none || inD .none (l.map optD)) := rfl
    have e2 : PyData.eqv (.int x) .none = false := rfl
    rw [e, e2, opt_in l]
    show (allSome l).isNone = ((allSome l).map (x :: ·)).isNone
    cases allSome l <;> rfl
theorem all_some : ∀ {l : List (Option Int)} {vs : List Int}, allSome l = some vs → l.map optD = vs.map .int
  | [], vs, h => by cases h; rfl
  | none :: l, vs, h => nomatch h
  | some x :: l, vs, h => by
    have h : (allSome l).map (x :: ·) = some vs := h
    obtain ⟨ws, e, rfl⟩ := Option.map_eq_some_iff.mp h
    rw [List.map_cons, List.map_cons, all_some e]; rfl
theorem flat_opt (l : List (Option Int)) : (l.map optD).all flatD = true := by
  rw [List.all_map, List.all_eq_true]
  rintro (_ | x) _ <;> rfl
theorem reck_some {r : Rw} {g : Int → Option Int} {vs : List Int} (h : reckB r = true) (e : allSome (r.reads.map g) = some vs) : ∃ v, reck r vs = some v ∧ told r g = some v := by
  have one : ∀ {x : Int}, allSome ([x].map g) = some vs → ∃ v, vs = [v] := fun {x} e => by
    have e : allSome [g x] = some vs := e
    cases hg : g x with
    | none => rw [hg] at e; cases e
    | some v => rw [hg] at e; cases e; exact ⟨v, rfl⟩
  cases r with
  | copy c x => obtain ⟨v, rfl⟩ := one e; exact ⟨_, rfl, by simp only [told]; rw [e]; rfl⟩
  | times c n x => obtain ⟨v, rfl⟩ := one e; exact ⟨_, rfl, by simp only [told]; rw [e]; rfl⟩
  | share c x p q w => obtain ⟨v, rfl⟩ := one e; exact ⟨_, rfl, by simp only [told]; rw [e]; rfl⟩
  | tri k c x y =>
    have e0 : allSome [g x, g y] = some vs := e
    have : ∃ v w, vs = [v, w] := by
      cases hx : g x with
      | none => rw [hx] at e0; cases e0
      | some v => cases hy : g y with
        | none => rw [hx, hy] at e0; cases e0
        | some w => rw [hx, hy] at e0; cases e0; exact ⟨v, w, rfl⟩
    obtain ⟨v, w, rfl⟩ := this
    exact ⟨_, rfl, by simp only [told]; rw [e]; rfl⟩
  | _ => cases h
theorem reck_none {r : Rw} {g : Int → Option Int} (h : reckB r = true) (e : allSome (r.reads.map g) = none) : told r g = none := by
  cases r <;> first | exact absurd (show false = true from h) Bool.false_ne_true | (simp only [told]; rw [e]; rfl)
theorem reck_not {r : Rw} {g : Int → Option Int} (h : reckB r = false) (e : isPut r = false) : told r g = none := by
  cases r <;> first | exact absurd (show true = false from h) (by decide) | exact absurd (show true = false from e) (by decide) | skip
  all_goals (simp only [told]; cases allSome (_ : List (Option Int)) <;> rfl)
end K18.L17
namespace K18.L17
open PySem PySem.Spec PyProof.Rows L2 BK
open DL hiding g_is_between tb_is_between rd_is_between
def g_cells_behind : DF := fun dl P => ∃ (r : Rw) (m : Kn) (a n : Int), dl = [r.d, knD m] ∧ r.Ok a n ∧ keysN m ∧ m.length ≤ 1000 ∧ P (.val (knD (behindK r m)))
def ce_cells_behind_1 : DT := (dDGet 1 (dVar 4))
def cc_cells_behind_1 : DTT := (bT (d2 dNe (dVar 4) (d2 dIx (dVar 0) (dC (.int 1)))))
def ce_cells_behind_2 : DT := (dTup (aCons (dVar 4) (aCons (dDIx (dVar 1) (dVar 4)) aNil)))
def tb_cells_behind : DM := (mSeq (mIf (bT (d2 (dIn true) (d2 dIx (dVar 0) (dC (.int 0))) (dC cst_SETTING))) (mRet (dVar 1)) mNil)
    (mSeq (mSet 2 (dB bDictP (aCons (dComp (iDk (dVar 1)) (gNm 4) cc_cells_behind_1 ce_cells_behind_2 [4]) aNil)))
    (mSeq (mIf (bT (d2 dEq (d2 dIx (dVar 0) (dC (.int 0))) (dC (.str "put")))) (mKput 2 (d2 dIx (dVar 0) (dC (.int 1))) (d2 dIx (dVar 0) (dC (.int 2)))) mNil)
    (mSeq (mSet 3 (dComp (iSeq (dCall g_read_cells (aCons (dVar 0) aNil))) (gNm 4) cYes ce_cells_behind_1 [4]))
    (mSeq (mIf (bAnd (bT (d2 (dIn false) (d2 dIx (dVar 0) (dC (.int 0))) (dC cst_RECKONING))) (bT (d2 (dIn true) (dC .none) (dVar 3)))) (mKput 2 (d2 dIx (dVar 0) (dC (.int 1))) (dCall g_reckoned (aCons (dVar 0) (aCons (dVar 3) aNil)))) mNil)
    (mRet (dFzV 2)))))))
theorem gnm_set {i : Nat} {d : D} {ds : DS} {P : DS → Prop} {s : SD} (h : ds[i]? = some s) (k : P (ds.set i (.val d))) : gNm i d ds P := by
  unfold gNm put
  rw [h]
  exact k
theorem kput_ev {ds : DS} {t u : DT} {d : D} {c : Int} {j : Nat} {kvs : List (Key × D)} {E : En} (y : EvT u ds d) (x : EvT t ds (.int c)) (hj : ds[j]? = some (.dic kvs)) (hl : kvs.length < sizeLine) (k : E.nx (ds.set j (.dic (putD kvs (.inl c) d)))) : mKput j t u E ds := by
  unfold mKput
  refine take_ev y ?_
  unfold isDic
  rw [hj]
  refine x _ fun h i => i.pk' ?_
  rw [hj]
  exact ⟨.inl c, rfl, hl, k⟩
theorem not_in_gone {m : Kn} {c : Int} : c ∉ (goneL m c).map (·.1) := fun h => by
  obtain ⟨p, hp, e⟩ := List.mem_map.mp h
  have := (List.mem_filter.mp hp).2
  simp [e] at this
theorem len_gone (m : Kn) (c : Int) : (goneL m c).length ≤ m.length := List.length_filter_le _ _
theorem rd_cells_behind : ∀ dl Q, dl.length = 2 → g_cells_behind dl Q → tb_cells_behind (enF Q) (slots0 5 dl) := by
  rintro dl Q - ⟨r, m, a, n, rfl, ho, hk, hl, k⟩
  have sz : (2000 : Nat) ≤ sizeLine := by decide
  show tb_cells_behind (enF Q) [.val r.d, .val (knD m), .no, .no, .no]
  unfold tb_cells_behind
  cases hs : r.sets with
  | none =>
    have e : setB r = false := by unfold setB; rw [hs]; rfl
    refine seq_yes (b := _) (eb_t (by have := ev_nset (r := r) (ds := [.val r.d, .val (knD m), .no, .no, .no]) (ev_v (i := 0) rfl); rw [e] at this; exact this)) (ret_v (ev_v (i := 1) rfl) (fun _ => nofun) ?_)
    unfold behindK at k
    rw [hs] at k
    exact k
  | some c =>
    have e : setB r = true := by unfold setB; rw [hs]; rfl
    have hb : behindK r m = match told r (getK m) with
      | none => goneL m c
      | some v => goneL m c ++ [(c, v)] := by unfold behindK; rw [hs] <;> rfl
    have hg := len_gone m c
    refine seq_no (b := _) (eb_t (by have := ev_nset (r := r) (ds := [.val r.d, .val (knD m), .no, .no, .no]) (ev_v (i := 0) rfl); rw [e] at this; exact this)) ?_
    refine seq1 [.val r.d, .val (knD m), .dic (mapK (goneL m c)), .no, .no] (fun k hk2 => ?_) ?_
    · unfold mSet
      simp only [dB, aCons, dComp, aNil, iDk, dVar, List.getElem?_cons_zero, List.getElem?_cons_succ, pk, peek, knD]
      refine ⟨mapK m, rfl, by rw [List.length_map, mapK_len]; omega, ?_⟩
      rw [keys_int]
      refine comp_fil (fun p : Int × Int => PyData.int p.1) (fun p => decide (p.1 ≠ c)) prI m [] (fun p hp L hL => ?_) ?_
      · have e1 : getK m p.1 = some p.2 := (get_mem hk).mpr hp
        have hL : L (if decide (p.1 ≠ c) = true then some (prI p) else none) [.val r.d, .val (knD m), .no, .no, .no] := hL
        refine gnm_set (s := .no) rfl ?_
        show cc_cells_behind_1 [.val r.d, .val (knD m), .no, .no, .val (.int p.1)] _
        have v1 : EvT (dVar 1) [.val r.d, .val (knD m), .no, .no, .val (.int p.1)] (knD m) := ev_v rfl
        have v4 : EvT (dVar 4) [.val r.d, .val (knD m), .no, .no, .val (.int p.1)] (.int p.1) := ev_v rfl
        unfold cc_cells_behind_1
        refine eb_t (ev_neI v4 (ev_at (ev_v (i := 0) rfl) (Rw.at1 hs))) _ ?_
        by_cases e : p.1 = c
        · rw [if_neg (by simp [e])] at hL
          rw [decide_eq_true e]
          exact hL
        · rw [if_pos (by simp [e])] at hL
          rw [decide_eq_false e]
          exact take_ev (ev_pr v4 (ev_ddix v1 v4 e1)) hL
      · simp only [peeks, pk, peek, bDictP, List.nil_append]
        refine ⟨mapK (goneL m c), pairs_map _, ?_⟩
        rw [merge_new (keys_gone hk c)]
        exact hk2
    have fin : ∀ (X : Kn) (s3 : SD), behindK r m = X → mRet (dFzV 2) (enF Q) [.val r.d, .val (knD m), .dic (mapK X), s3, .no] := fun X s3 e => by
      rw [e] at k
      simpa [knD] using k
    have vals : ∀ (X : Kn) (k : DS → Prop), k [.val r.d, .val (knD m), .dic (mapK X), .own ((r.reads.map (getK m)).map optD), .no] → (mSet 3 (dComp (iSeq (dCall g_read_cells (aCons (dVar 0) aNil))) (gNm 4) cYes ce_cells_behind_1 [4])) { enF Q with nx := k } [.val r.d, .val (knD m), .dic (mapK X), .no, .no] := fun X k hk => by
      unfold mSet
      simp only [dComp, iSeq, dCall, aCons, aNil, dVar, List.getElem?_cons_zero, takes, take1]
      refine ⟨r, rfl, ?_⟩
      simp only [hdOf, take1]
      refine ⟨by rw [List.length_map]; have : r.reads.length ≤ 2 := (by cases r <;> exact Nat.le_of_ble_eq_true rfl); omega, ?_⟩
      refine comp_fil (fun c : Int => PyData.int c) (fun _ => true) (fun c => optD (getK m c)) r.reads [] (fun c hc L hL => ?_) ?_
      · exact take_ev (ev_ddget (j := 1) (ds := [.val r.d, .val (knD m), .dic (mapK X), .no, .val (.int c)]) rfl (ev_v (i := 4) rfl)) hL
      · rw [List.filter_eq_self.mpr fun _ _ => rfl, List.nil_append]
        rw [List.map_map] at hk
        exact hk
    cases hp : isPut r with
    | true =>
      obtain ⟨c', v, rfl⟩ : ∃ c' v, r = .put c' v := by
        cases r with
        | put c v => exact ⟨c, v, rfl⟩
        | _ => cases hp
      cases hs
      refine seq_cut (fun ds => ds = [.val (Rw.put c v).d, .val (knD m), .dic (mapK (goneL m c ++ [(c, v)])), .no, .no]) (fun k hk => ?_) ?_
      · refine if_yes (eb_eqS (z := "put") (ev_at (r := .put c v) (ev_v (i := 0) rfl) rfl)) ?_
        refine kput_ev (ev_at (r := .put c v) (d := .int v) (ev_v (i := 0) rfl) rfl) (ev_at (r := .put c v) (d := .int c) (ev_v (i := 0) rfl) rfl) (j := 2) rfl (by rw [mapK_len]; omega) ?_
        rw [put_new not_in_gone]
        exact hk _ rfl
      · rintro ds rfl
        refine seq1 _ (fun k hk => vals _ k hk) ?_
        refine seq_no (b := _) (eb_and (a := false) (b := false) (eb_t (ev_rk (r := .put c v) (ev_v (i := 0) rfl))) (fun h => nomatch h)) ?_
        exact fin _ _ (by rw [hb]; rfl)
    | false =>
      have w1 : ∀ (t : DM) (b : DM) (E : En) (ds : DS), EvT (dVar 0) ds r.d → b E ds → mSeq (mIf (bT (d2 dEq (d2 dIx (dVar 0) (dC (.int 0))) (dC (.str "put")))) t mNil) b E ds := fun t b E ds x h => seq_no (eb_eqS (ev_w x) ((word_put r).trans hp)) h
      refine w1 _ _ _ _ (ev_v rfl) ?_
      refine seq1 _ (fun k hk => vals _ k hk) ?_
      have v0 : EvT (dVar 0) [.val r.d, .val (knD m), .dic (mapK (goneL m c)), .own ((r.reads.map (getK m)).map optD), .no] r.d := ev_v rfl
      have vL : EvT (d2 (dIn true) (dC .none) (dVar 3)) [.val r.d, .val (knD m), .dic (mapK (goneL m c)), .own ((r.reads.map (getK m)).map optD), .no] (.bool (!(allSome (r.reads.map (getK m))).isNone)) := fun Q q => by
        simp only [DL.d2, dC, dVar, List.getElem?_cons_zero, List.getElem?_cons_succ, pk, peek]
        exact ⟨rfl, flat_opt _, by rw [opt_in]; exact q _ .tmp⟩
      have t := eb_and (eb_t (ev_rk v0)) (fun _ => eb_t vL)
      cases hr : reckB r with
      | false =>
        rw [hr] at t
        exact seq_no t (fin _ _ (by rw [hb, reck_not hr hp]))
      | true =>
        rw [hr] at t
        cases ha : allSome (r.reads.map (getK m)) with
        | none =>
          rw [ha] at t
          exact seq_no t (fin _ _ (by rw [hb, reck_none hr ha]))
        | some vs =>
          rw [ha] at t
          obtain ⟨v, e1, e2⟩ := reck_some hr ha
          have fin2 := fin (goneL m c ++ [(c, v)]) (.val (.list (vs.map .int))) (by rw [hb, e2])
          refine seq_yes t ?_
          unfold mKput
          rw [all_some ha]
          simp only [dCall, aCons, aNil, dVar, List.getElem?_cons_zero, List.getElem?_cons_succ, takes, take1]
          refine ⟨r, vs, v, a, n, rfl, ho, e1, ?_⟩
          simp only [hdOf, take1]
          unfold isDic
          simp only [List.set_cons_succ, List.set_cons_zero, List.getElem?_cons_zero, List.getElem?_cons_succ]
          refine ev_at (r := r) (d := .int c) (ev_v (i := 0) rfl) (Rw.at1 hs) _ fun h i => i.pk' ?_
          refine ⟨.inl c, rfl, by rw [mapK_len]; omega, ?_⟩
          rw [put_new not_in_gone]
          exact fin2
end K18.L17
namespace K18.L17
open PySem PySem.Spec PyProof.Rows L2 BK
open DL hiding g_is_between tb_is_between rd_is_between
def g_folded_row : DF := fun dl P => ∃ (r : Rw) (at_ : Int) (m : Kn), dl = [r.d, .int at_, knD m, knD (behindK r m)] ∧ keysN m ∧ P (.val (foldR r at_ (getK m)).d)
def tb_folded_row : DM := (mSeq (mIf (bAnd (bT (d2 (dIn false) (d2 dIx (dVar 0) (dC (.int 0))) (dC cst_RECKONING))) (bT (dDIn false (d2 dIx (dVar 0) (dC (.int 1))) (dVar 3)))) (mRet (dTup (aCons (dC (.str "put")) (aCons (d2 dIx (dVar 0) (dC (.int 1))) (aCons (dDIx (dVar 3) (d2 dIx (dVar 0) (dC (.int 1)))) aNil))))) mNil)
    (mSeq (mIf (bAnd (bT (d2 dEq (d2 dIx (dVar 0) (dC (.int 0))) (dC (.str "if")))) (bT (dDIn false (d2 dIx (dVar 0) (dC (.int 1))) (dVar 2)))) (mRet (dTup (aCons (dC (.str "go")) (aCons (dIf (bT (d2 dNe (dDIx (dVar 2) (d2 dIx (dVar 0) (dC (.int 1)))) (dC (.int 0)))) (d2 dIx (dVar 0) (dC (.int 2))) (d2 dAdd (dVar 1) (dC (.int 1)))) aNil)))) mNil)
    (mRet (dVar 0))))
theorem rk_sets {r : Rw} (h : reckB r = true) : ∃ c, r.sets = some c := by
  cases r with
  | copy c a => exact ⟨c, rfl⟩
  | tri k c a b => exact ⟨c, rfl⟩
  | times c m a => exact ⟨c, rfl⟩
  | share c a p q w => exact ⟨c, rfl⟩
  | _ => exact absurd (show false = true from h) (by decide)
theorem fold_rk {r : Rw} {a c : Int} {g : Int → Option Int} (h : reckB r = true) (hs : r.sets = some c) : foldR r a g = match told r g with
    | some v => .put c v
    | none => r := by
  cases r with
  | copy c a => cases hs; simp only [foldR, Rw.sets]; cases told (.copy c a) g <;> rfl
  | tri k c a b => cases hs; simp only [foldR, Rw.sets]; cases told (.tri k c a b) g <;> rfl
  | times c m a => cases hs; simp only [foldR, Rw.sets]; cases told (.times c m a) g <;> rfl
  | share c a p q w => cases hs; simp only [foldR, Rw.sets]; cases told (.share c a p q w) g <;> rfl
  | _ => exact absurd (show false = true from h) (by decide)
theorem fold_no {r : Rw} {a : Int} {g : Int → Option Int} (h : reckB r = false) (hj : isJif r = false) : foldR r a g = r := by
  have e := fun hp => reck_not (g := g) h hp
  cases r with
  | jif c t => exact absurd (show true = false from hj) (by decide)
  | put c v => rfl
  | file c i => simp only [foldR]; rw [e rfl] <;> rfl
  | told c i => simp only [foldR]; rw [e rfl] <;> rfl
  | go t => rfl
  | bare i t => rfl
  | note z => rfl
  | tell a z => rfl
  | hangs i => rfl
  | _ => exact absurd (show true = false from h) (by decide)
theorem nl_row (r : Rw) : ∀ xs, r.d ≠ .list xs := fun xs e => by rw [r.d_eq] at e; cases e
theorem rd_folded_row : ∀ dl Q, dl.length = 4 → g_folded_row dl Q → tb_folded_row (enF Q) (slots0 4 dl) := by
  rintro dl Q - ⟨r, a, m, rfl, hk, k⟩
  show tb_folded_row (enF Q) [.val r.d, .val (.int a), .val (knD m), .val (knD (behindK r m))]
  have v0 : EvT (dVar 0) [.val r.d, .val (.int a), .val (knD m), .val (knD (behindK r m))] r.d := ev_v rfl
  have v1 : EvT (dVar 1) [.val r.d, .val (.int a), .val (knD m), .val (knD (behindK r m))] (.int a) := ev_v rfl
  have v2 : EvT (dVar 2) [.val r.d, .val (.int a), .val (knD m), .val (knD (behindK r m))] (knD m) := ev_v rfl
  have v3 : EvT (dVar 3) [.val r.d, .val (.int a), .val (knD m), .val (knD (behindK r m))] (knD (behindK r m)) := ev_v rfl
  generalize [SD.val r.d, .val (.int a), .val (knD m), .val (knD (behindK r m))] = ds at *
  unfold tb_folded_row
  have t1 := ev_rk v0
  have tj := eb_eqS (ev_w v0) (word_jif r)
  have retr : foldR r a (getK m) = r → mRet (dVar 0) (enF Q) ds := fun e => ret_v v0 (nl_row r) (by rw [e] at k; exact k)
  cases hr : reckB r with
  | true =>
    obtain ⟨c, hs⟩ := rk_sets hr
    have vc := ev_at v0 (Rw.at1 hs)
    have hg : getK (behindK r m) c = told r (getK m) := by rw [get_behind hk, hs]; dsimp only; rw [if_pos rfl]
    rw [hr] at t1
    have t := eb_and (eb_t t1) fun _ => eb_t (ev_ddin (neg := false) vc v3)
    rw [hg] at t
    cases ht : told r (getK m) with
    | some v =>
      rw [ht] at t hg
      have ek : foldR r a (getK m) = .put c v := by rw [fold_rk hr hs, ht]
      rw [ek] at k
      exact seq_yes t (ret_v (ev_tup (ev_cons ev_c (ev_cons vc (ev_cons (ev_ddix v3 vc hg) ev_nil)))) (fun _ => nofun) k)
    | none =>
      rw [ht] at t
      have hj : isJif r = false := by cases r <;> first | rfl | exact absurd (show false = true from hr) (by decide)
      rw [hj] at tj
      exact seq_no t (seq_no (eb_and (b := false) tj fun h => nomatch h) (retr (by rw [fold_rk hr hs, ht])))
  | false =>
    rw [hr] at t1
    refine seq_no (eb_and (b := false) (eb_t t1) fun h => nomatch h) ?_
    cases hj : isJif r with
    | false =>
      rw [hj] at tj
      exact seq_no (eb_and (b := false) tj fun h => nomatch h) (retr (fold_no hr hj))
    | true =>
      rw [hj] at tj
      obtain ⟨c, t, rfl⟩ : ∃ c t, r = .jif c t := by
        cases r with
        | jif c t => exact ⟨c, t, rfl⟩
        | _ => exact absurd (show false = true from hj) (by decide)
      have vc : EvT (d2 dIx (dVar 0) (dC (.int 1))) ds (.int c) := ev_at v0 rfl
      have vt : EvT (d2 dIx (dVar 0) (dC (.int 2))) ds (.int t) := ev_at v0 rfl
      have tt := eb_and tj fun _ => eb_t (ev_ddin (neg := false) vc v2)
      cases hg : getK m c with
      | none =>
        rw [hg] at tt
        exact seq_no tt (retr (by simp only [foldR]; rw [hg]))
      | some v =>
        rw [hg] at tt
        have ek : foldR (.jif c t) a (getK m) = .go (if v ≠ 0 then t else a + 1) := by simp only [foldR]; rw [hg]
        rw [ek] at k
        refine seq_yes tt (ret_v (ev_tup (ev_cons ev_c (ev_cons (ev_if (d := .int (if v ≠ 0 then t else a + 1)) (eb_t (ev_neI (ev_ddix v2 vc hg) ev_c)) (fun h => ?_) (fun h => ?_)) ev_nil))) (fun _ => nofun) k)
        · rw [if_pos (by simpa using h)]; exact vt
        · rw [if_neg (by simpa using h)]; exact ev_add v1 ev_c
end K18.L17
namespace K18.L17
open PySem PySem.Spec PyProof.Rows L2 BK
open DL hiding g_is_between tb_is_between rd_is_between
def rowCells (r : Rw) : List Int := (match r.sets with | some c => [c] | none => []) ++ r.reads
def CellOf (rs : List Rw) (c : Int) : Prop := ∃ r ∈ rs, c ∈ rowCells r
structure CellsOk (ks : List Int) : Prop where
  nd : ks.Nodup
  lo : ∀ c ∈ ks, cellB c
def tenI : List Int := [0, 1, 2, 3, 4, 5, 6, 7, 8, 9]
theorem CellsOk.len {ks : List Int} (h : CellsOk ks) : ks.length ≤ 10 := nodup_len (m := tenI) h.nd fun c hc => by
  obtain ⟨a, b⟩ := h.lo c hc
  have : c = 0 ∨ c = 1 ∨ c = 2 ∨ c = 3 ∨ c = 4 ∨ c = 5 ∨ c = 6 ∨ c = 7 ∨ c = 8 ∨ c = 9 := by omega
  simpa [tenI] using this
theorem row_cells {r : Rw} {a m : Int} (h : r.Ok a m) : ∀ c ∈ rowCells r, cellB c := by
  intro c hc
  cases r with
  | put x n => simp [rowCells] at hc; subst hc; exact h.1
  | copy x y => simp [rowCells] at hc; rcases hc with rfl | rfl; exact h.1; exact h.2
  | file x i => simp [rowCells] at hc; subst hc; exact h.1
  | told x i => simp [rowCells] at hc; subst hc; exact h.1
  | tri k x y z => simp [rowCells] at hc; rcases hc with rfl | rfl | rfl; exact h.1; exact h.2.1; exact h.2.2
  | times x n y => simp [rowCells] at hc; rcases hc with rfl | rfl; exact h.1; exact h.2.2
  | share x y p q w => simp [rowCells] at hc; rcases hc with rfl | rfl; exact h.1; exact h.2.1
  | go t => simp [rowCells] at hc
  | jif x t => simp [rowCells] at hc; subst hc; exact h.1
  | bare i t => simp [rowCells] at hc
  | note z => simp [rowCells] at hc
  | tell x z => simp [rowCells] at hc; subst hc; exact h
  | hangs i => simp [rowCells] at hc
def trueK (ks : List Int) : List (Key × D) := ks.map fun c => (Sum.inl c, PyData.bool true)
def addK (ks : List Int) (c : Int) : List Int := if c ∈ ks then ks else ks ++ [c]
theorem put_true (ks : List Int) (c : Int) : putD (trueK ks) (.inl c) (.bool true) = trueK (addK ks c) := by
  unfold putD addK
  by_cases h : c ∈ ks
  · rw [if_pos h, if_pos]
    · unfold trueK
      rw [List.map_map]
      refine List.map_congr_left fun x hx => ?_
      show (if (Sum.inl x : Key) = Sum.inl c then ((Sum.inl x : Key), PyData.bool true) else (Sum.inl x, .bool true)) = _
      split <;> rfl
    · rw [List.any_eq_true]
      exact ⟨(.inl c, .bool true), List.mem_map.mpr ⟨c, h, rfl⟩, decide_eq_true rfl⟩
  · rw [if_neg h, if_neg]
    · unfold trueK
      rw [List.map_append]; rfl
    · rw [List.any_eq_true]
      rintro ⟨kv, hkv, e⟩
      obtain ⟨x, hx, rfl⟩ := List.mem_map.mp hkv
      exact h (Sum.inl.inj (of_decide_eq_true e) ▸ hx)
theorem CellsOk.add {ks : List Int} {c : Int} (h : CellsOk ks) (hc : cellB c) : CellsOk (addK ks c) := by
  unfold addK
  split
  · exact h
  · rename_i hn
    refine ⟨List.nodup_append.mpr ⟨h.nd, by simp, fun x hx y hy => ?_⟩, fun x hx => ?_⟩
    · have : y = c := by simpa using hy
      subst this
      exact fun e => hn (e ▸ hx)
    · rcases List.mem_append.mp hx with hx | hx
      · exact h.lo x hx
      · have : x = c := by simpa using hx
        exact this ▸ hc
theorem mem_add {ks : List Int} {c x : Int} : x ∈ addK ks c ↔ x ∈ ks ∨ x = c := by
  unfold addK
  split
  · rename_i h
    exact ⟨.inl, fun z => z.elim id fun e => e ▸ h⟩
  · simp
def lb_cells_in_1 : DM := (mIf (bT (d2 dEq (dVar 3) (dC (.str "c")))) (mDput 1 (dVar 4) (dC (.bool true))) mNil)
def lb_cells_in_2 : DM := (mFor (iZg (dKix cst_FORMS (d2 dIx (dVar 2) (dC (.int 0)))) (dSl (dVar 2) (pSome (dC (.int 1))) pNone)) (gTp 2 (gsCons (gNm 3) (gsCons (gNm 4) gsNil))) lb_cells_in_1)
def tb_cells_in : DM := (mSeq (mSet 1 dDnew)
    (mSeq (mFor (iSeq (dVar 0)) (gNm 2) lb_cells_in_2)
    (mRet (dSortD 1))))
theorem cells_inner {s0 s2 : SD} {E : En} : ∀ (l : List (Nat × D)) (ks : List Int) (s3 s4 : SD), (∀ p ∈ l, p.1 = 99 → ∃ c, p.2 = .int c ∧ cellB c) → CellsOk ks →
    (∀ ks' s3 s4, CellsOk ks' → (∀ c, c ∈ ks' ↔ c ∈ ks ∨ .int c ∈ cellsR l) → E.nx [s0, .dic (trueK ks'), s2, s3, s4]) →
    loopD (gTp 2 (gsCons (gNm 3) (gsCons (gNm 4) gsNil))) lb_cells_in_1 (l.map prD) E [s0, .dic (trueK ks), s2, s3, s4]
  | [], ks, s3, s4, _, ho, k => k ks s3 s4 ho fun c => by simp [cellsR]
  | p :: l, ks, s3, s4, hl, ho, k => by
    obtain ⟨z, d⟩ := p
    have hl2 := fun q hq => hl q (List.mem_cons_of_mem _ hq)
    refine Eq.mpr (show loopD _ _ ((z, d) :: l |>.map prD) E _ = (lb_cells_in_1 { E with nx := loopD (gTp 2 (gsCons (gNm 3) (gsCons (gNm 4) gsNil))) lb_cells_in_1 (l.map prD) E, ct := loopD (gTp 2 (gsCons (gNm 3) (gsCons (gNm 4) gsNil))) lb_cells_in_1 (l.map prD) E, bk := E.nx } [s0, .dic (trueK ks), s2, .val (.str ⟨#[z]⟩), .val d]) from by simp [loopD, prD]) ?_
    unfold lb_cells_in_1
    have sz : (100 : Nat) ≤ sizeLine := by decide
    cases hz : (z == 99) with
    | true =>
      have ez : z = 99 := by simpa using hz
      obtain ⟨c, rfl, hc⟩ := hl (z, d) List.mem_cons_self ez
      refine if_yes (eb_eqS (z := ⟨#[z]⟩) (ev_v (i := 3) rfl) ((sign_c z).trans hz)) ?_
      have len := ho.len
      have ih := cells_inner (s0 := s0) (s2 := s2) (E := E) l (addK ks c) (.val (.str ⟨#[z]⟩)) (.val (.int c)) hl2 (ho.add hc) fun ks' s3 s4 h1 h2 => k ks' s3 s4 h1 fun x => by
        rw [h2, mem_add]
        have e : cellsR ((z, .int c) :: l) = .int c :: cellsR l := by
          unfold cellsR; rw [List.filter_cons_of_pos (by simpa using hz)]; rfl
        rw [e, List.mem_cons, or_assoc]
        have : (x = c) ↔ (PyData.int x = PyData.int c) := ⟨fun h => by rw [h], fun h => by injection h⟩
        rw [this]
      unfold mDput
      refine take_ev (ev_c) ?_
      simp only [isDic, List.getElem?_cons_succ, List.getElem?_cons_zero, dVar, pk, peek]
      refine ⟨c, rfl, by unfold trueK; rw [List.length_map]; omega, ?_⟩
      rw [put_true]
      exact ih
    | false =>
      refine if_no (eb_eqS (z := ⟨#[z]⟩) (ev_v (i := 3) rfl) ((sign_c z).trans hz)) ?_
      exact cells_inner (s0 := s0) (s2 := s2) (E := E) l ks _ _ hl2 ho fun ks' s3 s4 h1 h2 => k ks' s3 s4 h1 fun x => by
        rw [h2]
        have e : cellsR ((z, d) :: l) = cellsR l := by
          unfold cellsR; rw [List.filter_cons_of_neg (by simp [hz])]
        rw [e]
theorem cells_row (r : Rw) : cellsR r.prs = (rowCells r).map .int := by
  rw [r.cellsOf]
  unfold rowCells
  rw [List.map_append]
  cases r.sets <;> rfl
theorem mem_row {r : Rw} {c : Int} : (PyData.int c : D) ∈ cellsR r.prs ↔ c ∈ rowCells r := by
  rw [cells_row, List.mem_map]
  exact ⟨fun ⟨x, hx, e⟩ => by injection e with e; exact e ▸ hx, fun h => ⟨c, h, rfl⟩⟩
theorem prs_ok {r : Rw} {a m : Int} (h : r.Ok a m) : ∀ p ∈ r.prs, p.1 = 99 → ∃ c, p.2 = .int c ∧ cellB c := fun p hp e => by
  have : p.2 ∈ cellsR r.prs := List.mem_map.mpr ⟨p, List.mem_filter.mpr ⟨hp, by simp [e]⟩, rfl⟩
  rw [cells_row] at this
  obtain ⟨c, hc, e⟩ := List.mem_map.mp this
  exact ⟨c, e.symm, row_cells h c hc⟩
theorem cells_outer {s0 : SD} {E : En} : ∀ (rs : List Rw) (ks : List Int) (s2 s3 s4 : SD), (∀ r ∈ rs, ∃ a m, r.Ok a m) → CellsOk ks →
    (∀ ks' s2 s3 s4, CellsOk ks' → (∀ c, c ∈ ks' ↔ c ∈ ks ∨ CellOf rs c) → E.nx [s0, .dic (trueK ks'), s2, s3, s4]) →
    loopD (gNm 2) lb_cells_in_2 (rs.map Rw.d) E [s0, .dic (trueK ks), s2, s3, s4]
  | [], ks, s2, s3, s4, _, ho, k => k ks s2 s3 s4 ho fun c => by simp [CellOf]
  | r :: rs, ks, s2, s3, s4, hr, ho, k => by
    obtain ⟨a, m, hok⟩ := hr r List.mem_cons_self
    have hf := r.forms
    have hz := r.zips
    obtain ⟨f1, f2⟩ := r.flen
    refine Eq.mpr (show loopD _ _ ((r :: rs).map Rw.d) E _ = (lb_cells_in_2 { E with nx := loopD (gNm 2) lb_cells_in_2 (rs.map Rw.d) E, ct := loopD (gNm 2) lb_cells_in_2 (rs.map Rw.d) E, bk := E.nx } [s0, .dic (trueK ks), .val r.d, s3, s4]) from by simp [loopD, -Rw.d]) ?_
    unfold lb_cells_in_2
    simp only [mFor, iZg, dVar]
    rw [r.d_eq]
    simp [hf, cut1]
    rw [hz]
    refine cells_inner r.prs ks s3 s4 (prs_ok hok) ho fun ks' s3 s4 h1 h2 => ?_
    refine cells_outer rs ks' _ s3 s4 (fun x hx => hr x (List.mem_cons_of_mem _ hx)) h1 fun ks2 s2 s3 s4 h3 h4 => k ks2 s2 s3 s4 h3 fun c => ?_
    rw [h4, h2, mem_row]
    simp only [CellOf, List.mem_cons]
    constructor
    · rintro ((h | h) | ⟨x, hx, h⟩)
      · exact .inl h
      · exact .inr ⟨r, .inl rfl, h⟩
      · exact .inr ⟨x, .inr hx, h⟩
    · rintro (h | ⟨x, rfl | hx, h⟩)
      · exact .inl (.inl h)
      · exact .inl (.inr h)
      · exact .inr ⟨x, hx, h⟩
def g_cells_in : DF := fun dl P => ∃ rs, dl = [rowsD rs] ∧ RowsOk rs ∧ ∀ ks, CellsOk ks → (∀ c, c ∈ ks ↔ CellOf rs c) → P (.own (ks.map .int))
theorem rows_ok {rs : List Rw} (h : RowsOk rs) : ∀ r ∈ rs, ∃ a m, r.Ok a m := fun r hr => by
  obtain ⟨i, hi, e⟩ := List.getElem_of_mem hr
  exact ⟨_, _, h.ok i r (by rw [List.getElem?_eq_getElem hi, e])⟩
theorem rd_cells_in : ∀ dl Q, dl.length = 1 → g_cells_in dl Q → tb_cells_in (enF Q) (slots0 5 dl) := by
  rintro dl Q - ⟨rs, rfl, ho, k⟩
  show tb_cells_in (enF Q) [.val (rowsD rs), .no, .no, .no, .no]
  unfold tb_cells_in
  refine seq1 [.val (rowsD rs), .dic (trueK []), .no, .no, .no] (fun k hk => by simpa [trueK] using hk) ?_
  refine seq_cut (fun ds => ∃ ks s2 s3 s4, CellsOk ks ∧ (∀ c, c ∈ ks ↔ CellOf rs c) ∧ ds = [.val (rowsD rs), .dic (trueK ks), s2, s3, s4]) (fun k hk => ?_) ?_
  · simp only [mFor, iSeq, dVar, List.getElem?_cons_zero, take1, rowsD]
    exact cells_outer rs [] _ _ _ (rows_ok ho) ⟨List.nodup_nil, fun _ h => nomatch h⟩ fun ks s2 s3 s4 h1 h2 => hk _ ⟨ks, s2, s3, s4, h1, fun c => by rw [h2]; simp, rfl⟩
  · rintro ds ⟨ks, s2, s3, s4, h1, h2, rfl⟩
    simp only [mRet, dSortD, isDic, List.getElem?_cons_succ, List.getElem?_cons_zero]
    refine ⟨ks, by unfold trueK; rw [List.map_map]; rfl, by have := h1.len; omega, fun ys p _ => ?_⟩
    exact k ys ⟨p.nodup_iff.mpr h1.nd, fun c hc => h1.lo c (p.mem_iff.mp hc)⟩ fun c => by rw [p.mem_iff]; exact h2 c
end K18.L17
namespace K18.L17
open PySem PySem.Spec PyProof.Rows L2 BK
open DL hiding g_is_between tb_is_between rd_is_between
theorem put_len (kvs : List (Key × D)) (k : Key) (d : D) : (putD kvs k d).length ≤ kvs.length + 1 := by
  unfold putD
  split
  · rw [List.length_map]; omega
  · rw [List.length_append]; simp
def RepT (kvs : List (Key × D)) (kn : Kt) : Prop := ∀ i, valD kvs (.inl i) = (kn i).map knD
theorem RepT.put {kvs : List (Key × D)} {kn : Kt} (h : RepT kvs kn) (i : Int) (m : Kn) : RepT (putD kvs (.inl i) (knD m)) (putT kn i m) := fun j => by
  rw [valD_put]
  unfold putT
  by_cases e : j = i
  · rw [if_pos e, if_pos (by rw [e])]; rfl
  · rw [if_neg e, if_neg (fun z => e (Sum.inl.inj z)), h j]
theorem RepT.opt {kvs : List (Key × D)} {kn : Kt} (h : RepT kvs kn) (i : Int) : (valD kvs (.inl i)).getD .none = optK (kn i) := by rw [h i]; cases kn i <;> rfl
theorem RepT.has {kvs : List (Key × D)} {kn : Kt} (h : RepT kvs kn) (i : Int) : (valD kvs (.inl i)).isSome = (kn i).isSome := by rw [h i]; cases kn i <;> rfl
theorem run_cons {s : Kn → Kn} {r : Rw} {rs : List Rw} {a : Int} {kn : Kt} : runF s (r :: rs) a kn = (stepT s r a kn).1 :: runF s rs (a + 1) (stepT s r a kn).2 := rfl
theorem ev_kin {ds : DS} {t : DT} {j : Nat} {i : Int} {kvs : List (Key × D)} {kn : Kt} {neg : Bool} (h : RepT kvs kn) (hj : ds[j]? = some (.dic kvs)) (x : EvT t ds (.int i)) : EvT (dKIn neg j t) ds (.bool (if neg then !(kn i).isSome else (kn i).isSome)) := fun Q k => by
  unfold dKIn
  refine x _ fun h1 i1 => i1.pk' ?_
  unfold isDic
  rw [hj]
  exact ⟨.inl i, rfl, by rw [h.has]; exact k _ .tmp⟩
theorem ev_kget {ds : DS} {t : DT} {j : Nat} {i : Int} {kvs : List (Key × D)} {kn : Kt} {m : Kn} (h : RepT kvs kn) (hj : ds[j]? = some (.dic kvs)) (x : EvT t ds (.int i)) (e : kn i = some m) : EvT (dKGet j t) ds (knD m) := fun Q k => by
  unfold dKGet isDic
  rw [hj]
  refine x _ fun h1 i1 => i1.pk' ?_
  rw [hj]
  exact ⟨.inl i, knD m, rfl, by rw [h i, e]; rfl, k _ .tmp⟩
theorem app_ev {ds : DS} {t : DT} {j : Nat} {xs : List D} {d : D} {E : En} (x : EvT t ds d) (hj : ds[j]? = some (.own xs)) (hl : xs.length < sizeLine) (k : E.nx (ds.set j (.own (xs ++ [d])))) : mApp j t E ds := by
  unfold mApp ownAt
  rw [hj]
  refine take_ev x ?_
  rw [hj]
  exact ⟨hl, k⟩
theorem ev_own {ds : DS} {j : Nat} {t : DT} {xs : List D} {i : Int} {d : D} (hj : ds[j]? = some (.own xs)) (x : EvT t ds (.int i)) (e : atI xs i = some d) : EvT (d2 dIx (dVar j) t) ds d := fun Q k => by
  unfold DL.d2 dVar
  rw [hj]
  have hp : peek ds (.slot j) = some (.list xs) := by simp only [peek, hj]
  refine x _ fun h i1 => ?_
  simp only [DL.pk, hp, i1.pk, dIx, e]
  exact k _ .tmp
def lb_folded_rows_1 : DM := (mKput 1 (dVar 6) (dCall g_met_cells (aCons (dKGetS 1 (dVar 6)) (aCons (dVar 5) aNil))))
def lb_folded_rows_2 : DM := (mSeq (mIf (bT (dKIn true 1 (dVar 3))) (mSeq (mApp 2 (dVar 4))
    mCont) mNil)
    (mSeq (mSet 5 (dCall g_cells_behind (aCons (dVar 4) (aCons (dKGet 1 (dVar 3)) aNil))))
    (mSeq (mApp 2 (dCall g_folded_row (aCons (dVar 4) (aCons (dVar 3) (aCons (dKGet 1 (dVar 3)) (aCons (dVar 5) aNil))))))
    (mFor (iSeq (dCall g_ways_of (aCons (d2 dIx (dVar 2) (dVar 3)) (aCons (dVar 3) aNil)))) (gNm 6) lb_folded_rows_1))))
def ce_folded_rows_1 : DT := (dTup (aCons (dVar 7) (aCons (dC (.int 0)) aNil)))
def tb_folded_rows : DM := (mSeq (mPar 1 2 (dDisp (aCons (dC (.int 0)) (aCons (dFz (dB bDictP (aCons (dComp (iSeq (dCall g_cells_in (aCons (dVar 0) aNil))) (gNm 7) cYes ce_folded_rows_1 [7]) aNil))) aNil))) (dLst aNil))
    (mSeq (mFor (iEn (dVar 0)) (gTp 2 (gsCons (gNm 3) (gsCons (gNm 4) gsNil))) lb_folded_rows_2)
    (mRet (dB bTuple (aCons (dVar 2) aNil)))))
theorem spread_loop {s0 s2 s3 s4 s7 : SD} {E : En} {b : Kn} {B : Nat} (kb : keysN b) (lb : b.length ≤ B) (hB : B ≤ 1000) : ∀ (l : List Int) (kn : Kt) (kvs : List (Key × D)) (s6 : SD), RepT kvs kn → Fit B kn → kvs.length + l.length ≤ 1000 →
    (∀ kvs' s6, RepT kvs' (spread id b kn l) → kvs'.length ≤ kvs.length + l.length → E.nx [s0, .dic kvs', s2, s3, s4, .val (knD b), s6, s7]) →
    loopD (gNm 6) lb_folded_rows_1 (l.map .int) E [s0, .dic kvs, s2, s3, s4, .val (knD b), s6, s7]
  | [], kn, kvs, s6, hr, hf, hl, k => k kvs s6 hr (Nat.le_refl _)
  | x :: l, kn, kvs, s6, hr, hf, hl, k => by
    have sz : (2000 : Nat) ≤ sizeLine := by decide
    have hl1 : (x :: l).length = l.length + 1 := rfl
    refine Eq.mpr (show loopD _ _ ((x :: l).map PyData.int) E _ = (lb_folded_rows_1 { E with nx := loopD (gNm 6) lb_folded_rows_1 (l.map .int) E, ct := loopD (gNm 6) lb_folded_rows_1 (l.map .int) E, bk := E.nx } [s0, .dic kvs, s2, s3, s4, .val (knD b), .val (.int x), s7]) from by simp [loopD]) ?_
    have pl := put_len kvs (.inl x) (knD (meet1 id b (kn x)))
    have ih := spread_loop (s0 := s0) (s2 := s2) (s3 := s3) (s4 := s4) (s7 := s7) (E := E) kb lb hB l (putT kn x (meet1 id b (kn x))) (putD kvs (.inl x) (knD (meet1 id b (kn x)))) (.val (.int x)) (hr.put _ _)
      (fun i m e => by
        dsimp only [putT] at e
        by_cases hi : i = x
        · rw [if_pos hi] at e; cases e; exact Fit.meet (fun _ => .refl _) kb lb (hf x)
        · rw [if_neg hi] at e; exact hf i m e) (by omega) fun kvs' s6 h1 h2 => k kvs' s6 h1 (by omega)
    unfold lb_folded_rows_1 mKput
    simp only [dCall, aCons, aNil, dKGetS, isDic, dVar, pk, peek, List.getElem?_cons_zero, List.getElem?_cons_succ, takes, take1]
    refine ⟨.inl x, rfl, ?_⟩
    rw [hr.opt x]
    refine ⟨kn x, b, rfl, fun m e => ⟨(hf x m e).1, by have := (hf x m e).2; omega⟩, ?_⟩
    simp only [hdOf, take1, List.getElem?_cons_zero, List.getElem?_cons_succ]
    exact ⟨.inl x, rfl, by omega, ih⟩
theorem ways_len (r : Rw) (a : Int) : (r.ways a).length ≤ 2 := by cases r <;> exact Nat.le_of_ble_eq_true rfl
theorem fold_loop {s0 s7 : SD} {E : En} : ∀ (rs : List Rw) (A : Nat) (out : List Rw) (kn : Kt) (kvs : List (Key × D)) (B : Nat) (s3 s4 s5 s6 : SD), out.length = A → RepT kvs kn → Fit B kn → B + rs.length ≤ 900 → kvs.length + 2 * rs.length ≤ 900 → A + rs.length ≤ 900 → (∀ r ∈ rs, ∃ a m, r.Ok a m) →
    (∀ kvs' s3 s4 s5 s6, E.nx [s0, .dic kvs', .own ((out ++ runF id rs A kn).map Rw.d), s3, s4, s5, s6, s7]) →
    loopD (gTp 2 (gsCons (gNm 3) (gsCons (gNm 4) gsNil))) lb_folded_rows_2 (enumF A (rs.map Rw.d)) E [s0, .dic kvs, .own (out.map Rw.d), s3, s4, s5, s6, s7]
  | [], A, out, kn, kvs, B, s3, s4, s5, s6, _, _, _, _, _, _, _, k => by
    have k := k kvs s3 s4 s5 s6
    rw [show runF id [] (A : Int) kn = [] from rfl, List.append_nil] at k
    exact k
  | r :: rs, A, out, kn, kvs, B, s3, s4, s5, s6, hA, hr, hf, hB, hk, hN, hok, k => by
    have sz : (2000 : Nat) ≤ sizeLine := by decide
    have hl1 : (r :: rs).length = rs.length + 1 := rfl
    have hok2 := fun x hx => hok x (List.mem_cons_of_mem _ hx)
    obtain ⟨oa, om, ho⟩ := hok r List.mem_cons_self
    refine Eq.mpr (show loopD _ _ (enumF A ((r :: rs).map Rw.d)) E _ = (lb_folded_rows_2 { E with nx := loopD (gTp 2 (gsCons (gNm 3) (gsCons (gNm 4) gsNil))) lb_folded_rows_2 (enumF (A + 1) (rs.map Rw.d)) E, ct := loopD (gTp 2 (gsCons (gNm 3) (gsCons (gNm 4) gsNil))) lb_folded_rows_2 (enumF (A + 1) (rs.map Rw.d)) E, bk := E.nx } [s0, .dic kvs, .own (out.map Rw.d), .val (.int A), .val r.d, s5, s6, s7]) from by simp [loopD, enumF, -Rw.d]) ?_
    have next : ∀ (r' : Rw) (kn' : Kt) (kvs' : List (Key × D)) (s3 s4 s5 s6 : SD), stepT id r A kn = (r', kn') → RepT kvs' kn' → kvs'.length ≤ kvs.length + 2 →
        loopD (gTp 2 (gsCons (gNm 3) (gsCons (gNm 4) gsNil))) lb_folded_rows_2 (enumF (A + 1) (rs.map Rw.d)) E [s0, .dic kvs', .own (out.map Rw.d ++ [r'.d]), s3, s4, s5, s6, s7] := fun r' kn' kvs' s3 s4 s5 s6 e h1 h2 => by
      have hf2 : Fit (B + 1) kn' := by have := Fit.step (s := id) (fun _ => .refl _) (r := r) (a := A) hf; rw [e] at this; exact this
      have := fold_loop (s0 := s0) (s7 := s7) (E := E) rs (A + 1) (out ++ [r']) kn' kvs' (B + 1) s3 s4 s5 s6 (by simp [hA]) h1 hf2 (by omega) (by omega) (by omega) hok2 fun kvs' s3 s4 s5 s6 => by
        have kk := k kvs' s3 s4 s5 s6
        have e2 : runF id (r :: rs) (A : Int) kn = r' :: runF id rs ((A : Int) + 1) kn' := by rw [run_cons, e]
        rw [e2] at kk
        rw [List.append_assoc]
        exact kk
      rw [List.map_append] at this
      exact this
    unfold lb_folded_rows_2
    have v3 : ∀ {s5 s6 : SD} {kvs : List (Key × D)} {xs : List D}, EvT (dVar 3) [s0, .dic kvs, .own xs, .val (.int A), .val r.d, s5, s6, s7] (.int A) := ev_v rfl
    have lo : (out.map Rw.d).length < sizeLine := by rw [List.length_map]; omega
    have tk := eb_t (ev_kin (neg := true) hr (j := 1) (ds := [s0, .dic kvs, .own (out.map Rw.d), .val (.int A), .val r.d, s5, s6, s7]) rfl v3)
    cases hA2 : kn (A : Int) with
    | none =>
      rw [hA2] at tk
      refine seq_yes tk (app_ev (d := r.d) (xs := out.map Rw.d) (ev_v rfl) rfl lo ?_)
      exact next r kn kvs _ _ _ _ (by unfold stepT; rw [hA2]) hr (by omega)
    | some m =>
      rw [hA2] at tk
      obtain ⟨km, lm⟩ := hf A m hA2
      have lb := len_behind r m
      refine seq_no tk ?_
      refine seq1 [s0, .dic kvs, .own (out.map Rw.d), .val (.int A), .val r.d, .val (knD (behindK r m)), s6, s7] (fun k hk => set_ev (ev_call (dl := [r.d, knD m]) (ev_cons (ev_v (i := 4) rfl) (ev_cons (ev_kget hr rfl v3 hA2) ev_nil)) fun P hp => ⟨r, m, oa, om, rfl, ho, km, by omega, hp⟩) (fun _ => nofun) hk) ?_
      refine seq1 [s0, .dic kvs, .own (out.map Rw.d ++ [(foldR r A (getK m)).d]), .val (.int A), .val r.d, .val (knD (behindK r m)), s6, s7] (fun k hk => app_ev (d := (foldR r A (getK m)).d) (xs := out.map Rw.d) (ev_call (dl := [r.d, .int A, knD m, knD (behindK r m)]) (ev_cons (ev_v (i := 4) rfl) (ev_cons v3 (ev_cons (ev_kget hr rfl v3 hA2) (ev_cons (ev_v (i := 5) rfl) ev_nil)))) fun P hp => ⟨r, A, m, rfl, km, hp⟩) rfl lo hk) ?_
      have at_ : atI (out.map Rw.d ++ [(foldR r A (getK m)).d]) (A : Int) = some (foldR r A (getK m)).d := atI_nat (by rw [List.getElem?_append_right (by rw [List.length_map]; omega), List.length_map, hA, Nat.sub_self]; rfl)
      simp only [mFor, iSeq, dCall]
      refine ev_cons (ev_own (xs := out.map Rw.d ++ [(foldR r A (getK m)).d]) (d := (foldR r A (getK m)).d) rfl v3 at_) (ev_cons v3 ev_nil) _ fun hs x => takes_is x ⟨foldR r A (getK m), A, rfl, ?_⟩
      simp only [hdOf, take1]
      have wl := ways_len (foldR r A (getK m)) A
      refine spread_loop (B := B + 1) (keys_behind km) (by omega) (by omega) ((foldR r A (getK m)).ways A) kn kvs s6 hr (fun i m e => ⟨(hf i m e).1, by have := (hf i m e).2; omega⟩) (by omega) fun kvs' s6 h1 h2 => ?_
      exact next (foldR r A (getK m)) _ kvs' _ _ _ _ (by unfold stepT; rw [hA2]) h1 (by omega)
/-- what the program folds, whatever the order of the first cells -/
def FoldTo (rs : List Rw) (P : SD → Prop) : Prop := ∀ ks, CellsOk ks → (∀ c, c ∈ ks ↔ CellOf rs c) → P (.val (rowsD (runF id rs 0 (kn0 (zerosK ks)))))
def g_folded_rows : DF := fun dl P => ∃ rs, dl = [rowsD rs] ∧ RowsOk rs ∧ FoldTo rs P
theorem rd_folded_rows : ∀ dl Q, dl.length = 1 → g_folded_rows dl Q → tb_folded_rows (enF Q) (slots0 8 dl) := by
  rintro dl Q - ⟨rs, rfl, ho, k⟩
  have sz : (2000 : Nat) ≤ sizeLine := by decide
  have ll := ho.len
  show tb_folded_rows (enF Q) [.val (rowsD rs), .no, .no, .no, .no, .no, .no, .no]
  unfold tb_folded_rows
  refine seq_cut (fun ds => ∃ ks, CellsOk ks ∧ (∀ c, c ∈ ks ↔ CellOf rs c) ∧ ds = [.val (rowsD rs), .dic [(.inl 0, knD (zerosK ks))], .own [], .no, .no, .no, .no, .no]) (fun k hk => ?_) ?_
  · unfold mPar
    simp only [dDisp, aCons, dC, aNil, dFz, dB, dComp, iSeq, dCall, dVar, List.getElem?_cons_zero, takes, take1]
    refine ⟨rs, rfl, ho, fun ks h1 h2 => ?_⟩
    have len := h1.len
    simp only [hdOf, take1]
    refine ⟨by rw [List.length_map]; omega, ?_⟩
    refine comp_fil (fun c : Int => PyData.int c) (fun _ => true) (fun c => prI (c, 0)) ks [] (fun c hc L hL => ?_) ?_
    · exact take_ev (P := fun x ds4 => L (some x) (wipeD ds4 [7])) (d := prI (c, 0)) (ds := [.val (rowsD rs), .no, .no, .no, .no, .no, .no, .val (.int c)]) (ev_pr (ev_v (i := 7) rfl) ev_c) hL
    · rw [List.filter_eq_self.mpr fun _ _ => rfl, List.nil_append]
      have ez : ks.map (fun c => prI (c, 0)) = (zerosK ks).map prI := by unfold zerosK; rw [List.map_map]; rfl
      rw [ez]
      simp only [peeks, pk, peek, bDictP]
      refine ⟨mapK (zerosK ks), pairs_map _, ?_⟩
      rw [merge_new (zeros_keys h1.nd)]
      refine ⟨_, rfl, ?_⟩
      exact ⟨[(.inl 0, knD (zerosK ks))], rfl, Nat.le_of_ble_eq_true rfl, hk _ ⟨ks, h1, h2, rfl⟩⟩
  · rintro ds ⟨ks, h1, h2, rfl⟩
    refine seq_cut (fun ds => ∃ kvs s3 s4 s5 s6, ds = [.val (rowsD rs), .dic kvs, .own ((runF id rs 0 (kn0 (zerosK ks))).map Rw.d), s3, s4, s5, s6, .no]) (fun k hk => ?_) ?_
    · simp only [mFor, iEn, dVar, List.getElem?_cons_zero, take1, rowsD, seqD]
      have len := h1.len
      refine fold_loop rs 0 [] (kn0 (zerosK ks)) _ 10 _ _ _ _ rfl (fun i => ?_) (fun i m e => ?_) (by omega) (by show 1 + _ ≤ _; omega) (by omega) (rows_ok ho) fun kvs s3 s4 s5 s6 => hk _ ⟨kvs, s3, s4, s5, s6, rfl⟩
      · rw [valD_cons, valD_nil]
        unfold kn0
        by_cases e : i = 0
        · subst e; rfl
        · rw [if_neg e, if_neg fun z => e (Sum.inl.inj z).symm]; rfl
      · unfold kn0 at e
        by_cases ei : i = 0
        · rw [if_pos ei] at e; cases e; exact ⟨zeros_keys h1.nd, by unfold zerosK; rw [List.length_map]; exact len⟩
        · rw [if_neg ei] at e; cases e
    · rintro ds ⟨kvs, s3, s4, s5, s6, rfl⟩
      simpa [rowsD, -Rw.d] using k ks h1 h2
def tb_folded : DM := (mSeq (mExpr (dCall g_check_rows (aCons (dVar 0) aNil)))
    (mRet (dCall g_folded_rows (aCons (dVar 0) aNil))))
def g_folded : DF := fun dl P => ∃ rs, dl = [rowsD rs] ∧ RowsOk rs ∧ FoldTo rs P
theorem rd_folded : ∀ dl Q, dl.length = 1 → g_folded dl Q → tb_folded (enF Q) (slots0 1 dl) := by
  rintro dl Q - ⟨rs, rfl, ho, k⟩
  show tb_folded (enF Q) [.val (rowsD rs)]
  unfold tb_folded
  refine seq1 [.val (rowsD rs)] (fun k hk => ?_) ?_
  · simp
    exact ⟨rs, rfl, ho, hk⟩
  · simp
    exact ⟨rs, rfl, ho, fun ks h1 h2 => k ks h1 h2⟩
end K18.L17
namespace K18.L17
open PySem PySem.Spec PyProof.Rows L2 BK
open DL hiding g_is_between tb_is_between rd_is_between
def g__law_shared : DF := fun dl P => ∃ (t p q : Int) (w : Nd), dl = [.int t, .int p, .int q, .str w.s] ∧ 0 ≤ p ∧ p ≤ 1000 ∧ 1 ≤ q ∧ q ≤ 1000 ∧ P (.val (.int (ndiv (t * p) q w)))
def tb__law_shared : DM := (mSeq (mSet 4 (d2 dMulA (dVar 0) (dVar 1)))
    (mSeq (mSet 5 (d2 dFdiv (d2 dSub (dVar 4) (d2 dMod (dB bInt (aCons (dVar 4) aNil)) (dVar 2))) (dVar 2)))
    (mSeq (mIf (bT (d2 dEq (dVar 3) (dC (.str "down")))) (mRet (dVar 5)) mNil)
    (mSeq (mIf (bT (d2 dEq (dVar 3) (dC (.str "up")))) (mRet (d2 dAdd (dVar 5) (dB bInt (aCons (d2 dLt (d2 dMulA (dVar 5) (dVar 2)) (dVar 4)) aNil)))) mNil)
    (mRet (d2 dAdd (dVar 5) (dB bInt (aCons (d2 dGe (d2 dMulA (dC (.int 2)) (d2 dSub (dVar 4) (d2 dMulA (dVar 5) (dVar 2)))) (dVar 2)) aNil))))))))
theorem down_eq (t : Int) {q : Int} (h : 1 ≤ q) : (t - t.fmod q).fdiv q = t.fdiv q := by
  have e : t - t.fmod q = t.fdiv q * q := by have := Int.mul_fdiv_add_fmod t q; rw [Int.mul_comm] at this; omega
  rw [e]
  exact Int.mul_fdiv_cancel _ (by omega)
theorem up_eq (t : Int) {q : Int} (h : 1 ≤ q) : ndiv t q .up = t.fdiv q + (if t.fdiv q * q < t then 1 else 0) := by
  have e := Int.mul_fdiv_add_fmod t q
  have l := Int.fmod_lt_of_pos t (show 0 < q by omega)
  have n := Int.fmod_nonneg_of_pos t (show 0 < q by omega)
  rw [Int.mul_comm] at e
  show -((-t).fdiv q) = _
  generalize t.fdiv q = d at *
  generalize t.fmod q = m at *
  have key : (-t).fdiv q = -(d + (if d * q < t then 1 else 0)) := by
    rw [Int.fdiv_eq_ediv_of_nonneg _ (by omega)]
    have hq : 0 < q := by omega
    by_cases hm : m = 0
    · rw [if_neg (by omega)]
      rw [show -t = (-(d + 0)) * q by rw [Int.add_zero, Int.neg_mul]; omega]
      exact Int.mul_ediv_cancel _ (by omega)
    · rw [if_pos (by omega)]
      have : -t = (q - m) + (-(d + 1)) * q := by rw [Int.neg_mul, Int.add_mul]; omega
      rw [this, Int.add_mul_ediv_right _ _ (by omega), Int.ediv_eq_zero_of_lt (by omega) (by omega), Int.zero_add]
  rw [key, Int.neg_neg]
theorem near_eq (t : Int) {q : Int} (h : 1 ≤ q) : ndiv t q .near = t.fdiv q + (if q ≤ 2 * (t - t.fdiv q * q) then 1 else 0) := by
  have e := Int.mul_fdiv_add_fmod t q
  have l := Int.fmod_lt_of_pos t (show 0 < q by omega)
  have n := Int.fmod_nonneg_of_pos t (show 0 < q by omega)
  rw [Int.mul_comm] at e
  show (2 * t + q).fdiv (2 * q) = _
  generalize t.fdiv q = d at *
  generalize t.fmod q = m at *
  rw [Int.fdiv_eq_ediv_of_nonneg _ (by omega)]
  have hd : d * (2 * q) = 2 * (d * q) := by rw [← Int.mul_assoc, Int.mul_comm d 2, Int.mul_assoc]
  have hd1 : (d + 1) * (2 * q) = 2 * (d * q) + 2 * q := by rw [Int.add_mul, hd]; omega
  by_cases hm : q ≤ 2 * m
  · rw [if_pos (by omega)]
    have : 2 * t + q = (2 * m - q) + (d + 1) * (2 * q) := by rw [hd1]; omega
    rw [this, Int.add_mul_ediv_right _ _ (by omega), Int.ediv_eq_zero_of_lt (by omega) (by omega), Int.zero_add]
  · rw [if_neg (by omega)]
    have : 2 * t + q = (2 * m + q) + d * (2 * q) := by rw [hd]; omega
    rw [this, Int.add_mul_ediv_right _ _ (by omega), Int.ediv_eq_zero_of_lt (by omega) (by omega), Int.zero_add, Int.add_zero]
theorem ev_fmod {ds : DS} {t u : DT} {a b : Int} (x : EvT t ds (.int a)) (y : EvT u ds (.int b)) (m : b ≠ 0) : EvT (d2 dMod t u) ds (.int (a.fmod b)) := ev_2 x y fun Q q => ⟨m, q⟩
theorem ev_geI {ds : DS} {t u : DT} {a b : Int} (x : EvT t ds (.int a)) (y : EvT u ds (.int b)) : EvT (d2 dGe t u) ds (.bool (decide (b ≤ a))) := ev_2 x y fun Q q => by simpa using q
theorem rd__law_shared : ∀ dl Q, dl.length = 4 → g__law_shared dl Q → tb__law_shared (enF Q) (slots0 6 dl) := by
  rintro dl Q - ⟨t, p, q, w, rfl, h1, h2, h3, h4, k⟩
  show tb__law_shared (enF Q) [.val (.int t), .val (.int p), .val (.int q), .val (.str w.s), .no, .no]
  have dq : DivOk q := DivOk.of (b := 30) (by omega) (by omega) (by decide)
  unfold tb__law_shared
  refine seq1 [.val (.int t), .val (.int p), .val (.int q), .val (.str w.s), .val (.int (t * p)), .no] (fun k hk => set_ev (ev_mulA (ev_v (i := 0) rfl) (ev_v (i := 1) rfl) (MulOk.r (by omega))) nl_int hk) ?_
  refine seq1 [.val (.int t), .val (.int p), .val (.int q), .val (.str w.s), .val (.int (t * p)), .val (.int ((t * p).fdiv q))] (fun k hk => set_ev (by
    have := ev_fdiv (ds := [.val (.int t), .val (.int p), .val (.int q), .val (.str w.s), .val (.int (t * p)), .no]) (ev_sub (ev_v (i := 4) rfl) (ev_fmod (ev_intI (ev_v (i := 4) rfl)) (ev_v (i := 2) rfl) (by omega : q ≠ 0))) (ev_v (i := 2) rfl) dq
    rw [down_eq _ h3] at this
    exact this) nl_int hk) ?_
  have v4 : EvT (dVar 4) [.val (.int t), .val (.int p), .val (.int q), .val (.str w.s), .val (.int (t * p)), .val (.int ((t * p).fdiv q))] (.int (t * p)) := ev_v rfl
  have v5 : EvT (dVar 5) [.val (.int t), .val (.int p), .val (.int q), .val (.str w.s), .val (.int (t * p)), .val (.int ((t * p).fdiv q))] (.int ((t * p).fdiv q)) := ev_v rfl
  have v2 : EvT (dVar 2) [.val (.int t), .val (.int p), .val (.int q), .val (.str w.s), .val (.int (t * p)), .val (.int ((t * p).fdiv q))] (.int q) := ev_v rfl
  have mq : MulOk ((t * p).fdiv q) q := MulOk.r (by omega)
  cases w with
  | down => exact seq_yes (eb_eqS (ev_v (i := 3) rfl)) (ret_v v5 nl_int k)
  | up =>
    rw [up_eq _ h3] at k
    refine seq_no (eb_eqS (ev_v (i := 3) rfl)) (seq_yes (eb_eqS (ev_v (i := 3) rfl)) (ret_v (ev_add v5 (ev_intB (ev_ltI (ev_mulA v5 v2 mq) v4))) nl_int ?_))
    simpa using k
  | near =>
    rw [near_eq _ h3] at k
    refine seq_no (eb_eqS (ev_v (i := 3) rfl)) (seq_no (eb_eqS (ev_v (i := 3) rfl)) (ret_v (ev_add v5 (ev_intB (ev_geI (ev_mulA ev_c (ev_sub v4 (ev_mulA v5 v2 mq)) (MulOk.l ⟨by decide, by decide⟩)) v2))) nl_int ?_))
    simpa using k
def triD : Tri → Int → Int → D
  | .less, x, y => .bool (decide (x < y))
  | .same, x, y => .bool (decide (x = y))
  | k, x, y => .int (triOp k x y)
def exprD (k : Tri) : D := .tuple [.str k.s, .tuple [.str "num", .int 0], .tuple [.str "num", .int 0]]
def g__law_of : DF := fun dl P => ∃ (k : Tri) (x y : Int), dl = [exprD k, .list [.int x, .int y]] ∧ P (.val (triD k x y))
def tb__law_of : DM := (mSeq (mPar3 2 3 4 (d2 dIx (dVar 0) (dC (.int 0))) (d2 dIx (dVar 1) (dC (.int 0))) (d2 dIx (dVar 1) (d2 dSub (dB bLen (aCons (dVar 1) aNil)) (dC (.int 1)))))
    (mSeq (mIf (bOr (bT (d2 dEq (dVar 2) (dC (.str "if")))) (bT (d2 (dIn false) (dVar 2) (dLst (aCons (dC (.str "and")) (aCons (dC (.str "or")) aNil)))))) (mRet (dVar 4)) mNil)
    (mSeq (mIf (bT (d2 dEq (dVar 2) (dC (.str "not")))) (mRet (dNot (dVar 3))) mNil)
    (mSeq (mIf (bT (d2 (dIn false) (dVar 2) (dLst (aCons (dC (.str "less")) (aCons (dC (.str "same")) aNil))))) (mRet (d2 dIx (dLst (aCons (d2 dLt (dVar 3) (dVar 4)) (aCons (d2 dEq (dVar 3) (dVar 4)) aNil))) (dB bInt (aCons (d2 dEq (dVar 2) (dC (.str "same"))) aNil)))) mNil)
    (mSeq (mIf (bT (d2 (dIn false) (dVar 2) (dLst (aCons (dC (.str "times")) (aCons (dC (.str "share")) aNil))))) (mRet (dIf (bT (d2 dEq (dVar 2) (dC (.str "times")))) (d2 dMulA (d2 dIx (dVar 0) (dC (.int 1))) (dVar 3)) (dCall g__law_shared (aCons (dVar 3) (aCons (d2 dIx (dVar 0) (dC (.int 2))) (aCons (d2 dIx (dVar 0) (dC (.int 3))) (aCons (d2 dIx (dVar 0) (dC (.int 4))) aNil))))))) mNil)
    (mRet (dNGet (dDisp (aCons (dC (.str "add")) (aCons (d2 dAdd (dVar 3) (dVar 4)) (aCons (dC (.str "take")) (aCons (d2 dSub (dVar 3) (dVar 4)) (aCons (dC (.str "least")) (aCons (dB bMin (aCons (dVar 3) (aCons (dVar 4) aNil))) (aCons (dC (.str "most")) (aCons (dB bMax (aCons (dVar 3) (aCons (dVar 4) aNil))) aNil))))))))) (dVar 2))))))))
theorem par3_ev {ds : DS} {i j l : Nat} {t u v : DT} {a b c : D} {E : En} (x : EvT t ds a) (y : EvT u ds b) (z : EvT v ds c) (na : ∀ xs, a ≠ .list xs) (nb : ∀ xs, b ≠ .list xs) (nc : ∀ xs, c ≠ .list xs) (k : put i (.val a) ds fun ds => put j (.val b) ds fun ds => put l (.val c) ds E.nx) : mPar3 i j l t u v E ds := x _ fun h1 i1 => y _ fun h2 i2 => z _ fun h3 i3 => sett_is i1 na (sett_is i2 nb (sett_is i3 nc k))
theorem ev_nget {ds : DS} {u : DTA} {t : DT} {s : Str} {dl : List D} {kvs : List (Key × D)} {d : D} (x : EvA u ds dl) (y : EvT t ds (.str s)) (e : prsD dl = some kvs) (l : kvs.length ≤ 15) (g : valD (mergeD [] kvs) (.inr s) = some d) : EvT (dNGet (dDisp u) t) ds d := fun Q k => by
  unfold dNGet dDisp
  refine x _ fun hs hx => takes_is hx ⟨kvs, e, l, ?_⟩
  exact y _ fun h i => i.pk' ⟨.inr s, d, rfl, g, k _ .tmp⟩
theorem rd__law_of : ∀ dl Q, dl.length = 2 → g__law_of dl Q → tb__law_of (enF Q) (slots0 5 dl) := by
  rintro dl Q - ⟨kk, x, y, rfl, k⟩
  show tb__law_of (enF Q) [.val (exprD kk), .val (.list [.int x, .int y]), .no, .no, .no]
  unfold tb__law_of
  refine seq1 [.val (exprD kk), .val (.list [.int x, .int y]), .val (.str kk.s), .val (.int x), .val (.int y)] (fun k hk => par3_ev (ev_ixT (xs := [.str kk.s, .tuple [.str "num", .int 0], .tuple [.str "num", .int 0]]) (ev_v (i := 0) rfl) ev_c rfl) (ev_ixL (xs := [.int x, .int y]) (d := .int x) (ev_v (i := 1) rfl) ev_c rfl)
    (ev_ixL (xs := [.int x, .int y]) (d := .int y) (ev_v (i := 1) rfl) (ev_sub (ev_b (ev_cons (ev_v (i := 1) rfl) ev_nil) (d := .int 2) fun Q q => q) ev_c) rfl) nl_str nl_int nl_int hk) ?_
  have v2 : EvT (dVar 2) [.val (exprD kk), .val (.list [.int x, .int y]), .val (.str kk.s), .val (.int x), .val (.int y)] (.str kk.s) := ev_v rfl
  have v3 : EvT (dVar 3) [.val (exprD kk), .val (.list [.int x, .int y]), .val (.str kk.s), .val (.int x), .val (.int y)] (.int x) := ev_v rfl
  have v4 : EvT (dVar 4) [.val (exprD kk), .val (.list [.int x, .int y]), .val (.str kk.s), .val (.int x), .val (.int y)] (.int y) := ev_v rfl
  have two : ∀ {a b : Str} {r : Bool}, inD (.str kk.s) [.str a, .str b] = r → EvB (bT (d2 (dIn false) (dVar 2) (dLst (aCons (dC (.str a)) (aCons (dC (.str b)) aNil))))) [.val (exprD kk), .val (.list [.int x, .int y]), .val (.str kk.s), .val (.int x), .val (.int y)] r := fun {a b r} e => eb_t (ev_inL v2 (ev_lst (ev_cons ev_c (ev_cons ev_c ev_nil))) rfl rfl e)
  generalize [SD.val (exprD kk), .val (.list [.int x, .int y]), .val (.str kk.s), .val (.int x), .val (.int y)] = ds at *
  refine seq_no (eb_or (a := false) (b := false) (eb_eqS v2 (by cases kk <;> decide +kernel)) fun _ => two (by cases kk <;> rfl)) (seq_no (eb_eqS v2 (by cases kk <;> decide +kernel)) ?_)
  have disp := fun {kvs : List (Key × D)} {d : D} => ev_nget (u := (aCons (dC (.str "add")) (aCons (d2 dAdd (dVar 3) (dVar 4)) (aCons (dC (.str "take")) (aCons (d2 dSub (dVar 3) (dVar 4)) (aCons (dC (.str "least")) (aCons (dB bMin (aCons (dVar 3) (aCons (dVar 4) aNil))) (aCons (dC (.str "most")) (aCons (dB bMax (aCons (dVar 3) (aCons (dVar 4) aNil))) aNil)))))))))
    (kvs := kvs) (d := d) (ev_cons ev_c (ev_cons (ev_add v3 v4) (ev_cons ev_c (ev_cons (ev_sub v3 v4) (ev_cons ev_c (ev_cons (ev_minI v3 v4) (ev_cons ev_c (ev_cons (ev_maxI v3 v4) ev_nil)))))))) v2
  have dd : ∀ d, valD [(.inr "add", .int (x + y)), (.inr "take", .int (x - y)), (.inr "least", .int (min x y)), (.inr "most", .int (max x y))] (.inr kk.s) = some d → EvT _ ds d := fun d e => disp (kvs := [(.inr "add", .int (x + y)), (.inr "take", .int (x - y)), (.inr "least", .int (min x y)), (.inr "most", .int (max x y))]) (d := d) rfl (Nat.le_of_ble_eq_true rfl) e
  cases kk with
  | less => exact seq_yes (two rfl) (ret_v (ev_ixL (xs := [.bool (decide (x < y)), .bool (decide (x = y))]) (i := 0) (ev_lst (ev_cons (ev_ltI v3 v4) (ev_cons (ev_eqI v3 v4) ev_nil))) (ev_intB (b := false) (ev_2 v2 ev_c fun Q q => q)) rfl) (fun _ => nofun) k)
  | same => exact seq_yes (two rfl) (ret_v (ev_ixL (xs := [.bool (decide (x < y)), .bool (decide (x = y))]) (i := 1) (ev_lst (ev_cons (ev_ltI v3 v4) (ev_cons (ev_eqI v3 v4) ev_nil))) (ev_intB (b := true) (ev_2 v2 ev_c fun Q q => q)) rfl) (fun _ => nofun) k)
  | add => exact seq_no (two rfl) (seq_no (two rfl) (ret_v (dd _ rfl) nl_int k))
  | take => exact seq_no (two rfl) (seq_no (two rfl) (ret_v (dd _ rfl) nl_int k))
  | least => exact seq_no (two rfl) (seq_no (two rfl) (ret_v (dd _ rfl) nl_int k))
  | most => exact seq_no (two rfl) (seq_no (two rfl) (ret_v (dd _ rfl) nl_int k))
def g__law_reckoned : DF := fun dl P => ∃ (r : Rw) (vs : List Int) (v a m : Int), dl = [r.d, .list (vs.map .int)] ∧ r.Ok a m ∧ reck r vs = some v ∧ P (.val (.int v))
def tb__law_reckoned : DM := (mSeq (mSet 2 (d2 dIx (dVar 0) (dC (.int 0))))
    (mSeq (mIf (bT (d2 dEq (dVar 2) (dC (.str "copy")))) (mRet (d2 dIx (dVar 1) (dC (.int 0)))) mNil)
    (mSeq (mIf (bT (d2 dEq (dVar 2) (dC (.str "share")))) (mRet (dCall g__law_shared (aCons (d2 dIx (dVar 1) (dC (.int 0))) (aCons (d2 dIx (dVar 0) (dC (.int 3))) (aCons (d2 dIx (dVar 0) (dC (.int 4))) (aCons (d2 dIx (dVar 0) (dC (.int 5))) aNil)))))) mNil)
    (mSeq (mIf (bT (d2 dEq (dVar 2) (dC (.str "times")))) (mRet (d2 dMulA (d2 dIx (dVar 0) (dC (.int 2))) (d2 dIx (dVar 1) (dC (.int 0))))) mNil)
    (mRet (dB bInt (aCons (dCall g__law_of (aCons (dTup (aCons (dVar 2) (aCons (dTup (aCons (dC (.str "num")) (aCons (dC (.int 0)) aNil))) (aCons (dTup (aCons (dC (.str "num")) (aCons (dC (.int 0)) aNil))) aNil)))) (aCons (dVar 1) aNil))) aNil)))))))
theorem ev_intT {ds : DS} {t : DT} {k : Tri} {x y : Int} (h : EvT t ds (triD k x y)) : EvT (dB bInt (aCons t aNil)) ds (.int (triOp k x y)) := by
  cases k with
  | less => have := ev_intB h; simpa [triOp] using this
  | same => have := ev_intB h; simpa [triOp] using this
  | _ => exact ev_intI h
theorem rd__law_reckoned : ∀ dl Q, dl.length = 2 → g__law_reckoned dl Q → tb__law_reckoned (enF Q) (slots0 3 dl) := by
  rintro dl Q - ⟨r, vs, v, a, m, rfl, ho, hv, k⟩
  show tb__law_reckoned (enF Q) [.val r.d, .val (.list (vs.map .int)), .no]
  unfold tb__law_reckoned
  refine seq1 [.val r.d, .val (.list (vs.map .int)), .val (.str r.word)] (fun k hk => set_ev (ev_w (ev_v rfl)) nl_str hk) ?_
  cases r with
  | copy c x =>
    match vs, hv with
    | [y0], hv =>
      cases hv
      exact seq_yes (eb_eqS (z := "copy") (ev_v (i := 2) rfl)) (ret_v (ev_ixL (xs := [.int v]) (ev_v (i := 1) rfl) ev_c rfl) nl_int k)
  | times c n x =>
    match vs, hv with
    | [y0], hv =>
      cases hv
      exact seq_no (eb_eqS (z := "times") (ev_v (i := 2) rfl)) (seq_no (eb_eqS (z := "times") (ev_v (i := 2) rfl)) (seq_yes (eb_eqS (z := "times") (ev_v (i := 2) rfl)) (ret_v (ev_mulA (ev_at (r := .times c n x) (d := .int n) (ev_v (i := 0) rfl) rfl) (ev_ixL (xs := [.int y0]) (ev_v (i := 1) rfl) ev_c rfl) (MulOk.l (by have := ho.2.1; omega))) nl_int k)))
  | share c x p q w =>
    match vs, hv with
    | [y0], hv =>
      cases hv
      have hp := ho.2.2.1
      have hq := ho.2.2.2
      exact seq_no (eb_eqS (z := "share") (ev_v (i := 2) rfl)) (seq_yes (eb_eqS (z := "share") (ev_v (i := 2) rfl)) (ret_v (ev_call (ev_cons (ev_ixL (xs := [.int y0]) (ev_v (i := 1) rfl) ev_c rfl) (ev_cons (ev_at (r := .share c x p q w) (d := .int p) (ev_v (i := 0) rfl) rfl)
        (ev_cons (ev_at (r := .share c x p q w) (d := .int q) (ev_v (i := 0) rfl) rfl) (ev_cons (ev_at (r := .share c x p q w) (d := .str w.s) (ev_v (i := 0) rfl) rfl) ev_nil)))) fun P h => ⟨y0, p, q, w, rfl, hp.1, by have := hp.2; omega, hq.1, by omega, h⟩) nl_int k))
  | tri kk c a1 b1 =>
    match vs, hv with
    | [x, y], hv =>
      cases hv
      have n1 : decide (kk.s = "copy") = false := by cases kk <;> decide +kernel
      have n2 : decide (kk.s = "times") = false := by cases kk <;> decide +kernel
      have n3 : decide (kk.s = "share") = false := by cases kk <;> decide +kernel
      refine seq_no (eb_eqS (ev_v (i := 2) rfl) n1) (seq_no (eb_eqS (ev_v (i := 2) rfl) n3) (seq_no (eb_eqS (ev_v (i := 2) rfl) n2) ?_))
      exact ret_v (ev_intT (ev_call (ev_cons (ev_tup (ev_cons (ev_v (i := 2) rfl) (ev_cons (ev_tup (ev_cons ev_c (ev_cons ev_c ev_nil))) (ev_cons (ev_tup (ev_cons ev_c (ev_cons ev_c ev_nil))) ev_nil)))) (ev_cons (ev_v (i := 1) rfl) ev_nil)) fun P h => ⟨kk, x, y, rfl, h⟩)) nl_int k
  | _ => cases hv
end K18.L17
namespace K18
open PySem PySem.Spec PyProof.Rows L2 BK
open DL hiding g_is_between tb_is_between rd_is_between
theorem rngD_nats (n : Nat) : rngD 0 n = natsD (List.range n) := by
  unfold rngD natsD
  apply List.map_congr_left
  intro x _
  simp
end K18
namespace K18
open PySem PySem.Spec PyProof.Rows L2 BK
open DL hiding g_is_between tb_is_between rd_is_between
def wordsK : List (Key × D) := [(.inr "put", .int 2), (.inr "copy", .int 2), (.inr "file", .int 2), (.inr "told", .int 2), (.inr "add", .int 3), (.inr "take", .int 3), (.inr "least", .int 3), (.inr "most", .int 3), (.inr "times", .int 3), (.inr "share", .int 5), (.inr "less", .int 3), (.inr "same", .int 3)]
def moreK : List (Key × D) := [(.inr "go", .int 1), (.inr "if", .int 2), (.inr "bare", .int 2), (.inr "note", .int 1), (.inr "tell", .int 2), (.inr "hangs", .int 1)]
abbrev dWords : DT := (dDisp (aCons (dC (.str "put")) (aCons (dC (.int 2)) (aCons (dC (.str "copy")) (aCons (dC (.int 2)) (aCons (dC (.str "file")) (aCons (dC (.int 2)) (aCons (dC (.str "told")) (aCons (dC (.int 2)) (aCons (dC (.str "add")) (aCons (dC (.int 3)) (aCons (dC (.str "take")) (aCons (dC (.int 3)) (aCons (dC (.str "least")) (aCons (dC (.int 3)) (aCons (dC (.str "most")) (aCons (dC (.int 3)) (aCons (dC (.str "times")) (aCons (dC (.int 3)) (aCons (dC (.str "share")) (aCons (dC (.int 5)) (aCons (dC (.str "less")) (aCons (dC (.int 3)) (aCons (dC (.str "same")) (aCons (dC (.int 3)) aNil)))))))))))))))))))))))))
abbrev dMore : DT := (dDisp (aCons (dC (.str "go")) (aCons (dC (.int 1)) (aCons (dC (.str "if")) (aCons (dC (.int 2)) (aCons (dC (.str "bare")) (aCons (dC (.int 2)) (aCons (dC (.str "note")) (aCons (dC (.int 1)) (aCons (dC (.str "tell")) (aCons (dC (.int 2)) (aCons (dC (.str "hangs")) (aCons (dC (.int 1)) aNil)))))))))))))
theorem words_mk {ds : DS} {Q : QE} (h : Q (.new (.dic wordsK)) ds) : dWords ds Q := by
  simp only [dDisp, aCons, dC, aNil, takes, take1]
  refine ⟨wordsK, rfl, by decide, ?_⟩
  have e : mergeD [] wordsK = wordsK := rfl
  rw [e]; exact h
theorem more_mk {ds : DS} {Q : QE} (h : Q (.new (.dic moreK)) ds) : dMore ds Q := by
  simp only [dDisp, aCons, dC, aNil, takes, take1]
  refine ⟨moreK, rfl, by decide, ?_⟩
  have e : mergeD [] moreK = moreK := rfl
  rw [e]; exact h
theorem set_words {E : En} {ds : DS} (k : put 0 (.dic wordsK) ds E.nx) : mSet 0 dWords E ds := by
  unfold mSet
  exact words_mk k
theorem set_more {E : En} {ds : DS} (k : put 1 (.dic moreK) ds E.nx) : mSet 1 dMore E ds := by
  unfold mSet
  exact more_mk k
def g__law_words (K : PySem.W.Frag) : DF := fun dl P => dl = [] ∧ ∀ p a b, P (.wd (twoW K p a b wordsK moreK))
def tb__law_words (K : PySem.W.Frag) : DM := (mSeq (mSet 0 (dDisp (aCons (dC (.str "put")) (aCons (dC (.int 2)) (aCons (dC (.str "copy")) (aCons (dC (.int 2)) (aCons (dC (.str "file")) (aCons (dC (.int 2)) (aCons (dC (.str "told")) (aCons (dC (.int 2)) (aCons (dC (.str "add")) (aCons (dC (.int 3)) (aCons (dC (.str "take")) (aCons (dC (.int 3)) (aCons (dC (.str "least")) (aCons (dC (.int 3)) (aCons (dC (.str "most")) (aCons (dC (.int 3)) (aCons (dC (.str "times")) (aCons (dC (.int 3)) (aCons (dC (.str "share")) (aCons (dC (.int 5)) (aCons (dC (.str "less")) (aCons (dC (.int 3)) (aCons (dC (.str "same")) (aCons (dC (.int 3)) aNil))))))))))))))))))))))))))
    (mSeq (mSet 1 (dDisp (aCons (dC (.str "go")) (aCons (dC (.int 1)) (aCons (dC (.str "if")) (aCons (dC (.int 2)) (aCons (dC (.str "bare")) (aCons (dC (.int 2)) (aCons (dC (.str "note")) (aCons (dC (.int 1)) (aCons (dC (.str "tell")) (aCons (dC (.int 2)) (aCons (dC (.str "hangs")) (aCons (dC (.int 1)) aNil))))))))))))))
    (mRet (dTwo K 0 1))))
theorem rd__law_words (K : PySem.W.Frag) : ∀ dl Q, dl.length = 0 → g__law_words K dl Q → tb__law_words K (enF Q) (slots0 2 dl) := by
  rintro dl Q - ⟨rfl, k⟩
  show tb__law_words K (enF Q) [.no, .no]
  unfold tb__law_words
  refine seq1 [.dic wordsK, .no] (fun k hk => set_words hk) ?_
  refine seq1 [.dic wordsK, .dic moreK] (fun k hk => set_more hk) ?_
  simp only [mRet, dTwo]
  exact ⟨by decide, fun p a b => k p a b⟩
theorem words_in (r : Rw) : (valD wordsK (.inr r.word)).isSome = setB r := by
  cases r with
  | tri k c a b => cases k <;> rfl
  | _ => rfl
/-- row[0] in _law_words()[0] -/
theorem ev_inW {K : PySem.W.Frag} {ds : DS} {t : DT} {r : Rw} (x : EvT t ds r.d) : EvT (dIn0 K false (d2 dIx t (dC (.int 0))) (dCall (g__law_words K) aNil)) ds (.bool (setB r)) := fun Q q => by
  simp only [dIn0]
  refine ev_w x _ fun h hi => ?_
  simp only [dCall, aNil]
  refine ⟨rfl, fun p a b => ?_⟩
  refine ⟨p, a, b, wordsK, moreK, rfl, ?_⟩
  refine hi.pk' ?_
  refine ⟨.inr r.word, rfl, ?_⟩
  rw [words_in, if_neg Bool.false_ne_true]
  exact q _ .tmp
end K18
namespace K18.L17
open PySem PySem.Spec PyProof.Rows L2 BK
open DL hiding g_is_between tb_is_between rd_is_between
def srtK (m : Kn) : Kn := m.mergeSort fun a b => PySem.W.dataLe false id (prI a) (prI b)
theorem srt_perm (m : Kn) : (srtK m).Perm m := List.mergeSort_perm _ _
theorem srt_map (m : Kn) : (m.map prI).mergeSort (PySem.W.dataLe false id) = (srtK m).map prI :=
  (List.map_mergeSort (f := prI) (r := fun a b => PySem.W.dataLe false id (prI a) (prI b)) (s := PySem.W.dataLe false id) (l := m) fun _ _ _ _ => rfl).symm
theorem pr_shp (p : Int × Int) : Shp 2 (prI p) := Shp.tuple fun x hx => by
  simp at hx
  rcases hx with rfl | rfl <;> exact Shp.int
theorem prs_shp (m : Kn) : Shp 3 (.list (m.map prI)) := Shp.list fun x hx => by
  obtain ⟨p, _, rfl⟩ := List.mem_map.mp hx
  exact pr_shp p
theorem pr_alike (m : Kn) : PySem.W.AllAlike (m.map prI) := PySem.W.AllAlike.of fun _ _ => rfl
theorem pr_sortable (m : Kn) : PySem.W.Sortable (m.map prI) := PySem.W.Sortable.tuples fun b => ⟨_, _, rfl⟩
theorem pr_eqv (p q : Int × Int) : PyData.eqv (prI p) (prI q) = decide (p = q) := by
  obtain ⟨a, b⟩ := p
  obtain ⟨c, d⟩ := q
  simp [prI, PyData.eqv, PyData.eqvAll] <;> rfl
theorem any_eqv (m : Kn) (p : Int × Int) : (m.map prI).any (fun z => PyData.eqv z (prI p)) = decide (p ∈ m) := by
  rw [List.any_map]
  by_cases h : p ∈ m
  · rw [decide_eq_true h, List.any_eq_true]
    exact ⟨p, h, by simp [pr_eqv]⟩
  · rw [decide_eq_false h, List.any_eq_false]
    intro q hq e
    have : q = p := by simpa [pr_eqv] using e
    exact h (this ▸ hq)
def PkT (t : DT) (ds : DS) (d : D) : Prop := ∀ Q : QE, (∀ h, peek ds h = some d → Q h ds) → t ds Q
theorem pk_ev {t : DT} {ds : DS} {d : D} (x : EvT t ds d) : PkT t ds d := fun Q k => x _ fun h i => k h i.pk
theorem pk_own {ds : DS} {j : Nat} {xs : List D} (h : ds[j]? = some (.own xs)) : PkT (dVar j) ds (.list xs) := fun Q k => by
  unfold dVar
  rw [h]
  exact k _ (by simp only [peek, h])
theorem pk_val {ds : DS} {j : Nat} {d : D} (h : ds[j]? = some (.val d)) : PkT (dVar j) ds d := pk_ev (ev_v h)
theorem pk_2 {op : D2} {ds : DS} {t u : DT} {a b r : D} (x : PkT t ds a) (y : PkT u ds b) (o : ∀ Q : Hd → Prop, Q (.tmp r) → op a b Q) : EvT (d2 op t u) ds r := fun Q k => x _ fun h1 i1 => y _ fun h2 i2 => by
  unfold DL.pk
  rw [i1]
  dsimp only
  rw [i2]
  exact o _ (k _ .tmp)
theorem pk_ix {ds : DS} {t u : DT} {xs : List D} {i : Int} {d : D} (x : PkT t ds (.list xs)) (y : PkT u ds (.int i)) (e : atI xs i = some d) : EvT (d2 dIx t u) ds d := pk_2 x y fun Q q => by simp only [dIx, e]; exact q
def optL : Option Kn → D
  | none => .none
  | some m => .list (m.map prI)
structure RepL (n : Nat) (L : List D) (kn : Kt) : Prop where
  len : L.length = n + 1
  at_ : ∀ i : Nat, i ≤ n → L[i]? = some (optL (kn (i : Int)))
theorem RepL.put {n : Nat} {L : List D} {kn : Kt} (h : RepL n L kn) (i : Nat) (hi : i ≤ n) (m : Kn) : RepL n (L.set i (.list (m.map prI))) (putT kn i m) := ⟨by rw [List.length_set]; exact h.len, fun j hj => by
  have hl := h.len
  unfold putT
  by_cases e : j = i
  · subst e
    rw [if_pos rfl, List.getElem?_set_self (by omega)]; rfl
  · rw [if_neg (by omega), List.getElem?_set_ne (Ne.symm e), h.at_ j hj]⟩
def cc__law_folded_1 (K : PySem.W.Frag) : DTT := (bT (d2 dInDp (dVar 13) (dVar 10)))
def ce__law_folded_1 (K : PySem.W.Frag) : DT := (dVar 13)
def lb__law_folded_1 (K : PySem.W.Frag) : DM := (mLPut 2 (dVar 11) (dIf (bT (d2 (dIsN false) (d2 dIx (dVar 2) (dVar 11)) (dC .none))) (dB bSortD (aCons (dVar 10) aNil)) (dComp (iSeq (d2 dIx (dVar 2) (dVar 11))) (gNm 13) (cc__law_folded_1 K) (ce__law_folded_1 K) [13])))
def cc__law_folded_2 (K : PySem.W.Frag) : DTT := (bT (d2 dNe (d2 dIx (dVar 13) (dC (.int 0))) (d2 dIx (dVar 5) (dC (.int 1)))))
def ce__law_folded_2 (K : PySem.W.Frag) : DT := (dKGetS 7 (dVar 12))
def lb__law_folded_2 (K : PySem.W.Frag) : DM := (mSeq (mPar 5 6 (d2 dIx (dVar 0) (dVar 4)) (d2 dIx (dVar 2) (dVar 4)))
    (mSeq (mIf (bT (d2 (dIsN true) (dVar 6) (dC .none))) (mSeq (mSet 7 (dB bDictP (aCons (dVar 6) aNil)))
    (mSeq (mPar 8 9 (dComp (iSeq (dCall g__law_reads (aCons (dVar 5) aNil))) (gNm 12) cYes (ce__law_folded_2 K) [12]) (dC .none))
    (mSeq (mIf (bT (d2 dEq (d2 dIx (dVar 5) (dC (.int 0))) (dC (.str "put")))) (mSet 9 (d2 dIx (dVar 5) (dC (.int 2)))) (mIf (bAnd (bT (dIn0 K false (d2 dIx (dVar 5) (dC (.int 0))) (dCall (g__law_words K) aNil))) (bAnd (bT (d2 (dIn true) (d2 dIx (dVar 5) (dC (.int 0))) (dLst (aCons (dC (.str "file")) (aCons (dC (.str "told")) aNil))))) (bT (d2 (dIn true) (dC .none) (dVar 8))))) (mSeq (mSet 9 (dCall g__law_reckoned (aCons (dVar 5) (aCons (dVar 8) aNil))))
    (mSet 5 (dTup (aCons (dC (.str "put")) (aCons (d2 dIx (dVar 5) (dC (.int 1))) (aCons (dVar 9) aNil)))))) (mIf (bAnd (bT (d2 dEq (d2 dIx (dVar 5) (dC (.int 0))) (dC (.str "if")))) (bT (d2 (dIsN true) (d2 dIx (dVar 8) (dC (.int 0))) (dC .none)))) (mSet 5 (dTup (aCons (dC (.str "go")) (aCons (d2 dIx (dLst (aCons (d2 dAdd (dVar 4) (dC (.int 1))) (aCons (d2 dIx (dVar 5) (dC (.int 2))) aNil))) (dB bInt (aCons (d2 dNe (d2 dIx (dVar 8) (dC (.int 0))) (dC (.int 0))) aNil))) aNil)))) mNil)))
    (mSeq (mSet 10 (dVar 6))
    (mSeq (mIf (bT (dIn0 K false (d2 dIx (dVar 5) (dC (.int 0))) (dCall (g__law_words K) aNil))) (mSet 10 (d2 dAdd (dComp (iSeq (dVar 6)) (gNm 13) (cc__law_folded_2 K) (ce__law_folded_1 K) [13]) (dRep (dLst (aCons (dTup (aCons (d2 dIx (dVar 5) (dC (.int 1))) (aCons (dVar 9) aNil))) aNil)) (dB bInt (aCons (d2 (dIsN true) (dVar 9) (dC .none)) aNil))))) mNil)
    (mFor (iSeq (dCall g__law_next (aCons (dVar 5) (aCons (dVar 4) aNil)))) (gNm 11) (lb__law_folded_1 K))))))) mNil)
    (mApp 3 (dVar 5))))
def ce__law_folded_3 (K : PySem.W.Frag) : DT := (dTup (aCons (dVar 12) (aCons (dC (.int 0)) aNil)))
def ce__law_folded_4 (K : PySem.W.Frag) : DT := (dCall g__law_reads (aCons (dVar 5) aNil))
def cc__law_folded_3 (K : PySem.W.Frag) : DTT := (bT (dIn0 K false (d2 dIx (dVar 5) (dC (.int 0))) (dCall (g__law_words K) aNil)))
def ce__law_folded_5 (K : PySem.W.Frag) : DT := (d2 dIx (dVar 5) (dC (.int 1)))
def tb__law_folded (K : PySem.W.Frag) : DM := (mSeq (mSet 1 (d2 dAdd (dLr1 (dC (.int 5))) (dComp (iSeq (dVar 0)) (gNm 5) (cc__law_folded_3 K) (ce__law_folded_5 K) [5])))
    (mSeq (mSet 1 (d2 dAdd (dVar 1) (dSumL (dComp (iSeq (dVar 0)) (gNm 5) cYes (ce__law_folded_4 K) [5]))))
    (mSeq (mPar 2 3 (dRep (dLst (aCons (dC .none) aNil)) (d2 dAdd (dB bLen (aCons (dVar 0) aNil)) (dC (.int 1)))) (dLst aNil))
    (mSeq (mLPut 2 (dC (.int 0)) (dSortSet (dComp (iSeq (dVar 1)) (gNm 12) cYes (ce__law_folded_3 K) [12])))
    (mSeq (mFor (iR1 (dB bLen (aCons (dVar 0) aNil))) (gNm 4) (lb__law_folded_2 K))
    (mRet (dB bTuple (aCons (dVar 3) aNil))))))))
/-- a slot that holds this list -/
def Holds (s : SD) (xs : List D) : Prop := s = .own xs ∨ s = .val (.list xs)
theorem Holds.pk {ds : DS} {j : Nat} {s : SD} {xs : List D} (h : Holds s xs) (e : ds[j]? = some s) : PkT (dVar j) ds (.list xs) := by
  rcases h with rfl | rfl
  · exact pk_own e
  · exact pk_val e
theorem met_filter {a b : Kn} (h : keysN b) : a.filter (fun p => decide (p ∈ b)) = metL a b := by
  unfold metL
  refine List.filter_congr fun p _ => ?_
  have : (p ∈ b) ↔ getK b p.1 = some p.2 := (get_mem h).symm
  simp only [this]
theorem lput_fin {ds : DS} {j n : Nat} {tk : DT} {d : D} {xs : List D} {E : En} (hj : ds[j]? = some (.own xs)) (x : EvT tk ds (.int (n : Int))) (hn : n < xs.length) (k : E.nx (ds.set j (.own (xs.set n d)))) :
    ownAt ds j fun _ => tk ds fun hk ds3 => DL.pk ds3 hk fun i => ownAt ds3 j fun xs => ∃ n : Nat, i = .int (n : Int) ∧ n < xs.length ∧ E.nx (ds3.set j (.own (xs.set n d))) := by
  unfold ownAt
  rw [hj]
  refine x _ fun h i => i.pk' ?_
  rw [hj]
  exact ⟨n, rfl, hn, k⟩
theorem one_way {K : PySem.W.Frag} {s0 s1 s3 s4 s5 s6 s7 s8 s9 s10 : SD} {E : En} {n : Nat} {b : Kn} {L : List D} {kn : Kt} {x : Nat} (kb : keysN b) (lb : b.length ≤ 1000) (hb : Holds s10 (b.map prI)) (hL : RepL n L kn) (hx : x ≤ n) (hf : ∀ m, kn x = some m → m.length ≤ 1000)
    (k : ∀ L', RepL n L' (putT kn x (meet1 srtK b (kn x))) → E.nx [s0, s1, .own L', s3, s4, s5, s6, s7, s8, s9, s10, .val (.int x), .no, .no]) : lb__law_folded_1 K E [s0, s1, .own L, s3, s4, s5, s6, s7, s8, s9, s10, .val (.int x), .no, .no] := by
  have sz : (2000 : Nat) ≤ sizeLine := by decide
  have hl := hL.len
  have v11 : ∀ {L : List D} {s13 : SD}, EvT (dVar 11) [s0, s1, .own L, s3, s4, s5, s6, s7, s8, s9, s10, .val (.int x), .no, s13] (.int x) := ev_v rfl
  have at_ : atI L (x : Int) = some (optL (kn x)) := atI_nat (hL.at_ x hx)
  have vx : ∀ {s13 : SD}, EvT (d2 dIx (dVar 2) (dVar 11)) [s0, s1, .own L, s3, s4, s5, s6, s7, s8, s9, s10, .val (.int x), .no, s13] (optL (kn x)) := pk_ix (pk_own rfl) (pk_ev v11) at_
  unfold lb__law_folded_1 mLPut
  have fin : ∀ m : Kn, meet1 srtK b (kn x) = m → (ownAt [s0, s1, .own L, s3, s4, s5, s6, s7, s8, s9, s10, .val (.int x), .no, .no] 2 fun _ => dVar 11 [s0, s1, .own L, s3, s4, s5, s6, s7, s8, s9, s10, .val (.int x), .no, .no] fun hk ds3 => DL.pk ds3 hk fun i => ownAt ds3 2 fun xs => ∃ n : Nat, i = .int (n : Int) ∧ n < xs.length ∧ E.nx (ds3.set 2 (.own (xs.set n (.list (m.map prI)))))) := fun m e => by
    subst e
    exact lput_fin (E := E) rfl v11 (by omega) (k _ (hL.put x hx _))
  cases ho : kn (x : Int) with
  | none =>
    rw [ho] at vx fin
    unfold dIf
    refine eb_t (b := true) (pk_2 (pk_ev vx) (pk_ev ev_c) fun Q q => q) _ ?_
    rw [if_pos rfl]
    simp only [dB, aCons, aNil]
    refine hb.pk (ds := [s0, s1, .own L, s3, s4, s5, s6, s7, s8, s9, s10, .val (.int x), .no, .no]) rfl _ fun h i => ?_
    simp only [peeks, DL.pk, i]
    refine ⟨⟨pr_alike b, pr_sortable b, by rw [List.length_map]; omega, fun y hy => ?_⟩, ?_⟩
    · obtain ⟨p, _, rfl⟩ := List.mem_map.mp hy
      exact ⟨shaped_nd (pr_shp p).shaped, by have := (pr_shp p).2; omega⟩
    · simp only [take1]
      rw [srt_map]
      exact fin _ rfl
  | some m =>
    have hm := hf m ho
    rw [ho] at vx fin
    unfold dIf
    refine eb_t (b := false) (pk_2 (pk_ev vx) (pk_ev ev_c) fun Q q => q) _ ?_
    rw [if_neg Bool.false_ne_true]
    simp only [dComp, iSeq]
    refine take_ev vx ?_
    simp only [optL]
    refine ⟨by rw [List.length_map]; omega, ?_⟩
    refine comp_fil prI (fun p => decide (p ∈ b)) prI m [] (fun p hp L' hL' => ?_) ?_
    · refine gnm_set (s := .no) rfl ?_
      show cc__law_folded_1 K [s0, s1, .own L, s3, s4, s5, s6, s7, s8, s9, s10, .val (.int x), .no, .val (prI p)] _
      unfold cc__law_folded_1
      refine eb_t (pk_2 (pk_val (d := prI p) rfl) (hb.pk rfl) (r := .bool (decide (p ∈ b))) fun Q q => ⟨(pr_shp p).shaped, (prs_shp b).shaped, by rw [any_eqv]; exact q⟩) _ ?_
      by_cases e : p ∈ b
      · rw [if_pos (decide_eq_true e)] at hL'
        rw [decide_eq_true e]
        exact take_ev (P := fun x ds4 => L' (some x) (wipeD ds4 [13])) (d := prI p) (ds := [s0, s1, .own L, s3, s4, s5, s6, s7, s8, s9, s10, .val (.int x), .no, .val (prI p)]) (ev_v (i := 13) rfl) hL'
      · rw [if_neg (by simpa using e)] at hL'
        rw [decide_eq_false e]
        exact hL'
    · rw [List.nil_append, met_filter kb]
      simp only [take1]
      exact fin _ rfl
end K18.L17
namespace K18.L17
open PySem PySem.Spec PyProof.Rows L2 BK
open DL hiding g_is_between tb_is_between rd_is_between
theorem ways_in {r : Rw} {A n : Nat} {g : Int → Option Int} (h : r.Ok A n) (hA : A + 1 ≤ n) : ∀ x ∈ (foldR r A g).ways A, 0 ≤ x ∧ x ≤ n := by
  have base : ∀ r' : Rw, (∀ t, r'.goal = some t → (A : Int) + 1 ≤ t ∧ t ≤ n) → ∀ x ∈ r'.ways A, 0 ≤ x ∧ x ≤ n := fun r' hg x hx => by
    have two : ∀ {o : Option Int}, r'.goal = o → (x = A + 1 ∨ o = some x) → 0 ≤ x ∧ x ≤ n := fun {o} e hx => by
      rcases hx with rfl | rfl
      · omega
      · have := hg x e; omega
    cases r' with
    | go t => exact two rfl (.inr (by simp [Rw.ways] at hx; rw [hx]; rfl))
    | jif c t => exact two rfl (by simp [Rw.ways] at hx; rcases hx with rfl | rfl; exact .inl rfl; exact .inr rfl)
    | bare c t => exact two rfl (by simp [Rw.ways] at hx; rcases hx with rfl | rfl; exact .inl rfl; exact .inr rfl)
    | _ => exact two rfl (by simp [Rw.ways] at hx; exact .inl hx)
  have own : ∀ t, r.goal = some t → (A : Int) + 1 ≤ t ∧ t ≤ n := fun t e => by
    cases r <;> first | (cases e; done) | skip
    · cases e; exact h
    · cases e; exact h.2
    · cases e; exact h.2
  refine base _ fun t ht => ?_
  cases hr : reckB r with
  | true =>
    obtain ⟨c, hs⟩ := rk_sets hr
    rw [fold_rk hr hs] at ht
    split at ht
    · cases ht
    · exact own t ht
  | false =>
    cases hj : isJif r with
    | false => rw [fold_no hr hj] at ht; exact own t ht
    | true =>
      obtain ⟨c, t0, rfl⟩ : ∃ c t, r = .jif c t := by
        cases r with
        | jif c t => exact ⟨c, t, rfl⟩
        | _ => exact absurd (show false = true from hj) (by decide)
      simp only [foldR] at ht
      split at ht
      · simp only [Rw.goal, Option.some.injEq] at ht
        subst ht
        have := h.2
        split <;> omega
      · cases ht
        exact h.2
theorem ways_loop {K : PySem.W.Frag} {s0 s1 s3 s4 s5 s6 s7 s8 s9 s10 : SD} {E : En} {n B : Nat} {b : Kn} (kb : keysN b) (lb : b.length ≤ B) (hB : B ≤ 1000) (hb : Holds s10 (b.map prI)) : ∀ (l : List Int) (L : List D) (kn : Kt) (s11 : SD), (∀ x ∈ l, 0 ≤ x ∧ x ≤ n) → RepL n L kn → Fit B kn →
    (∀ L' s11, RepL n L' (spread srtK b kn l) → E.nx [s0, s1, .own L', s3, s4, s5, s6, s7, s8, s9, s10, s11, .no, .no]) →
    loopD (gNm 11) (lb__law_folded_1 K) (l.map .int) E [s0, s1, .own L, s3, s4, s5, s6, s7, s8, s9, s10, s11, .no, .no]
  | [], L, kn, s11, _, hL, _, k => k L s11 hL
  | x :: l, L, kn, s11, hx, hL, hf, k => by
    obtain ⟨x0, x1⟩ := hx x List.mem_cons_self
    obtain ⟨xn, rfl⟩ := Int.eq_ofNat_of_zero_le x0
    refine Eq.mpr (show loopD _ _ (((xn : Int) :: l).map PyData.int) E _ = (lb__law_folded_1 K { E with nx := loopD (gNm 11) (lb__law_folded_1 K) (l.map .int) E, ct := loopD (gNm 11) (lb__law_folded_1 K) (l.map .int) E, bk := E.nx } [s0, s1, .own L, s3, s4, s5, s6, s7, s8, s9, s10, .val (.int xn), .no, .no]) from by simp [loopD]) ?_
    refine one_way kb (by omega) hb hL (by omega) (fun m e => by have := (hf _ m e).2; omega) fun L' h' => ?_
    refine ways_loop kb lb hB hb l L' _ _ (fun y hy => hx y (List.mem_cons_of_mem _ hy)) h' (fun i m e => ?_) k
    dsimp only [putT] at e
    by_cases hi : i = (xn : Int)
    · rw [if_pos hi] at e; cases e; exact Fit.meet srt_perm kb lb (hf _)
    · rw [if_neg hi] at e; exact hf i m e
def isFT : Rw → Bool
  | .file _ _ => true
  | .told _ _ => true
  | _ => false
theorem word_ft (r : Rw) : inD (.str r.word) [.str "file", .str "told"] = isFT r := by
  cases r with
  | tri k c a b => cases k <;> rfl
  | _ => rfl
theorem rk_and {r : Rw} (h : isPut r = false) : (setB r && !isFT r) = reckB r := by
  cases r <;> first | rfl | exact absurd (show true = false from h) (by decide)
theorem jif_no {r : Rw} (h : reckB r = true) : isJif r = false := by cases r <;> first | rfl | exact absurd (show false = true from h) (by decide)
theorem fold_put {r : Rw} {a : Int} {g : Int → Option Int} (h : isPut r = true) : foldR r a g = r := by
  cases r <;> first | rfl | exact absurd (show false = true from h) (by decide)
abbrev toldM (K : PySem.W.Frag) : DM := (mIf (bT (d2 dEq (d2 dIx (dVar 5) (dC (.int 0))) (dC (.str "put")))) (mSet 9 (d2 dIx (dVar 5) (dC (.int 2)))) (mIf (bAnd (bT (dIn0 K false (d2 dIx (dVar 5) (dC (.int 0))) (dCall (g__law_words K) aNil))) (bAnd (bT (d2 (dIn true) (d2 dIx (dVar 5) (dC (.int 0))) (dLst (aCons (dC (.str "file")) (aCons (dC (.str "told")) aNil))))) (bT (d2 (dIn true) (dC .none) (dVar 8))))) (mSeq (mSet 9 (dCall g__law_reckoned (aCons (dVar 5) (aCons (dVar 8) aNil))))
    (mSet 5 (dTup (aCons (dC (.str "put")) (aCons (d2 dIx (dVar 5) (dC (.int 1))) (aCons (dVar 9) aNil)))))) (mIf (bAnd (bT (d2 dEq (d2 dIx (dVar 5) (dC (.int 0))) (dC (.str "if")))) (bT (d2 (dIsN true) (d2 dIx (dVar 8) (dC (.int 0))) (dC .none)))) (mSet 5 (dTup (aCons (dC (.str "go")) (aCons (d2 dIx (dLst (aCons (d2 dAdd (dVar 4) (dC (.int 1))) (aCons (d2 dIx (dVar 5) (dC (.int 2))) aNil))) (dB bInt (aCons (d2 dNe (d2 dIx (dVar 8) (dC (.int 0))) (dC (.int 0))) aNil))) aNil)))) mNil)))
theorem told_stage {K : PySem.W.Frag} {s0 s1 s2 s3 s6 s7 s10 s11 : SD} {E : En} {A : Nat} {r : Rw} {g : Int → Option Int} {oa om : Int} (ho : r.Ok oa om)
    (k : ∀ s8, E.nx [s0, s1, s2, s3, .val (.int A), .val (foldR r A g).d, s6, s7, s8, .val (optD (told r g)), s10, s11, .no, .no]) :
    toldM K E [s0, s1, s2, s3, .val (.int A), .val r.d, s6, s7, .own ((r.reads.map g).map optD), .val .none, s10, s11, .no, .no] := by
  have v5 : EvT (dVar 5) [s0, s1, s2, s3, .val (.int A), .val r.d, s6, s7, .own ((r.reads.map g).map optD), .val .none, s10, s11, .no, .no] r.d := ev_v rfl
  have v4 : EvT (dVar 4) [s0, s1, s2, s3, .val (.int A), .val r.d, s6, s7, .own ((r.reads.map g).map optD), .val .none, s10, s11, .no, .no] (.int A) := ev_v rfl
  have v8 : PkT (dVar 8) [s0, s1, s2, s3, .val (.int A), .val r.d, s6, s7, .own ((r.reads.map g).map optD), .val .none, s10, s11, .no, .no] (.list ((r.reads.map g).map optD)) := pk_own rfl
  have tp := eb_eqS (ev_w v5) (word_put r)
  have tj := eb_eqS (ev_w v5) (word_jif r)
  have tw := ev_inW (K := K) v5
  have tf := ev_ninL (ev_w v5) (ev_lst (ev_cons ev_c (ev_cons ev_c ev_nil))) rfl rfl (word_ft r)
  have tn := pk_2 (op := dIn true) (pk_ev (ev_c (d := .none))) v8 (r := .bool (!(allSome (r.reads.map g)).isNone)) fun Q q => ⟨rfl, flat_opt _, by rw [opt_in]; exact q⟩
  unfold toldM
  cases hp : isPut r with
  | true =>
    rw [hp] at tp
    refine if_yes tp ?_
    have k := k (.own ((r.reads.map g).map optD))
    rw [fold_put hp] at k
    obtain ⟨c, v, rfl⟩ : ∃ c v, r = .put c v := by
      cases r with
      | put c v => exact ⟨c, v, rfl⟩
      | _ => exact absurd (show false = true from hp) (by decide)
    exact set_ev (d := .int v) (ev_at v5 rfl) nl_int k
  | false =>
    rw [hp] at tp
    refine if_no tp ?_
    have tt := eb_and (eb_t tw) fun _ => eb_and (eb_t tf) fun _ => eb_t tn
    rw [← Bool.and_assoc, rk_and hp] at tt
    have skip : told r g = none → foldR r A g = r → E.nx [s0, s1, s2, s3, .val (.int A), .val r.d, s6, s7, .own ((r.reads.map g).map optD), .val .none, s10, s11, .no, .no] := fun e1 e2 => by
      have k := k (.own ((r.reads.map g).map optD))
      rw [e1, e2] at k
      exact k
    cases hr : reckB r with
    | true =>
      rw [hr] at tt
      obtain ⟨c, hs⟩ := rk_sets hr
      cases ha : allSome (r.reads.map g) with
      | none =>
        rw [ha] at tt
        refine if_no tt ?_
        rw [jif_no hr] at tj
        refine if_no (eb_and (b := false) tj fun h => nomatch h) ?_
        have e := reck_none hr ha
        exact skip e (by rw [fold_rk hr hs, e])
      | some vs =>
        rw [ha] at tt
        obtain ⟨v, e1, e2⟩ := reck_some hr ha
        refine if_yes tt ?_
        have k := k (.val (.list (vs.map .int)))
        have ef : foldR r A g = .put c v := by rw [fold_rk hr hs, e2]
        rw [ef, e2] at k
        refine seq1 [s0, s1, s2, s3, .val (.int A), .val r.d, s6, s7, .val (.list (vs.map .int)), .val (.int v), s10, s11, .no, .no] (fun k hk => ?_) ?_
        · unfold mSet
          rw [all_some ha]
          simp only [dCall, aCons, aNil, dVar, List.getElem?_cons_zero, List.getElem?_cons_succ, takes, take1]
          exact ⟨r, vs, v, oa, om, rfl, ho, e1, hk⟩
        · exact set_ev (d := (Rw.put c v).d) (ev_tup (ev_cons ev_c (ev_cons (ev_at (ev_v (i := 5) rfl) (Rw.at1 hs)) (ev_cons (ev_v (i := 9) rfl) ev_nil)))) (fun _ => nofun) k
    | false =>
      rw [hr] at tt
      refine if_no tt ?_
      have e := reck_not (g := g) hr hp
      cases hj : isJif r with
      | false =>
        rw [hj] at tj
        refine if_no (eb_and (b := false) tj fun h => nomatch h) ?_
        exact skip e (fold_no hr hj)
      | true =>
        rw [hj] at tj
        obtain ⟨c, t, rfl⟩ : ∃ c t, r = .jif c t := by
          cases r with
          | jif c t => exact ⟨c, t, rfl⟩
          | _ => exact absurd (show false = true from hj) (by decide)
        have vv : EvT (d2 dIx (dVar 8) (dC (.int 0))) [s0, s1, s2, s3, .val (.int A), .val (Rw.jif c t).d, s6, s7, .own (((Rw.jif c t).reads.map g).map optD), .val .none, s10, s11, .no, .no] (optD (g c)) := pk_ix v8 (pk_ev ev_c) rfl
        have vt := ev_at (i := 2) (d := .int t) v5 rfl
        cases hg : g c with
        | none =>
          rw [hg] at vv
          refine if_no (eb_and (b := false) tj fun _ => eb_t (ev_2 vv ev_c fun Q q => q)) ?_
          exact skip e (by simp only [foldR]; rw [hg])
        | some v =>
          rw [hg] at vv
          have ef : foldR (.jif c t) A g = .go (if v ≠ 0 then t else A + 1) := by simp only [foldR]; rw [hg]
          refine if_yes (eb_and (b := true) tj fun _ => eb_t (ev_2 vv ev_c fun Q q => q)) ?_
          have k := k (.own (((Rw.jif c t).reads.map g).map optD))
          rw [ef, e] at k
          refine set_ev (d := (Rw.go (if v ≠ 0 then t else A + 1)).d) (ev_tup (ev_cons ev_c (ev_cons (ev_ixL (xs := [.int (A + 1), .int t]) (ev_lst (ev_cons (ev_add v4 ev_c) (ev_cons vt ev_nil))) (ev_intB (ev_neI vv ev_c)) ?_) ev_nil))) (fun _ => nofun) k
          by_cases hv : v = 0
          · subst hv; rfl
          · rw [if_pos hv, decide_eq_false hv]; rfl
end K18.L17
namespace K18.L17
open PySem PySem.Spec PyProof.Rows L2 BK
open DL hiding g_is_between tb_is_between rd_is_between
theorem ix_tmp {ds : DS} {t u : DT} {xs : List D} {i : Int} {d : D} {Q : QE} (x : PkT t ds (.list xs)) (y : PkT u ds (.int i)) (e : atI xs i = some d) (q : Q (.tmp d) ds) : d2 dIx t u ds Q := x _ fun h1 i1 => y _ fun h2 i2 => by
  unfold DL.pk
  rw [i1]
  dsimp only
  rw [i2]
  simp only [dIx, e]
  exact q
theorem ix_tmpT {ds : DS} {t u : DT} {xs : List D} {i : Int} {d : D} {Q : QE} (x : PkT t ds (.tuple xs)) (y : PkT u ds (.int i)) (e : atI xs i = some d) (q : Q (.tmp d) ds) : d2 dIx t u ds Q := x _ fun h1 i1 => y _ fun h2 i2 => by
  unfold DL.pk
  rw [i1]
  dsimp only
  rw [i2]
  simp only [dIx, e]
  exact q
theorem ev_kgets {ds : DS} {t : DT} {j : Nat} {c : Int} {m : Kn} (hj : ds[j]? = some (.dic (mapK m))) (x : EvT t ds (.int c)) : EvT (dKGetS j t) ds (optD (getK m c)) := fun Q k => by
  unfold dKGetS isDic
  rw [hj]
  refine x _ fun h i => i.pk' ?_
  rw [hj]
  exact ⟨.inl c, rfl, by rw [opt_getD]; exact k _ .tmp⟩
theorem fold_setB {r : Rw} {a : Int} {g : Int → Option Int} : (foldR r a g).sets = r.sets := by
  cases hr : reckB r with
  | true =>
    obtain ⟨c, hs⟩ := rk_sets hr
    rw [fold_rk hr hs]
    split
    · rw [hs]; rfl
    · rfl
  | false =>
    cases hj : isJif r with
    | false => rw [fold_no hr hj]
    | true =>
      cases r with
      | jif c t => simp only [foldR]; split <;> rfl
      | _ => exact absurd (show false = true from hj) (by decide)
abbrev behindM (K : PySem.W.Frag) : DM := (mIf (bT (dIn0 K false (d2 dIx (dVar 5) (dC (.int 0))) (dCall (g__law_words K) aNil))) (mSet 10 (d2 dAdd (dComp (iSeq (dVar 6)) (gNm 13) (cc__law_folded_2 K) (ce__law_folded_1 K) [13]) (dRep (dLst (aCons (dTup (aCons (d2 dIx (dVar 5) (dC (.int 1))) (aCons (dVar 9) aNil))) aNil)) (dB bInt (aCons (d2 (dIsN true) (dVar 9) (dC .none)) aNil))))) mNil)
theorem behind_stage {K : PySem.W.Frag} {s0 s1 s2 s3 s4 s7 s8 s11 : SD} {E : En} {r r' : Rw} {m : Kn} (hs : r'.sets = r.sets) (hm : m.length ≤ 1000)
    (k : ∀ s10, Holds s10 ((behindK r m).map prI) → E.nx [s0, s1, s2, s3, s4, .val r'.d, .val (.list (m.map prI)), s7, s8, .val (optD (told r (getK m))), s10, s11, .no, .no]) :
    behindM K E [s0, s1, s2, s3, s4, .val r'.d, .val (.list (m.map prI)), s7, s8, .val (optD (told r (getK m))), .val (.list (m.map prI)), s11, .no, .no] := by
  have sz : (2000 : Nat) ≤ sizeLine := by decide
  have v5 : ∀ {s13 : SD}, EvT (dVar 5) [s0, s1, s2, s3, s4, .val r'.d, .val (.list (m.map prI)), s7, s8, .val (optD (told r (getK m))), .val (.list (m.map prI)), s11, .no, s13] r'.d := ev_v rfl
  have tw := ev_inW (K := K) (v5 (s13 := .no))
  unfold behindM
  cases he : r.sets with
  | none =>
    have e : setB r' = false := by unfold setB; rw [hs, he]; rfl
    rw [e] at tw
    have eb : behindK r m = m := by unfold behindK; rw [he]
    exact if_no (eb_t tw) (k _ (.inr (by rw [eb])))
  | some c =>
    rw [he] at hs
    have e : setB r' = true := by unfold setB; rw [hs]; rfl
    rw [e] at tw
    have eb : behindK r m = match told r (getK m) with
      | none => goneL m c
      | some v => goneL m c ++ [(c, v)] := by unfold behindK; rw [he] <;> rfl
    have lg := len_gone m c
    refine if_yes (eb_t tw) ?_
    unfold mSet
    simp only [DL.d2, dComp, iSeq, dVar, List.getElem?_cons_zero, List.getElem?_cons_succ, take1]
    refine ⟨by rw [List.length_map]; omega, ?_⟩
    refine comp_fil prI (fun p => decide (p.1 ≠ c)) prI m [] (fun p hp L' hL' => ?_) ?_
    · refine gnm_set (s := .no) rfl ?_
      show cc__law_folded_2 K [s0, s1, s2, s3, s4, .val r'.d, .val (.list (m.map prI)), s7, s8, .val (optD (told r (getK m))), .val (.list (m.map prI)), s11, .no, .val (prI p)] _
      unfold cc__law_folded_2
      refine eb_t (ev_neI (a := p.1) (ev_ixT (xs := [.int p.1, .int p.2]) (ev_v (i := 13) rfl) ev_c rfl) (ev_at v5 (Rw.at1 hs))) _ ?_
      by_cases e : p.1 = c
      · rw [if_neg (by simp [e])] at hL'
        rw [decide_eq_true e]
        exact hL'
      · rw [if_pos (by simp [e])] at hL'
        rw [decide_eq_false e]
        exact take_ev (P := fun x ds4 => L' (some x) (wipeD ds4 [13])) (d := prI p) (ds := [s0, s1, s2, s3, s4, .val r'.d, .val (.list (m.map prI)), s7, s8, .val (optD (told r (getK m))), .val (.list (m.map prI)), s11, .no, .val (prI p)]) (ev_v (i := 13) rfl) hL'
    · rw [List.nil_append]
      have v9 : EvT (dVar 9) [s0, s1, s2, s3, s4, .val r'.d, .val (.list (m.map prI)), s7, s8, .val (optD (told r (getK m))), .val (.list (m.map prI)), s11, .no, .no] (optD (told r (getK m))) := ev_v rfl
      have eg : (m.filter fun p => decide (p.1 ≠ c)) = goneL m c := rfl
      rw [eg]
      show dRep _ _ [s0, s1, s2, s3, s4, .val r'.d, .val (.list (m.map prI)), s7, s8, .val (optD (told r (getK m))), .val (.list (m.map prI)), s11, .no, .no] _
      unfold dRep
      refine lst1 (d := .tuple [.int c, optD (told r (getK m))]) (ev_tup (ev_cons (ev_at v5 (Rw.at1 hs)) (ev_cons v9 ev_nil))) _ ?_
      have ti : EvT (dB bInt (aCons (d2 (dIsN true) (dVar 9) (dC .none)) aNil)) [s0, s1, s2, s3, s4, .val r'.d, .val (.list (m.map prI)), s7, s8, .val (optD (told r (getK m))), .val (.list (m.map prI)), s11, .no, .no] (.int (if (told r (getK m)).isSome then 1 else 0)) := ev_intB (ev_2 v9 ev_c fun Q q => by cases ht : told r (getK m) <;> rw [ht] at q <;> exact q)
      refine ti _ fun h i => i.pk' ?_
      cases ht : told r (getK m) with
      | none =>
        rw [ht] at eb k
        simp only [DL.pk, peek]
        refine ⟨⟨by decide, by decide, by simp⟩, ?_⟩
        refine ⟨by rw [List.length_map]; simp; omega, ?_⟩
        exact k _ (.inl (by rw [eb]; simp))
      | some v =>
        rw [ht] at eb k
        refine ⟨⟨by simp, by simp, by simp; omega⟩, ?_⟩
        refine ⟨by rw [List.length_map]; simp; omega, ?_⟩
        exact k _ (.inl (by rw [eb, List.map_append]; rfl))
theorem law_turn {K : PySem.W.Frag} {rs : List Rw} {s1 s5 s6 s7 s8 s9 s10 s11 : SD} {L : List D} {out : List Rw} {kn : Kt} {B A : Nat} {r : Rw} {E : En} (er : rs[A]? = some r) (ho : r.Ok A rs.length) (hL : RepL rs.length L kn) (hf : Fit B kn) (hB : B + 1 ≤ 1000) (hA : A + 1 ≤ rs.length) (lo : out.length < 1000)
    (k : ∀ L' s5 s6 s7 s8 s9 s10 s11, RepL rs.length L' (stepT srtK r A kn).2 → E.nx [.val (rowsD rs), s1, .own L', .own (out.map Rw.d ++ [(stepT srtK r A kn).1.d]), .val (.int A), s5, s6, s7, s8, s9, s10, s11, .no, .no]) :
    lb__law_folded_2 K E [.val (rowsD rs), s1, .own L, .own (out.map Rw.d), .val (.int A), s5, s6, s7, s8, s9, s10, s11, .no, .no] := by
  have sz : (2000 : Nat) ≤ sizeLine := by decide
  have lo2 : (out.map Rw.d).length < sizeLine := by rw [List.length_map]; omega
  have at1 : atI (rs.map Rw.d) (A : Int) = some r.d := atI_nat (by rw [List.getElem?_map, er]; rfl)
  have at2 : atI L (A : Int) = some (optL (kn A)) := atI_nat (hL.at_ A (by omega))
  unfold lb__law_folded_2
  refine seq1 [.val (rowsD rs), s1, .own L, .own (out.map Rw.d), .val (.int A), .val r.d, .val (optL (kn A)), s7, s8, s9, s10, s11, .no, .no] (fun k hk => ?_) ?_
  · unfold mPar
    refine ix_tmpT (xs := rs.map Rw.d) (pk_val rfl) (pk_val rfl) at1 ?_
    refine ix_tmp (xs := L) (pk_own rfl) (pk_val rfl) at2 ?_
    exact hk
  have last : ∀ (r' : Rw) (L' : List D) (s6 s7 s8 s9 s10 s11 : SD), (stepT srtK r A kn).1 = r' → RepL rs.length L' (stepT srtK r A kn).2 → mApp 3 (dVar 5) E [.val (rowsD rs), s1, .own L', .own (out.map Rw.d), .val (.int A), .val r'.d, s6, s7, s8, s9, s10, s11, .no, .no] := fun r' L' s6 s7 s8 s9 s10 s11 e h => by
    subst e
    exact app_ev (ev_v (i := 5) rfl) rfl lo2 (k L' _ _ _ _ _ _ _ h)
  cases hk : kn (A : Int) with
  | none =>
    refine seq_no (eb_t (pk_2 (pk_val (d := .none) rfl) (pk_ev ev_c) fun Q q => q)) ?_
    have e : stepT srtK r A kn = (r, kn) := by unfold stepT; rw [hk]
    exact last r L _ _ _ _ _ _ (by rw [e]) (by rw [e]; exact hL)
  | some m =>
    obtain ⟨km, lm⟩ := hf A m hk
    have lb := len_behind r m
    have e : stepT srtK r A kn = (foldR r A (getK m), spread srtK (behindK r m) kn ((foldR r A (getK m)).ways A)) := by unfold stepT; rw [hk]
    refine seq_yes (eb_t (pk_2 (pk_val (d := optL (some m)) rfl) (pk_ev ev_c) (r := .bool true) fun Q q => q)) ?_
    refine seq1 [.val (rowsD rs), s1, .own L, .own (out.map Rw.d), .val (.int A), .val r.d, .val (.list (m.map prI)), .dic (mapK m), s8, s9, s10, s11, .no, .no] (fun k hk => ?_) ?_
    · unfold mSet
      simp only [dB, aCons, aNil, dVar, List.getElem?_cons_zero, List.getElem?_cons_succ, peeks, DL.pk, peek, optL, bDictP]
      refine ⟨mapK m, pairs_map m, ?_⟩
      rw [merge_new km]
      exact hk
    refine seq1 [.val (rowsD rs), s1, .own L, .own (out.map Rw.d), .val (.int A), .val r.d, .val (.list (m.map prI)), .dic (mapK m), .own ((r.reads.map (getK m)).map optD), .val .none, s10, s11, .no, .no] (fun k hk => ?_) ?_
    · unfold mPar
      simp only [dComp, iSeq, dCall, aCons, aNil, dVar, List.getElem?_cons_zero, List.getElem?_cons_succ, takes, take1]
      refine ⟨r, rfl, ?_⟩
      simp only [hdOf, take1]
      refine ⟨by rw [List.length_map]; have : r.reads.length ≤ 2 := (by cases r <;> exact Nat.le_of_ble_eq_true rfl); omega, ?_⟩
      refine comp_fil (fun c : Int => PyData.int c) (fun _ => true) (fun c => optD (getK m c)) r.reads [] (fun c hc L' hL' => ?_) ?_
      · exact take_ev (P := fun x ds4 => L' (some x) (wipeD ds4 [12])) (ds := [.val (rowsD rs), s1, .own L, .own (out.map Rw.d), .val (.int A), .val r.d, .val (.list (m.map prI)), .dic (mapK m), s8, s9, s10, s11, .val (.int c), .no]) (ev_kgets (j := 7) rfl (ev_v (i := 12) rfl)) hL'
      · rw [List.filter_eq_self.mpr fun _ _ => rfl, List.nil_append]
        rw [List.map_map] at hk
        exact hk
    refine told_stage (K := K) (g := getK m) ho fun s8' => ?_
    dsimp only
    refine seq1 [.val (rowsD rs), s1, .own L, .own (out.map Rw.d), .val (.int A), .val (foldR r A (getK m)).d, .val (.list (m.map prI)), .dic (mapK m), s8', .val (optD (told r (getK m))), .val (.list (m.map prI)), s11, .no, .no] (fun k hk => hk) ?_
    refine behind_stage (K := K) (r := r) fold_setB (by omega) fun s10' h10 => ?_
    unfold mFor
    simp only [iSeq, dCall]
    refine ev_cons (ev_v (i := 5) (d := (foldR r A (getK m)).d) rfl) (ev_cons (ev_v (i := 4) (d := .int A) rfl) ev_nil) _ fun hs x => takes_is x ⟨foldR r A (getK m), A, rfl, ?_⟩
    simp only [hdOf, take1]
    refine ways_loop (B := B + 1) (keys_behind km) (by omega) (by omega) h10 ((foldR r A (getK m)).ways A) L kn s11 (ways_in ho hA) hL (fun i m e => ⟨(hf i m e).1, by have := (hf i m e).2; omega⟩) fun L' s11' hL' => ?_
    exact last _ L' _ _ _ _ _ _ (by rw [e]) (by rw [e]; exact hL')
end K18.L17
namespace K18.L17
open PySem PySem.Spec PyProof.Rows L2 BK
open DL hiding g_is_between tb_is_between rd_is_between
def canon (rs : List Rw) : List Int := tenI.filter fun c => rs.any fun r => (rowCells r).contains c
def foldS (rs : List Rw) : List Rw := runF id rs 0 (kn0 (zerosK (canon rs)))
theorem cell_any {rs : List Rw} {c : Int} : (rs.any fun r => (rowCells r).contains c) = true ↔ CellOf rs c := by
  rw [List.any_eq_true]
  simp only [List.contains_iff_mem, CellOf]
theorem cell_lo {rs : List Rw} (h : RowsOk rs) {c : Int} (hc : CellOf rs c) : cellB c := by
  obtain ⟨r, hr, hc⟩ := hc
  obtain ⟨a, m, ho⟩ := rows_ok h r hr
  exact row_cells ho c hc
theorem ten_mem {c : Int} (h : cellB c) : c ∈ tenI := by
  obtain ⟨a, b⟩ := h
  have : c = 0 ∨ c = 1 ∨ c = 2 ∨ c = 3 ∨ c = 4 ∨ c = 5 ∨ c = 6 ∨ c = 7 ∨ c = 8 ∨ c = 9 := by omega
  simpa [tenI] using this
theorem canon_mem {rs : List Rw} (h : RowsOk rs) {c : Int} (hc : CellOf rs c) : c ∈ canon rs := List.mem_filter.mpr ⟨ten_mem (cell_lo h hc), cell_any.mpr hc⟩
theorem ten_nd : tenI.Nodup := by decide
theorem canon_nd (rs : List Rw) : (canon rs).Nodup := ten_nd.sublist List.filter_sublist
theorem get_zero {ks : List Int} (h : ks.Nodup) {c : Int} (hc : c ∈ ks) : getK (zerosK ks) c = some 0 := (get_mem (zeros_keys h)).mpr (List.mem_map.mpr ⟨c, hc, rfl⟩)
theorem fold_any {s : Kn → Kn} (p : ∀ a, (s a).Perm a) {rs : List Rw} (h : RowsOk rs) {ks : List Int} (hn : ks.Nodup) (hk : ∀ c, CellOf rs c → c ∈ ks) : runF s rs 0 (kn0 (zerosK ks)) = foldS rs :=
  run_eq (C := CellOf rs) p (fun _ => .refl _) rs 0 (fun r hr c hc => ⟨r, hr, List.mem_append_right _ hc⟩) (kn0_rel (zeros_keys hn) (zeros_keys (canon_nd rs)) fun c hc => by
    rw [get_zero hn (hk c hc), get_zero (canon_nd rs) (canon_mem h hc)])
theorem fold_to {rs : List Rw} {P : SD → Prop} (h : RowsOk rs) (k : P (.val (rowsD (foldS rs)))) : FoldTo rs P := fun ks h1 h2 => by
  rw [fold_any (s := id) (fun _ => .refl _) h h1.nd fun c hc => (h2 c).mpr hc]
  exact k
theorem law_loop {K : PySem.W.Frag} {rs : List Rw} (ho : RowsOk rs) {s1 : SD} {E : En} : ∀ (k A : Nat) (out : List Rw) (kn : Kt) (L : List D) (B : Nat) (s4 s5 s6 s7 s8 s9 s10 s11 : SD), A + k = rs.length → out.length = A → RepL rs.length L kn → Fit B kn → B + k ≤ 900 →
    (∀ L' s4 s5 s6 s7 s8 s9 s10 s11, E.nx [.val (rowsD rs), s1, .own L', .own ((out ++ runF srtK (rs.drop A) A kn).map Rw.d), s4, s5, s6, s7, s8, s9, s10, s11, .no, .no]) →
    loopD (gNm 4) (lb__law_folded_2 K) (natsD (List.range' A k)) E [.val (rowsD rs), s1, .own L, .own (out.map Rw.d), s4, s5, s6, s7, s8, s9, s10, s11, .no, .no]
  | 0, A, out, kn, L, B, s4, s5, s6, s7, s8, s9, s10, s11, e, eo, hL, hf, hB, k => by
    have k := k L s4 s5 s6 s7 s8 s9 s10 s11
    rw [List.drop_of_length_le (by omega), show runF srtK [] (A : Int) kn = [] from rfl, List.append_nil] at k
    simpa [loopD, natsD] using k
  | j + 1, A, out, kn, L, B, s4, s5, s6, s7, s8, s9, s10, s11, e, eo, hL, hf, hB, k => by
    have hl : A < rs.length := by omega
    have ll := ho.len
    have er : rs[A]? = some rs[A] := List.getElem?_eq_getElem hl
    have ro := ho.ok _ _ er
    rw [List.range'_succ, natsD, List.map_cons]
    show lb__law_folded_2 K { E with nx := loopD (gNm 4) (lb__law_folded_2 K) (natsD (List.range' (A + 1) j)) E, ct := loopD (gNm 4) (lb__law_folded_2 K) (natsD (List.range' (A + 1) j)) E, bk := E.nx } [.val (rowsD rs), s1, .own L, .own (out.map Rw.d), .val (.int (A : Int)), s5, s6, s7, s8, s9, s10, s11, .no, .no]
    refine law_turn er ro hL hf (by omega) (by omega) (by omega) fun L' s5 s6 s7 s8 s9 s10 s11 h' => ?_
    have := law_loop (K := K) ho (s1 := s1) (E := E) j (A + 1) (out ++ [(stepT srtK rs[A] A kn).1]) (stepT srtK rs[A] A kn).2 L' (B + 1) (.val (.int A)) s5 s6 s7 s8 s9 s10 s11 (by omega) (by simp [eo]) h' (hf.step srt_perm) (by omega) fun L2 s4 s5 s6 s7 s8 s9 s10 s11 => by
      have kk := k L2 s4 s5 s6 s7 s8 s9 s10 s11
      rw [List.drop_eq_getElem_cons hl, run_cons] at kk
      rw [List.append_assoc]
      exact kk
    rw [List.map_append] at this
    exact this
def g__law_folded : DF := fun dl P => ∃ rs, dl = [rowsD rs] ∧ RowsOk rs ∧ P (.val (rowsD (foldS rs)))
def lawCells (rs : List Rw) : List Int := ((List.range 5).map fun i : Nat => (0 : Int) + i) ++ (rs.filter setB).map (fun r => r.sets.getD 0) ++ (rs.map Rw.reads).flatten
theorem law_cells {rs : List Rw} {c : Int} (h : CellOf rs c) : c ∈ lawCells rs := by
  obtain ⟨r, hr, hc⟩ := h
  unfold lawCells
  rcases List.mem_append.mp hc with hc | hc
  · refine List.mem_append_left _ (List.mem_append_right _ (List.mem_map.mpr ⟨r, List.mem_filter.mpr ⟨hr, ?_⟩, ?_⟩))
    · cases hs : r.sets with
      | none => rw [hs] at hc; cases hc
      | some x => unfold setB; rw [hs]; rfl
    · cases hs : r.sets with
      | none => rw [hs] at hc; cases hc
      | some x => rw [hs] at hc; simpa [eq_comm] using hc
  · exact List.mem_append_right _ (List.mem_flatten.mpr ⟨_, List.mem_map.mpr ⟨r, hr, rfl⟩, hc⟩)
theorem law_cells_lo {rs : List Rw} (h : RowsOk rs) : ∀ c ∈ lawCells rs, cellB c := fun c hc => by
  rcases List.mem_append.mp hc with hc | hc
  · rcases List.mem_append.mp hc with hc | hc
    · obtain ⟨i, hi, rfl⟩ := List.mem_map.mp hc
      have := List.mem_range.mp hi
      exact ⟨by omega, by omega⟩
    · obtain ⟨r, hr, rfl⟩ := List.mem_map.mp hc
      obtain ⟨hr, hs⟩ := List.mem_filter.mp hr
      refine cell_lo h ⟨r, hr, List.mem_append_left _ ?_⟩
      cases e : r.sets with
      | none => unfold setB at hs; rw [e] at hs; cases hs
      | some x => simp
  · obtain ⟨l, hl, hc⟩ := List.mem_flatten.mp hc
    obtain ⟨r, hr, rfl⟩ := List.mem_map.mp hl
    exact cell_lo h ⟨r, hr, List.mem_append_right _ hc⟩
theorem zeros_of {cs : List Int} {zs : List (Int × Int)} (hn : zs.Nodup) (h : ∀ x, x ∈ zs ↔ x ∈ cs.map fun c => (c, (0 : Int))) : ∃ ks : List Int, zs = zerosK ks ∧ ks.Nodup ∧ ∀ c, c ∈ ks ↔ c ∈ cs := by
  have e : zs = zerosK (zs.map (·.1)) := by
    unfold zerosK
    rw [List.map_map]
    conv => lhs; rw [← List.map_id zs]
    refine List.map_congr_left fun x hx => ?_
    obtain ⟨c, _, rfl⟩ := List.mem_map.mp ((h x).mp hx)
    rfl
  refine ⟨zs.map (·.1), e, ?_, fun c => ?_⟩
  · rw [e] at hn
    unfold zerosK at hn
    exact List.Pairwise.of_map _ (fun a b hab hb => hab (by rw [hb])) hn
  · constructor
    · intro hc
      obtain ⟨x, hx, rfl⟩ := List.mem_map.mp hc
      obtain ⟨c', hc', e'⟩ := List.mem_map.mp ((h x).mp hx)
      rw [← e']
      exact hc'
    · intro hc
      exact List.mem_map.mpr ⟨(c, 0), (h _).mpr (List.mem_map.mpr ⟨c, hc, rfl⟩), rfl⟩
theorem len_cells {rs : List Rw} (h : rs.length ≤ 100) : (lawCells rs).length ≤ 400 := by
  unfold lawCells
  have a : (rs.filter setB).length ≤ rs.length := List.length_filter_le _ _
  have b : ∀ l : List Rw, (l.map Rw.reads).flatten.length ≤ 2 * l.length := fun l => by
    induction l with
    | nil => simp
    | cons r l ih =>
      have : r.reads.length ≤ 2 := by cases r <;> exact Nat.le_of_ble_eq_true rfl
      simp only [List.map_cons, List.flatten_cons, List.length_append, List.length_cons]
      omega
  have := b rs
  simp only [List.length_append, List.length_map, List.length_range]
  omega
theorem rd__law_folded (K : PySem.W.Frag) : ∀ dl Q, dl.length = 1 → g__law_folded dl Q → tb__law_folded K (enF Q) (slots0 14 dl) := by
  rintro dl Q - ⟨rs, rfl, ho, k⟩
  have sz : (2000 : Nat) ≤ sizeLine := by decide
  have ll := ho.len
  have lc := len_cells ll
  show tb__law_folded K (enF Q) [.val (rowsD rs), .no, .no, .no, .no, .no, .no, .no, .no, .no, .no, .no, .no, .no]
  unfold tb__law_folded
  have lS : (rs.filter setB).length ≤ rs.length := List.length_filter_le _ _
  refine seq1 [.val (rowsD rs), .own ((((List.range 5).map fun i : Nat => (0 : Int) + i) ++ (rs.filter setB).map (fun r => r.sets.getD 0)).map .int), .no, .no, .no, .no, .no, .no, .no, .no, .no, .no, .no, .no] (fun k hk => ?_) ?_
  · unfold mSet
    simp only [DL.d2, dLr1, dC, dComp, iSeq, dVar, DL.pk, peek, List.getElem?_cons_zero, take1, rowsD]
    refine ⟨by decide, by decide, by rw [List.length_map]; omega, ?_⟩
    refine comp_fil Rw.d setB (fun r => .int (r.sets.getD 0)) rs [] (fun r hr L' hL' => ?_) ?_
    · refine gnm_set (s := .no) rfl ?_
      show cc__law_folded_3 K [.val (rowsD rs), .no, .no, .no, .no, .val r.d, .no, .no, .no, .no, .no, .no, .no, .no] _
      unfold cc__law_folded_3
      have v5 : EvT (dVar 5) [.val (rowsD rs), .no, .no, .no, .no, .val r.d, .no, .no, .no, .no, .no, .no, .no, .no] r.d := ev_v rfl
      refine eb_t (ev_inW (K := K) v5) _ ?_
      cases hs : setB r with
      | false => rw [hs] at hL'; exact hL'
      | true =>
        rw [hs] at hL'
        obtain ⟨c, hc⟩ := Option.isSome_iff_exists.mp hs
        have e : r.sets.getD 0 = c := by rw [hc]; rfl
        rw [e] at hL'
        exact take_ev (P := fun x ds4 => L' (some x) (wipeD ds4 [5])) (ev_at v5 (Rw.at1 hc)) hL'
    · rw [List.nil_append]
      simp only [DL.pk, peek, dAdd]
      refine ⟨by unfold rngD; simp only [List.length_map, List.length_range]; omega, ?_⟩
      rw [List.map_append, List.map_map, List.map_map] at hk
      exact hk
  refine seq1 [.val (rowsD rs), .own ((lawCells rs).map .int), .no, .no, .no, .no, .no, .no, .no, .no, .no, .no, .no, .no] (fun k hk => ?_) ?_
  · unfold mSet
    simp only [DL.d2, dSumL, dComp, iSeq, dVar, DL.pk, peek, List.getElem?_cons_zero, List.getElem?_cons_succ, take1, rowsD]
    refine ⟨by rw [List.length_map]; omega, ?_⟩
    refine comp_fil Rw.d (fun _ => true) (fun r => .list (r.reads.map .int)) rs [] (fun r hr L' hL' => ?_) ?_
    · refine gnm_set (s := .no) rfl ?_
      show (if true = true then ce__law_folded_4 K [.val (rowsD rs), .own ((((List.range 5).map fun i : Nat => (0 : Int) + i) ++ (rs.filter setB).map (fun r => r.sets.getD 0)).map .int), .no, .no, .no, .val r.d, .no, .no, .no, .no, .no, .no, .no, .no] (fun h ds3 => take1 h ds3 fun x ds4 => L' (some x) (wipeD ds4 [5])) else L' none (wipeD [.val (rowsD rs), .own ((((List.range 5).map fun i : Nat => (0 : Int) + i) ++ (rs.filter setB).map (fun r => r.sets.getD 0)).map .int), .no, .no, .no, .val r.d, .no, .no, .no, .no, .no, .no, .no, .no] [5]))
      rw [if_pos rfl]
      unfold ce__law_folded_4
      simp only [dCall, aCons, aNil, dVar, List.getElem?_cons_zero, List.getElem?_cons_succ, takes, take1]
      exact ⟨r, rfl, hL'⟩
    · rw [List.filter_eq_self.mpr fun _ _ => rfl, List.nil_append]
      have ef : (rs.map fun r => r.reads.map PyData.int).flatten = ((rs.map Rw.reads).flatten).map .int := by rw [List.map_flatten, List.map_map]; rfl
      refine ⟨rs.map fun r => r.reads.map .int, by rw [List.map_map]; rfl, ?_, ?_⟩
      · rw [ef, List.length_map]
        unfold lawCells at lc
        simp only [List.length_append] at lc
        omega
      · rw [ef]
        simp only [DL.pk, peek, List.getElem?_cons_zero, List.getElem?_cons_succ, dAdd]
        refine ⟨?_, ?_⟩
        · unfold lawCells at lc
          simp only [List.length_append] at lc
          simp only [List.length_map, List.length_append]
          simp only [List.length_map] at lc
          omega
        · rw [← List.map_append]
          exact hk
  refine seq1 [.val (rowsD rs), .own ((lawCells rs).map .int), .own (List.replicate (rs.length + 1) .none), .own [], .no, .no, .no, .no, .no, .no, .no, .no, .no, .no] (fun k hk => ?_) ?_
  · unfold mPar
    have vl : EvT (d2 dAdd (dB bLen (aCons (dVar 0) aNil)) (dC (.int 1))) [.val (rowsD rs), .own ((lawCells rs).map .int), .no, .no, .no, .no, .no, .no, .no, .no, .no, .no, .no, .no] (.int ((rs.length + 1 : Nat) : Int)) := by
      have := ev_add (ev_lenT (xs := rs.map Rw.d) (ds := [.val (rowsD rs), .own ((lawCells rs).map .int), .no, .no, .no, .no, .no, .no, .no, .no, .no, .no, .no, .no]) (ev_v (i := 0) rfl)) (ev_c (d := .int 1))
      rw [List.length_map] at this
      exact this
    unfold dRep
    refine lst1 ev_c _ ?_
    refine vl _ fun h i => i.pk' ?_
    refine ⟨⟨by omega, by omega, by simp; omega⟩, ?_⟩
    have er : (List.replicate ((rs.length + 1 : Nat) : Int).toNat [(PyData.none : D)]).flatten = List.replicate (rs.length + 1) .none := by
      rw [Int.toNat_natCast]
      generalize rs.length + 1 = n
      induction n with
      | zero => rfl
      | succ n ih => rw [List.replicate_succ, List.flatten_cons, ih]; rfl
    rw [er]
    exact hk
  refine seq_cut (fun ds => ∃ (ks : List Int) (L : List D), ks.Nodup ∧ (∀ c, c ∈ ks ↔ c ∈ lawCells rs) ∧ RepL rs.length L (kn0 (zerosK ks)) ∧ ds = [.val (rowsD rs), .val (.list ((lawCells rs).map .int)), .own L, .own [], .no, .no, .no, .no, .no, .no, .no, .no, .no, .no]) (fun k hk => ?_) ?_
  · unfold mLPut
    simp only [dSortSet, dComp, iSeq, dVar, List.getElem?_cons_zero, List.getElem?_cons_succ, take1, List.set_cons_succ, List.set_cons_zero]
    refine ⟨by rw [List.length_map]; omega, ?_⟩
    refine comp_fil (fun c : Int => PyData.int c) (fun _ => true) (fun c => prI (c, 0)) (lawCells rs) [] (fun c hc L' hL' => ?_) ?_
    · refine gnm_set (s := .no) rfl ?_
      exact take_ev (P := fun x ds4 => L' (some x) (wipeD ds4 [12])) (d := prI (c, 0)) (ds := [.val (rowsD rs), .val (.list ((lawCells rs).map .int)), .own (List.replicate (rs.length + 1) .none), .own [], .no, .no, .no, .no, .no, .no, .no, .no, .val (.int c), .no]) (ev_pr (ev_v (i := 12) rfl) ev_c) hL'
    · rw [List.filter_eq_self.mpr fun _ _ => rfl, List.nil_append]
      simp only [DL.pk, peek]
      refine ⟨(lawCells rs).map fun c => (c, 0), tenI.map fun c => (c, 0), by rw [List.map_map]; rfl, fun x hx => ?_, by decide, fun x hx => ?_, fun zs hn hz => ?_⟩
      · obtain ⟨c, hc, rfl⟩ := List.mem_map.mp hx
        exact List.mem_map.mpr ⟨c, ten_mem (law_cells_lo ho c hc), rfl⟩
      · obtain ⟨c, hc, rfl⟩ := List.mem_map.mp hx
        obtain ⟨a, b⟩ := law_cells_lo ho c hc
        exact ⟨⟨a, by show c < 64; omega⟩, Int.le_refl 0, by show (0 : Int) < 64; decide⟩
      · obtain ⟨ks, rfl, h1, h2⟩ := zeros_of hn hz
        refine lput_fin (E := { enF Q with nx := k }) (ds := [.val (rowsD rs), .val (.list ((lawCells rs).map .int)), .own (List.replicate (rs.length + 1) .none), .own [], .no, .no, .no, .no, .no, .no, .no, .no, .no, .no]) (j := 2) (n := 0) (d := .list ((zerosK ks).map prI)) (xs := List.replicate (rs.length + 1) .none) rfl ev_c (by simp) ?_
        refine hk _ ⟨ks, _, h1, h2, ⟨by rw [List.length_set, List.length_replicate], fun i hi => ?_⟩, rfl⟩
        unfold kn0
        by_cases e : i = 0
        · subst e
          rw [if_pos (show ((0 : Nat) : Int) = 0 from rfl), List.getElem?_set_self (by simp)]; rfl
        · rw [if_neg (by omega), List.getElem?_set_ne (Ne.symm e), List.getElem?_replicate, if_pos (by omega)]; rfl
  · rintro ds ⟨ks, L, h1, h2, hL, rfl⟩
    refine seq_cut (fun ds => ∃ L s4 s5 s6 s7 s8 s9 s10 s11, ds = [.val (rowsD rs), .val (.list ((lawCells rs).map .int)), .own L, .own ((foldS rs).map Rw.d), s4, s5, s6, s7, s8, s9, s10, s11, .no, .no]) (fun k hk => ?_) ?_
    · simp only [mFor, iR1, dB, aCons, aNil, dVar, List.getElem?_cons_succ, List.getElem?_cons_zero, peeks, DL.pk, peek, bLen, rowsD, List.length_map]
      refine ⟨by omega, ?_⟩
      rw [Int.toNat_natCast, rngD_nats, List.range_eq_range']
      have lk : ks.length ≤ 10 := CellsOk.len ⟨h1, fun c hc => law_cells_lo ho c ((h2 c).mp hc)⟩
      refine law_loop ho rs.length 0 [] (kn0 (zerosK ks)) L 10 _ _ _ _ _ _ _ _ (by omega) rfl hL (fun i m e => ?_) (by omega) fun L' s4 s5 s6 s7 s8 s9 s10 s11 => ?_
      · unfold kn0 at e
        by_cases ei : i = 0
        · rw [if_pos ei] at e; cases e; exact ⟨zeros_keys h1, by unfold zerosK; rw [List.length_map]; exact lk⟩
        · rw [if_neg ei] at e; cases e
      · have ee : runF srtK (rs.drop 0) ((0 : Nat) : Int) (kn0 (zerosK ks)) = foldS rs := fold_any srt_perm ho h1 fun c hc => (h2 c).mpr (law_cells hc)
        rw [ee, List.nil_append]
        exact hk _ ⟨L', s4, s5, s6, s7, s8, s9, s10, s11, rfl⟩
    · rintro ds ⟨L, s4, s5, s6, s7, s8, s9, s10, s11, rfl⟩
      simpa [rowsD, -Rw.d] using k
end K18.L17
namespace K18
open PySem PySem.Spec PyProof.Rows L2 BK
open DL hiding g_is_between tb_is_between rd_is_between
def gn__law_same (n : Nat) : DF := gSame n
theorem nz__law_same : ∀ dl Q, ¬ gn__law_same 0 dl Q := by
  rintro dl Q ⟨d, _, h, _⟩
  exact SameD_0 h
def ce__law_same_1 (g : DF) : DT := (dCall g (aCons (d2 dIx (dVar 0) (dVar 2)) (aCons (d2 dIx (dVar 1) (dVar 2)) aNil)))
def tb__law_same (g : DF) : DM := (mSeq (mIf (bT (d2 (dIsN false) (dVar 1) (dC .none))) (mRet (d2 (dIsN false) (dVar 0) (dC .none))) mNil)
    (mSeq (mIf (bT (dIsi "bool" (dVar 1))) (mRet (dAnd (dIsi "bool" (dVar 0)) (d2 dEq (dVar 0) (dVar 1)))) mNil)
    (mSeq (mIf (bT (dIsi "int" (dVar 1))) (mRet (dAnd (dIsi "int" (dVar 0)) (dAnd (dNot (dIsi "bool" (dVar 0))) (d2 dEq (dVar 0) (dVar 1))))) mNil)
    (mSeq (mIf (bT (dIsi "str" (dVar 1))) (mRet (dAnd (dIsi "str" (dVar 0)) (d2 dEq (dVar 0) (dVar 1)))) mNil)
    (mSeq (mIf (bOr (bT (d2 dNe (dIsi "list" (dVar 1)) (dIsi "list" (dVar 0)))) (bT (d2 dNe (dIsi "tuple" (dVar 1)) (dIsi "tuple" (dVar 0))))) (mRet (dC (.bool false))) mNil)
    (mRet (dAnd (d2 dEq (dB bLen (aCons (dVar 0) aNil)) (dB bLen (aCons (dVar 1) aNil))) (dB bAll (aCons (dComp (iR1 (dB bLen (aCons (dVar 1) aNil))) (gNm 2) cYes (ce__law_same_1 g) [2]) aNil)))))))))
theorem rd__law_same (n : Nat) : ∀ dl Q, dl.length = 2 → gn__law_same (n + 1) dl Q → tb__law_same (gn__law_same n) (enF Q) (slots0 3 dl) := by
  rintro dl Q - ⟨d, rfl, hs, h⟩
  have seq : ∀ (C : List D → D) (xs : List D), (C = .list ∨ C = .tuple) → xs.length ≤ sizeLine → (∀ x ∈ xs, SameD n x) → ∀ (Q' : List D → DS → Prop), Q' ((rngD 0 xs.length).map fun _ => .bool true) [.val (C xs), .val (C xs), .no] →
      compD (gNm 2) cYes (ce__law_same_1 (gSame n)) [2] (rngD 0 xs.length) [] [.val (C xs), .val (C xs), .no] Q' := fun C xs hC hl hx Q' hQ => by
    refine compD_map (fun _ => .bool true) _ _ _ (fun d hd L hL => ?_) (by simpa using hQ)
    obtain ⟨k, hk, rfl⟩ := mem_rng hd
    have e : atI xs (0 + (k : Int)) = some xs[k] := by rw [Int.zero_add]; exact atI_nat (List.getElem?_eq_getElem hk)
    have e' : atI xs (k : Int) = some xs[k] := by rw [Int.zero_add] at e; exact e
    rcases hC with rfl | rfl
    · simp [ce__law_same_1, e, e']
      exact ⟨hx _ (List.getElem_mem hk), hL⟩
    · simp [ce__law_same_1, e, e']
      exact ⟨hx _ (List.getElem_mem hk), hL⟩
  have sz : sizeLine < 2 ^ 62 := by decide +kernel
  unfold gn__law_same
  cases d with
  | none =>
    have e : PyData.eqv .none .none = true := rfl
    simpa [e, tb__law_same, isT_tuple, isT_list, isT_bool, isT_int, isT_str] using h
  | bool b => simpa [tb__law_same, isT_tuple, isT_list, isT_bool, isT_int, isT_str] using h
  | int i => simpa [tb__law_same, isT_tuple, isT_list, isT_bool, isT_int, isT_str] using h
  | str i => simpa [tb__law_same, isT_tuple, isT_list, isT_bool, isT_int, isT_str] using h
  | list xs =>
    simp [tb__law_same, isT_tuple, isT_list, isT_bool, isT_int, isT_str]
    refine ⟨by have := hs.1; omega, by simpa [rngD] using hs.1, seq .list xs (.inl rfl) hs.1 hs.2 _ ?_⟩
    exact ⟨(rngD 0 xs.length).map fun _ => true, by rw [List.map_map]; rfl, by
      have e : (((rngD 0 xs.length).map fun _ => true).all id) = true := List.all_eq_true.mpr fun b hb => by
        obtain ⟨_, _, rfl⟩ := List.mem_map.mp hb
        rfl
      simpa [e] using h⟩
  | tuple xs =>
    simp [tb__law_same, isT_tuple, isT_list, isT_bool, isT_int, isT_str]
    refine ⟨by have := hs.1; omega, by simpa [rngD] using hs.1, seq .tuple xs (.inr rfl) hs.1 hs.2 _ ?_⟩
    exact ⟨(rngD 0 xs.length).map fun _ => true, by rw [List.map_map]; rfl, by
      have e : (((rngD 0 xs.length).map fun _ => true).all id) = true := List.all_eq_true.mpr fun b hb => by
        obtain ⟨_, _, rfl⟩ := List.mem_map.mp hb
        rfl
      simpa [e] using h⟩
  | dict xs => exact hs.elim
end K18
namespace K18
open PySem PySem.Spec PyProof.Rows L2 BK
open DL hiding g_is_between tb_is_between rd_is_between
def wellOk (n : Nat) (ns : List Int) : Prop := ∃ a s c : Int, ns = [a, s, c] ∧ (0 ≤ s ∧ s < 2 ^ 32) ∧ 0 ≤ c ∧ c ≤ n
theorem wellOk.mono {m n : Nat} {ns : List Int} (h : wellOk m ns) (l : m ≤ n) : wellOk n ns := by
  obtain ⟨a, s, c, e, h1, h2, h3⟩ := h
  exact ⟨a, s, c, e, h1, h2, by omega⟩
def g__law_dip : DFW := fun w dl P => ∃ (p : Addr) (ns : List Int) (n : Nat) (many : Int), w = intsW p ns ∧ wellOk n ns ∧ n < 2 ^ 40 ∧ dl = [.int many] ∧ 1 ≤ many ∧ many < 2 ^ 64 ∧
  ∀ (r : Int) (ns' : List Int), 0 ≤ r → r < many → wellOk (n + 1) ns' → P (.val (.int r)) (intsW p ns')
def tb__law_dip : DM := (mSeq (mIf (bT (d2 dGt (dIntsIx 0 0) (dC (.int 0)))) (mSeq (mSet 2 (d2 dMod (dB bInt (aCons (dIntsIx 0 0) aNil)) (dVar 1)))
    (mSeq (mInts 0 0 (d2 dFdiv (dB bInt (aCons (dIntsIx 0 0) aNil)) (dVar 1)))
    (mRet (dVar 2)))) mNil)
    (mSeq (mInts 0 2 (d2 dAdd (dIntsIx 0 2) (dC (.int 1))))
    (mSeq (mInts 0 1 (d2 dMod (dB bInt (aCons (d2 dAdd (d2 dAdd (d2 dMulA (dIntsIx 0 1) (dC (.int 44497))) (d2 dMulA (d2 dMulA (dIntsIx 0 2) (dIntsIx 0 2)) (dC (.int 7001)))) (dC (.int 13))) aNil)) (dC (.int 2147483629))))
    (mRet (d2 dMod (d2 dFdiv (d2 dMod (dB bInt (aCons (d2 dMulA (dIntsIx 0 1) (dIntsIx 0 1)) aNil)) (dC (.int 2147483587))) (dC (.int 64))) (dVar 1))))))
theorem rd__law_dip : ∀ w dl Q, dl.length = 1 → g__law_dip w dl Q → tb__law_dip (enW w Q) (slotsW 3 w dl) := by
  rintro w dl Q - ⟨p, ns, n, many, rfl, ⟨a, s, c, rfl, ⟨s0, s1⟩, c0, c1⟩, hn, rfl, m0, m1, k⟩
  show tb__law_dip (enW (intsW p [a, s, c]) Q) [.wd (intsW p [a, s, c]), .val (.int many), .no]
  have mo : DivOk many := DivOk.of (b := 64) (by omega) (by omega) (by omega)
  have mp : 0 < many := by omega
  unfold tb__law_dip
  have t0 : ∀ b, decide (0 < a) = b → EvB (bT (d2 dGt (dIntsIx 0 0) (dC (.int 0)))) [.wd (intsW p [a, s, c]), .val (.int many), .no] b := fun b e Q q => by
    refine ⟨p, [a, s, c], a, rfl, rfl, ?_⟩
    subst e
    simpa using q
  by_cases ha : 0 < a
  · refine seq_yes (t0 true (decide_eq_true ha)) ?_
    refine seq1 [.wd (intsW p [a, s, c]), .val (.int many), .val (.int (a.fmod many))] (fun k hk => ?_) ?_
    · show mSet 2 _ _ _
      simp only [mSet, d2, dB, dIntsIx, aCons, aNil, dVar]
      refine ⟨p, [a, s, c], a, rfl, rfl, ?_⟩
      have mz : ¬ many = 0 := by omega
      simp [mz]
      exact hk
    refine seq1 [.wd (intsW p [a.fdiv many, s, c]), .val (.int many), .val (.int (a.fmod many))] (fun k hk => ?_) ?_
    · simp only [mInts, d2, dB, dIntsIx, aCons, aNil, dVar]
      refine ⟨p, [a, s, c], a, rfl, rfl, ?_⟩
      simp [mo]
      exact ⟨p, [a, s, c], rfl, Nat.zero_lt_succ _, hk⟩
    have := k (a.fmod many) [a.fdiv many, s, c] (Int.fmod_nonneg_of_pos _ mp) (Int.fmod_lt_of_pos _ mp) ⟨_, s, c, rfl, ⟨s0, s1⟩, c0, by omega⟩
    simpa using ⟨rfl, this⟩
  · refine seq_no (t0 false (decide_eq_false ha)) ?_
    refine seq1 [.wd (intsW p [a, s, c + 1]), .val (.int many), .no] (fun k hk => ?_) ?_
    · simp only [mInts, d2, dIntsIx, dC]
      refine ⟨p, [a, s, c], c, rfl, rfl, ?_⟩
      simp
      exact ⟨p, [a, s, c], rfl, Nat.lt_succ_self _, hk⟩
    have q1 : DL.MulOk s 44497 := DL.MulOk.r ⟨by decide, by decide⟩
    have q2 : DL.MulOk (c + 1) (c + 1) := DL.MulOk.r ⟨by omega, by omega⟩
    have q3 : DL.MulOk ((c + 1) * (c + 1)) 7001 := DL.MulOk.r ⟨by decide, by decide⟩
    have f0 := Int.fmod_nonneg_of_pos (s * 44497 + (c + 1) * (c + 1) * 7001 + 13) (b := 2147483629) (by decide)
    have f1 := Int.fmod_lt_of_pos (s * 44497 + (c + 1) * (c + 1) * 7001 + 13) (b := 2147483629) (by decide)
    refine seq1 [.wd (intsW p [a, (s * 44497 + (c + 1) * (c + 1) * 7001 + 13).fmod 2147483629, c + 1]), .val (.int many), .no] (fun k hk => ?_) ?_
    · simp only [mInts, d2, dB, dIntsIx, dC, aCons, aNil]
      refine ⟨p, [a, s, c + 1], s, rfl, rfl, ?_⟩
      simp [q1]
      exact ⟨p, _, rfl, c + 1, rfl, p, _, rfl, c + 1, rfl, q2, q3, p, _, rfl, Nat.succ_lt_succ (Nat.zero_lt_succ _), hk⟩
    generalize (s * 44497 + (c + 1) * (c + 1) * 7001 + 13).fmod 2147483629 = s2 at *
    have q4 : DL.MulOk s2 s2 := DL.MulOk.r ⟨by omega, by omega⟩
    have mz : ¬ many = 0 := by omega
    have dz : DL.DivOk 64 := DL.DivOk.of (b := 8) (by decide) (by decide) (by decide)
    have := k (((s2 * s2).fmod 2147483587).fdiv 64 |>.fmod many) [a, s2, c + 1] (Int.fmod_nonneg_of_pos _ mp) (Int.fmod_lt_of_pos _ mp) ⟨a, s2, c + 1, rfl, ⟨f0, by omega⟩, by omega, by omega⟩
    simp only [mRet, d2, dB, dIntsIx, dC, aCons, aNil, dVar]
    refine ⟨p, [a, s2, c + 1], s2, rfl, rfl, p, [a, s2, c + 1], s2, rfl, rfl, ?_⟩
    simp [q4, dz, mz]
    exact ⟨rfl, this⟩
def g__law_well : DF := fun dl P => ∃ cell : Int, dl = [.int cell] ∧ ∀ p ns, wellOk 0 ns → P (.wd (intsW p ns))
def tb__law_well : DM := (mSeq (mSet 0 (dB bInt (aCons (dVar 0) aNil)))
    (mRet (dInts (aCons (dIf (bT (d2 dGe (dVar 0) (d2 dPow (dC (.int 10)) (dC (.int 18))))) (d2 dSub (dVar 0) (d2 dPow (dC (.int 10)) (dC (.int 18)))) (dC (.int 0))) (aCons (d2 dAdd (d2 dMod (dVar 0) (dC (.int 1999999973))) (dC (.int 17))) (aCons (dC (.int 0)) aNil))))))
theorem cp18 : CPow 10 18 := ⟨by decide, by decide, by decide⟩
theorem rd__law_well : ∀ dl Q, dl.length = 1 → g__law_well dl Q → tb__law_well (enF Q) (slots0 1 dl) := by
  rintro dl Q - ⟨cell, rfl, k⟩
  show tb__law_well (enF Q) [.val (.int cell)]
  have e18 : (10 : Int) ^ (18 : Int).toNat = 1000000000000000000 := rfl
  have f0 := Int.fmod_nonneg_of_pos cell (b := 1999999973) (by decide)
  have f1 := Int.fmod_lt_of_pos cell (b := 1999999973) (by decide)
  unfold tb__law_well
  refine seq1 [.val (.int cell)] (fun k hk => by simpa using hk) ?_
  by_cases h : (1000000000000000000 : Int) ≤ cell
  · simp [cp18, e18, h]
    refine ⟨[cell - 1000000000000000000, cell.fmod 1999999973 + 17, 0], by simp, by simp, fun q => k q _ ⟨_, _, 0, rfl, ⟨by omega, by omega⟩, by omega, by omega⟩⟩
  · simp [cp18, e18, h]
    refine ⟨[0, cell.fmod 1999999973 + 17, 0], by simp, by simp, fun q => k q _ ⟨_, _, 0, rfl, ⟨by omega, by omega⟩, by omega, by omega⟩⟩
end K18
namespace K18
open PySem PySem.Spec PyProof.Rows L2 BK
open DL hiding g_is_between tb_is_between rd_is_between
/-- a handle that holds, whatever the well is -/
def HdW (rest : DS) (h : Hd) (d : D) : Prop := ∀ w : Wd, HdIs (.wd w :: rest) h d
def HdsW (rest : DS) (hs : List Hd) (dl : List D) : Prop := ∀ w : Wd, Paired (HdIs (.wd w :: rest)) hs dl
theorem HdW.tmp {rest : DS} {d : D} : HdW rest (.tmp d) d := fun _ => .tmp
theorem HdW.new {rest : DS} {dl : List D} : HdW rest (.new (.own dl)) (.list dl) := fun _ => .new
/-- an expression that draws m times at most, and what its value is -/
def EvN (p : Addr) (rest : DS) (m : Nat) (t : DT) (R : D → Prop) : Prop := ∀ (n : Nat) (ns : List Int) (Q : QE), wellOk n ns → n + m < 2 ^ 40 →
  (∀ h d ns', R d → HdW rest h d → wellOk (n + m) ns' → Q h (.wd (intsW p ns') :: rest)) → t (.wd (intsW p ns) :: rest) Q
def EvNA (p : Addr) (rest : DS) (m : Nat) (t : DTA) (Rs : List (D → Prop)) : Prop := ∀ (n : Nat) (ns : List Int) (Q : List Hd → DS → Prop), wellOk n ns → n + m < 2 ^ 40 →
  (∀ hs dl ns', Paired (fun R d => R d) Rs dl → HdsW rest hs dl → wellOk (n + m) ns' → Q hs (.wd (intsW p ns') :: rest)) → t (.wd (intsW p ns) :: rest) Q
section
variable {p : Addr} {rest : DS} {m m' : Nat} {t u : DT} {a : DTA} {R R' : D → Prop} {Rs : List (D → Prop)}
theorem EvN.weak (x : EvN p rest m t R) (h : ∀ d, R d → R' d) : EvN p rest m t R' := fun n ns Q w l k => x n ns Q w l fun hd d ns' r i w' => k hd d ns' (h d r) i w'
theorem EvN.more (x : EvN p rest m t R) (h : m ≤ m') : EvN p rest m' t R := fun n ns Q w l k => x n ns Q w (by omega) fun hd d ns' r i w' => k hd d ns' r i (w'.mono (by omega))
theorem en_k {d : D} (x : ∀ (ds : DS) (Q : QE), Q (.tmp d) ds → t ds Q) : EvN p rest 0 t (fun e => e = d) := fun n ns Q w l k => x _ _ (k _ d ns rfl .tmp w)
theorem en_c {d : D} : EvN p rest 0 (dC d) (fun e => e = d) := en_k fun _ _ q => q
theorem en_v {i : Nat} {d : D} (h : rest[i]? = some (.val d) := by rfl) : EvN p rest 0 (dVar (i + 1)) (fun e => e = d) := fun n ns Q w l k => by
  have h' : ∀ w : Wd, (.wd w :: rest : DS)[i + 1]? = some (.val d) := fun w => by simpa using h
  unfold dVar
  rw [h']
  refine k _ d ns rfl (fun w => ⟨fun P q => ?_, ?_⟩) w
  · simp only [take1, h']; exact q
  · simp only [peek, h']
theorem en_nil : EvNA p rest 0 aNil [] := fun n ns Q w l k => k _ _ ns .nil (fun _ => .nil) w
theorem en_cons (x : EvN p rest m t R) (y : EvNA p rest m' a Rs) : EvNA p rest (m + m') (aCons t a) (R :: Rs) := fun n ns Q w l k =>
  x n ns _ w (by omega) fun h d ns1 r i w1 => y (n + m) ns1 _ w1 (by omega) fun hs dl ns2 rs is w2 => k _ _ ns2 (.cons r rs) (fun w => .cons (i w) (is w)) (by rw [← Nat.add_assoc]; exact w2)
theorem en_tup (x : EvNA p rest m a Rs) : EvN p rest m (dTup a) (fun d => ∃ dl, d = .tuple dl ∧ Paired (fun R d => R d) Rs dl) := fun n ns Q w l k =>
  x n ns _ w l fun hs dl ns1 rs is w1 => takes_is (is _) (k _ _ ns1 ⟨dl, rfl, rs⟩ .tmp w1)
theorem en_lst (x : EvNA p rest m a Rs) : EvN p rest m (dLst a) (fun d => ∃ dl, d = .list dl ∧ Paired (fun R d => R d) Rs dl) := fun n ns Q w l k =>
  x n ns _ w l fun hs dl ns1 rs is w1 => takes_is (is _) (k _ _ ns1 ⟨dl, rfl, rs⟩ .new w1)
def IntIn (lo hi : Int) (d : D) : Prop := ∃ i : Int, d = .int i ∧ lo ≤ i ∧ i < hi
theorem en_2 {op : D2} {R2 : D → Prop} (x : EvN p rest m t R) (y : EvN p rest m' u R') (o : ∀ a b (Q : Hd → Prop), R a → R' b → (∀ d, R2 d → Q (.tmp d)) → op a b Q) : EvN p rest (m + m') (d2 op t u) R2 := fun n ns Q w l k =>
  x n ns _ w (by omega) fun h d ns1 r i w1 => y (n + m) ns1 _ w1 (by omega) fun h2 d2 ns2 r2 i2 w2 =>
    (i _).pk' (P := fun a => pk _ h2 fun b => op a b fun h => Q h _) ((i2 _).pk' (P := fun b => op d b fun h => Q h _) (o d d2 _ r r2 fun e re => k _ e ns2 re .tmp (by rw [← Nat.add_assoc]; exact w2)))
theorem en_add {a b c d : Int} (x : EvN p rest m t (IntIn a b)) (y : EvN p rest m' u (IntIn c d)) : EvN p rest (m + m') (d2 dAdd t u) (IntIn (a + c) (b + d - 1)) :=
  en_2 x y fun e f Q ⟨i, h1, h2, h3⟩ ⟨j, g1, g2, g3⟩ q => by
    subst h1 g1
    exact q _ ⟨i + j, rfl, by omega, by omega⟩
theorem paired_get {α β : Type} {F : α → β → Prop} : ∀ {xs : List α} {ys : List β} {i : Nat}, Paired F xs ys → i < xs.length → ∃ x y, xs[i]? = some x ∧ ys[i]? = some y ∧ F x y
  | _, _, _, .nil, h => by simp at h
  | _, _, 0, .cons f _, _ => ⟨_, _, rfl, rfl, f⟩
  | _, _, i + 1, .cons _ r, h => by simpa using paired_get r (by simpa using h)
theorem en_ix {k : Int} (x : EvN p rest m t (fun d => ∃ dl, d = .list dl ∧ Paired (fun R d => R d) Rs dl)) (y : EvN p rest m' u (IntIn 0 k)) (hk : k ≤ Rs.length) (h : ∀ R ∈ Rs, ∀ d, R d → R' d) : EvN p rest (m + m') (d2 dIx t u) R' :=
  en_2 x y fun e f Q ⟨dl, h1, h2⟩ ⟨j, g1, g2, g3⟩ q => by
    subst h1 g1
    obtain ⟨j, rfl⟩ := Int.eq_ofNat_of_zero_le g2
    obtain ⟨S, d, e1, e2, s⟩ := paired_get (i := j) h2 (by omega)
    have e3 : atI dl (j : Int) = some d := atI_nat e2
    simp only [dIx, e3]
    exact q d (h S (List.mem_of_getElem? e1) d s)
theorem en_dip {lo B : Int} (x : EvN p rest m t (IntIn lo (B + 1))) (h1 : 1 ≤ lo := by decide) (h2 : B < 2 ^ 64 := by decide) : EvN p rest (m + 1) (dCallW 0 g__law_dip (aCons t aNil)) (IntIn 0 B) := fun n ns Q w l k =>
  x n ns _ w (by omega) fun h d ns1 ⟨i, e, l1, l2⟩ hi w1 => by
    subst e
    refine (hi _).tk _ ?_
    simp only [aNil, takes]
    exact ⟨p, ns1, n + m, i, rfl, w1, by omega, rfl, by omega, by omega, fun r ns2 r0 r1 w2 => ⟨rfl, k _ _ ns2 ⟨r, rfl, r0, by omega⟩ .tmp (by rw [← Nat.add_assoc]; exact w2)⟩⟩
theorem in_eq {i lo hi : Int} (h : lo ≤ i ∧ i < hi := by decide) : ∀ d, d = .int i → IntIn lo hi d := fun _ e => ⟨i, e, h⟩
theorem en_dipc {B : Int} (h1 : 1 ≤ B := by decide) (h2 : B < 2 ^ 64 := by decide) : EvN p rest 1 (dCallW 0 g__law_dip (aCons (dC (.int B)) aNil)) (IntIn 0 B) :=
  en_dip (m := 0) (en_c.weak (in_eq ⟨Int.le_refl _, by omega⟩)) h1 h2
theorem en_eq0 {B : Int} (x : EvN p rest m t (IntIn 0 B)) : EvN p rest (m + 0) (dB bInt (aCons (d2 dEq t (dC (.int 0))) aNil)) (IntIn 0 2) := fun n ns Q w l k => by
  refine en_2 (op := dEq) (R2 := fun d => ∃ b, d = .bool b) x en_c (fun e f Q ⟨j, g1, _, _⟩ e2 q => ?_) n ns _ w l fun h d ns1 ⟨b, e⟩ hi w1 => ?_
  · subst g1 e2
    exact q _ ⟨_, rfl⟩
  · subst e
    refine (hi _).pk' ?_
    simp only [aNil, peeks]
    refine k _ _ ns1 ⟨if b then 1 else 0, rfl, ?_, ?_⟩ .tmp w1 <;> cases b <;> decide
theorem en_nget {s : Str} (x : EvNA p rest m a Rs) (y : EvN p rest 0 t (fun d => d = .str s)) (h : ∀ dl, Paired (fun R d => R d) Rs dl → ∃ kvs, prsD dl = some kvs ∧ kvs.length ≤ 15 ∧ ∃ d, valD (mergeD [] kvs) (.inr s) = some d ∧ R d) : EvN p rest m (dNGet (dDisp a) t) R := fun n ns Q w l k =>
  x n ns _ w l fun hs dl ns1 rs is w1 => takes_is (is _) (by
    obtain ⟨kvs, e1, e2, d, e3, r⟩ := h dl rs
    refine ⟨kvs, e1, e2, ?_⟩
    refine y (n + m) ns1 _ w1 (by omega) fun h2 d2 ns2 e4 i2 w2 => ?_
    subst e4
    refine (i2 _).pk' ?_
    exact ⟨_, d, rfl, e3, k _ d ns2 r .tmp w2⟩)
end
section
variable {p : Addr} {rest : DS} {m m' : Nat} {t u : DT} {a : DTA} {R R' : D → Prop} {Rs : List (D → Prop)}
theorem en_b {op : DN} {R2 : D → Prop} (x : EvNA p rest m a Rs) (o : ∀ dl (Q : Hd → Prop), Paired (fun R d => R d) Rs dl → (∀ d, R2 d → Q (.tmp d)) → op dl Q) : EvN p rest m (dB op a) R2 := fun n ns Q w l k =>
  x n ns _ w l fun hs dl ns1 rs is w1 => peeks_is (is _) (o dl _ rs fun d r => k _ d ns1 r .tmp w1)
theorem en_sub {a b : Int} (x : EvN p rest m t (fun d => d = .int a)) (y : EvN p rest m' u (fun d => d = .int b)) : EvN p rest (m + m') (d2 dSub t u) (fun d => d = .int (a - b)) :=
  en_2 x y fun e f Q e1 e2 q => by
    subst e1 e2
    exact q _ rfl
theorem en_min {a b : Int} (x : EvN p rest m t (fun d => d = .int a)) (y : EvN p rest m' u (fun d => d = .int b)) : EvN p rest (m + (m' + 0)) (dB bMin (aCons t (aCons u aNil))) (fun d => d = .int (min a b)) :=
  en_b (en_cons x (en_cons y en_nil)) fun dl Q h q => match dl, h with
    | _, .cons e1 (.cons e2 .nil) => by
      subst e1 e2
      exact q _ rfl
end
theorem retD_v {h : Hd} {ds : DS} {d : D} {Q : SD → Prop} (i : HdIs ds h d) (n : ∀ xs, d ≠ .list xs) (k : Q (.val d)) : retD h ds Q := by
  have e := i.pk
  cases h with
  | tmp d' => cases e; exact k
  | slot j =>
    cases hd : ds[j]? with
    | none => simp [hd] at e
    | some s =>
      cases s with
      | val d' => simp [hd] at e; subst e; simpa [retD, hd] using k
      | own xs => simp [hd] at e; exact absurd e.symm (n _)
      | no => simp [hd] at e
      | dic _ => simp [hd] at e
      | wd _ => simp [hd] at e
      | ob _ => simp [hd] at e
  | new s =>
    cases s with
    | val d' => cases e; exact k
    | own xs => cases e; exact absurd rfl (n _)
    | no => cases e
    | dic _ => cases e
    | wd _ => cases e
    | ob _ => cases e
  | fld _ _ _ =>
    simp only [peek] at e
    split at e
    · split at e
      · split at e
        · cases e; exact absurd rfl (n _)
        · cases e
      · cases e
    · cases e
theorem sett_v {h : Hd} {ds : DS} {d : D} {Q : SD → DS → Prop} (i : HdIs ds h d) (n : ∀ xs, d ≠ .list xs) (k : Q (.val d) ds) : sett h ds Q := by
  have e := i.pk
  cases h with
  | tmp d' => cases e; exact k
  | slot j =>
    cases hd : ds[j]? with
    | none => simp [hd] at e
    | some s =>
      cases s with
      | val d' => simp [hd] at e; subst e; simpa [sett, hd] using k
      | own xs => simp [hd] at e; exact absurd e.symm (n _)
      | no => simp [hd] at e
      | dic _ => simp [hd] at e
      | wd _ => simp [hd] at e
      | ob _ => simp [hd] at e
  | new s =>
    cases s with
    | val d' => cases e; exact k
    | own xs => cases e; exact absurd rfl (n _)
    | no => cases e
    | dic _ => cases e
    | wd _ => cases e
    | ob _ => cases e
  | fld _ _ _ =>
    simp only [peek] at e
    split at e
    · split at e
      · split at e
        · cases e; exact absurd rfl (n _)
        · cases e
      · cases e
    · cases e
section
variable {p : Addr} {rest : DS} {m n : Nat} {ns : List Int} {t : DT} {R : D → Prop} {w0 : Wd} {P : SD → Wd → Prop} {E : En} {g : DGT} {i : Nat} {s0 : SD}
theorem en_ret (x : EvN p rest m t R) (w : wellOk n ns) (l : n + m < 2 ^ 40) (hv : (intsW p ns).val = w0.val) (hE : E.rt = (enW w0 P).rt)
    (hR : ∀ d, R d → ∀ xs, d ≠ .list xs) (k : ∀ d ns', R d → wellOk (n + m) ns' → P (.val d) (intsW p ns')) : mRet t E (.wd (intsW p ns) :: rest) := by
  unfold mRet
  rw [hE]
  exact x n ns _ w l fun h d ns' r i w' => ⟨hv, retD_v (i _) (hR d r) (k d ns' r w')⟩
theorem en_unp (x : EvN p rest m t R) (w : wellOk n ns) (l : n + m < 2 ^ 40) (k : ∀ d ns', R d → wellOk (n + m) ns' → g d (.wd (intsW p ns') :: rest) E.nx) : mUnp t g E (.wd (intsW p ns) :: rest) :=
  x n ns _ w l fun h d ns' r i w' => (i _).tk _ (k d ns' r w')
theorem en_set (x : EvN p rest m t R) (w : wellOk n ns) (l : n + m < 2 ^ 40) (hi : rest[i]? = some s0) (hR : ∀ d, R d → ∀ xs, d ≠ .list xs) (k : ∀ d ns', R d → wellOk (n + m) ns' → E.nx (.wd (intsW p ns') :: rest.set i (.val d))) : mSet (i + 1) t E (.wd (intsW p ns) :: rest) :=
  x n ns _ w l fun h d ns' r i w' => sett_v (i _) (hR d r) (by
    have e : (.wd (intsW p ns') :: rest : DS)[‹Nat› + 1]? = some s0 := by simpa using hi
    unfold put
    rw [e]
    exact k d ns' r w')
theorem en_ixo {xs : List D} {k : Int} (h : rest[i]? = some (.own xs)) (y : EvN p rest m t (IntIn 0 k)) (hk : k ≤ xs.length) (hR : ∀ d ∈ xs, R d) : EvN p rest m (d2 dIx (dVar (i + 1)) t) R := fun n ns Q w l kk => by
  have h' : ∀ w : Wd, (.wd w :: rest : DS)[i + 1]? = some (.own xs) := fun w => by simpa using h
  have e1 : ∀ (Q' : QE), Q' (.slot (i + 1)) (.wd (intsW p ns) :: rest) → dVar (i + 1) (.wd (intsW p ns) :: rest) Q' := fun Q' q => by
    unfold dVar
    rw [h']
    exact q
  refine e1 _ (y n ns _ w l fun h2 d2 ns2 ⟨j, g1, g2, g3⟩ i2 w2 => ?_)
  subst g1
  obtain ⟨j, rfl⟩ := Int.eq_ofNat_of_zero_le g2
  have hj : j < xs.length := by omega
  have e3 : atI xs (j : Int) = some xs[j] := atI_nat (List.getElem?_eq_getElem hj)
  have e4 : peek (.wd (intsW p ns2) :: rest) (.slot (i + 1)) = some (.list xs) := by simp only [peek, h']
  unfold DL.pk
  rw [e4]
  refine (i2 _).pk' ?_
  simp only [dIx, e3]
  exact kk _ _ ns2 (hR _ (List.getElem_mem hj)) .tmp w2
theorem eb_in4 {ds : DS} {t : DT} {s x y z u : Str} {b : Bool} (h : EvT t ds (.str s)) (e : inD (.str s) [.str x, .str y, .str z, .str u] = b := by decide +kernel) :
    EvB (bT (d2 (dIn false) t (dLst (aCons (dC (.str x)) (aCons (dC (.str y)) (aCons (dC (.str z)) (aCons (dC (.str u)) aNil))))))) ds b :=
  eb_t (ev_inL h (ev_lst (ev_cons ev_c (ev_cons ev_c (ev_cons ev_c (ev_cons ev_c ev_nil))))) rfl rfl e)
theorem eb_in3 {ds : DS} {t : DT} {s x y z : Str} {b : Bool} (h : EvT t ds (.str s)) (e : inD (.str s) [.str x, .str y, .str z] = b := by decide +kernel) :
    EvB (bT (d2 (dIn false) t (dLst (aCons (dC (.str x)) (aCons (dC (.str y)) (aCons (dC (.str z)) aNil)))))) ds b :=
  eb_t (ev_inL h (ev_lst (ev_cons ev_c (ev_cons ev_c (ev_cons ev_c ev_nil)))) rfl rfl e)
end
end K18
namespace K18
open PySem PySem.Spec PyProof.Rows L2 BK
open DL hiding g_is_between tb_is_between rd_is_between
def wordsS : List Str := ["put", "put", "copy", "file", "told", "add", "take", "least", "most", "times", "share", "less", "same", "go", "if", "if", "bare", "note", "note", "tell", "hangs"]
def g__law_row : DFW := fun w dl P => ∃ (p : Addr) (ns : List Int) (n at_ many : Nat), w = intsW p ns ∧ wellOk n ns ∧ n < 2 ^ 39 ∧ dl = [.int at_, .int many, .int 2] ∧ at_ < many ∧ many ≤ 100 ∧
  ∀ (r : Rw) (ns' : List Int), r.Ok at_ many → wellOk (n + 16) ns' → P (.val r.d) (intsW p ns')
def tb__law_row : DM := (mSeq (mSet 4 (dLst (aCons (dC (.str "put")) (aCons (dC (.str "put")) (aCons (dC (.str "copy")) (aCons (dC (.str "file")) (aCons (dC (.str "told")) (aCons (dC (.str "add")) (aCons (dC (.str "take")) (aCons (dC (.str "least")) (aCons (dC (.str "most")) (aCons (dC (.str "times")) (aCons (dC (.str "share")) (aCons (dC (.str "less")) (aCons (dC (.str "same")) (aCons (dC (.str "go")) (aCons (dC (.str "if")) (aCons (dC (.str "if")) (aCons (dC (.str "bare")) (aCons (dC (.str "note")) (aCons (dC (.str "note")) (aCons (dC (.str "tell")) (aCons (dC (.str "hangs")) aNil)))))))))))))))))))))))
    (mSeq (mSet 5 (d2 dIx (dVar 4) (dCallW 0 g__law_dip (aCons (dC (.int 21)) aNil))))
    (mSeq (mUnp (dTup (aCons (dCallW 0 g__law_dip (aCons (dC (.int 5)) aNil)) (aCons (dCallW 0 g__law_dip (aCons (dC (.int 5)) aNil)) (aCons (dCallW 0 g__law_dip (aCons (dC (.int 5)) aNil)) (aCons (d2 dAdd (d2 dAdd (dVar 1) (dC (.int 1))) (dCallW 0 g__law_dip (aCons (dB bMin (aCons (d2 dSub (dVar 2) (dVar 1)) (aCons (dC (.int 6)) aNil))) aNil))) aNil))))) (gTp 4 (gsCons (gNm 6) (gsCons (gNm 7) (gsCons (gNm 8) (gsCons (gNm 9) gsNil))))))
    (mSeq (mIf (bT (d2 (dIn false) (dVar 5) (dLst (aCons (dC (.str "put")) (aCons (dC (.str "copy")) (aCons (dC (.str "file")) (aCons (dC (.str "told")) aNil))))))) (mRet (dTup (aCons (dVar 5) (aCons (dVar 6) (aCons (dNGet (dDisp (aCons (dC (.str "put")) (aCons (d2 dIx (dLst (aCons (dC (.int 0)) (aCons (dC (.int 1)) (aCons (dC (.int 1)) (aCons (d1 dNeg (dC (.int 3))) (aCons (d2 dPow (dC (.int 10)) (dC (.int 20))) aNil)))))) (dCallW 0 g__law_dip (aCons (dC (.int 5)) aNil))) (aCons (dC (.str "copy")) (aCons (dVar 7) (aCons (dC (.str "file")) (aCons (dCallW 0 g__law_dip (aCons (dVar 3) aNil)) (aCons (dC (.str "told")) (aCons (d2 dIx (dLst (aCons (dCallW 0 g__law_dip (aCons (dC (.int 4)) aNil)) (aCons (dC (.int 9)) aNil))) (dB bInt (aCons (d2 dEq (dCallW 0 g__law_dip (aCons (dC (.int 9)) aNil)) (dC (.int 0))) aNil))) aNil))))))))) (dVar 5)) aNil))))) mNil)
    (mSeq (mIf (bT (d2 (dIn false) (dVar 5) (dLst (aCons (dC (.str "go")) (aCons (dC (.str "if")) (aCons (dC (.str "bare")) aNil)))))) (mRet (dNGet (dDisp (aCons (dC (.str "go")) (aCons (dTup (aCons (dVar 5) (aCons (dVar 9) aNil))) (aCons (dC (.str "if")) (aCons (dTup (aCons (dVar 5) (aCons (dVar 7) (aCons (dVar 9) aNil)))) (aCons (dC (.str "bare")) (aCons (dTup (aCons (dVar 5) (aCons (dCallW 0 g__law_dip (aCons (dC (.int 4)) aNil)) (aCons (dVar 9) aNil)))) aNil))))))) (dVar 5))) mNil)
    (mSeq (mIf (bT (d2 (dIn false) (dVar 5) (dLst (aCons (dC (.str "note")) (aCons (dC (.str "tell")) (aCons (dC (.str "hangs")) aNil)))))) (mRet (dNGet (dDisp (aCons (dC (.str "note")) (aCons (dTup (aCons (dVar 5) (aCons (d2 dIx (dLst (aCons (dC (.str "p")) (aCons (dC (.str "qq")) (aCons (dC (.str "zoo")) (aCons (dC (.str "alpha")) (aCons (dC (.str "b")) aNil)))))) (dCallW 0 g__law_dip (aCons (dC (.int 5)) aNil))) aNil))) (aCons (dC (.str "tell")) (aCons (dTup (aCons (dVar 5) (aCons (dVar 7) (aCons (d2 dIx (dLst (aCons (dC (.str "int")) (aCons (dC (.str "truth")) aNil))) (dCallW 0 g__law_dip (aCons (dC (.int 2)) aNil))) aNil)))) (aCons (dC (.str "hangs")) (aCons (dTup (aCons (dVar 5) (aCons (dCallW 0 g__law_dip (aCons (dC (.int 4)) aNil)) aNil))) aNil))))))) (dVar 5))) mNil)
    (mSeq (mIf (bT (d2 dEq (dVar 5) (dC (.str "times")))) (mRet (dTup (aCons (dVar 5) (aCons (dVar 6) (aCons (d2 dIx (dLst (aCons (dC (.int 2)) (aCons (d1 dNeg (dC (.int 1))) (aCons (dC (.int 0)) (aCons (dC (.int 1000)) aNil))))) (dCallW 0 g__law_dip (aCons (dC (.int 4)) aNil))) (aCons (dVar 7) aNil)))))) mNil)
    (mSeq (mIf (bT (d2 dEq (dVar 5) (dC (.str "share")))) (mRet (dTup (aCons (dVar 5) (aCons (dVar 6) (aCons (dVar 7) (aCons (dCallW 0 g__law_dip (aCons (dC (.int 5)) aNil)) (aCons (d2 dAdd (dC (.int 1)) (dCallW 0 g__law_dip (aCons (dC (.int 5)) aNil))) (aCons (d2 dIx (dLst (aCons (dC (.str "down")) (aCons (dC (.str "up")) (aCons (dC (.str "near")) aNil)))) (dCallW 0 g__law_dip (aCons (dC (.int 3)) aNil))) aNil)))))))) mNil)
    (mRet (dTup (aCons (dVar 5) (aCons (dVar 6) (aCons (dVar 7) (aCons (dVar 8) aNil))))))))))))))
def RowR (at_ many : Int) (d : D) : Prop := ∃ r : Rw, d = r.d ∧ r.Ok at_ many
theorem RowR.notL {a m : Int} (d : D) (h : RowR a m d) : ∀ xs, d ≠ .list xs := by
  obtain ⟨r, rfl, _⟩ := h
  intro xs
  cases r <;> exact nofun
section
variable {p : Addr} {at_ many c a b to : Int} {ws : List D} {s : Str}
def rst (at_ many : Int) (ws : List D) (s : Str) (c a b to : Int) : DS := [.val (.int at_), .val (.int many), .val (.int 2), .own ws, .val (.str s), .val (.int c), .val (.int a), .val (.int b), .val (.int to)]
theorem v_s : EvN p (rst at_ many ws s c a b to) 0 (dVar 5) (fun d => d = .str s) := en_v (rest := rst at_ many ws s c a b to) (i := 4) rfl
theorem v_c : EvN p (rst at_ many ws s c a b to) 0 (dVar 6) (fun d => d = .int c) := en_v (rest := rst at_ many ws s c a b to) (i := 5) rfl
theorem v_a : EvN p (rst at_ many ws s c a b to) 0 (dVar 7) (fun d => d = .int a) := en_v (rest := rst at_ many ws s c a b to) (i := 6) rfl
theorem v_b : EvN p (rst at_ many ws s c a b to) 0 (dVar 8) (fun d => d = .int b) := en_v (rest := rst at_ many ws s c a b to) (i := 7) rfl
theorem v_to : EvN p (rst at_ many ws s c a b to) 0 (dVar 9) (fun d => d = .int to) := en_v (rest := rst at_ many ws s c a b to) (i := 8) rfl
theorem v_two : EvN p (rst at_ many ws s c a b to) 0 (dVar 3) (fun d => d = .int 2) := en_v (rest := rst at_ many ws s c a b to) (i := 2) rfl
theorem neg3 {rest : DS} : EvN p rest 0 (d1 dNeg (dC (.int 3))) (fun e => e = .int (-3)) := en_k fun _ _ q => q
theorem neg1 {rest : DS} : EvN p rest 0 (d1 dNeg (dC (.int 1))) (fun e => e = .int (-1)) := en_k fun _ _ q => q
theorem cp20 : CPow 10 20 := ⟨by decide, by decide, by decide⟩
theorem pow20 {rest : DS} : EvN p rest 0 (d2 dPow (dC (.int 10)) (dC (.int 20))) (fun e => e = .int (10 ^ 20)) := en_k fun _ _ q => ⟨cp20, q⟩
theorem vals_put {rest : DS} : EvN p rest 1 (d2 dIx (dLst (aCons (dC (.int 0)) (aCons (dC (.int 1)) (aCons (dC (.int 1)) (aCons (d1 dNeg (dC (.int 3))) (aCons (d2 dPow (dC (.int 10)) (dC (.int 20))) aNil)))))) (dCallW 0 g__law_dip (aCons (dC (.int 5)) aNil))) (IntIn (-3) (10 ^ 20 + 1)) :=
  en_ix (m := 0) (en_lst (en_cons en_c (en_cons en_c (en_cons en_c (en_cons neg3 (en_cons pow20 en_nil)))))) en_dipc (by decide) (by
    intro R h d r
    simp only [List.mem_cons, List.not_mem_nil, or_false] at h
    rcases h with rfl | rfl | rfl | rfl | rfl <;> exact ⟨_, r, by decide, by decide⟩)
theorem vals_told {rest : DS} : EvN p rest 2 (d2 dIx (dLst (aCons (dCallW 0 g__law_dip (aCons (dC (.int 4)) aNil)) (aCons (dC (.int 9)) aNil))) (dB bInt (aCons (d2 dEq (dCallW 0 g__law_dip (aCons (dC (.int 9)) aNil)) (dC (.int 0))) aNil))) (IntIn 0 10) :=
  en_ix (m := 1) (m' := 1) (en_lst (en_cons en_dipc (en_cons en_c en_nil))) (en_eq0 en_dipc) (by decide) (by
    intro R h d r
    simp only [List.mem_cons, List.not_mem_nil, or_false] at h
    rcases h with rfl | rfl
    · obtain ⟨i, e, h1, h2⟩ := r; exact ⟨i, e, h1, by omega⟩
    · exact ⟨_, r, by decide, by decide⟩)
theorem cellB.of {i hi : Int} (h1 : 0 ≤ i) (h2 : i < hi) (h : hi ≤ 10 := by decide) : cellB i := ⟨h1, by omega⟩
theorem tl_4 (hs : s = "put" ∨ s = "copy" ∨ s = "file" ∨ s = "told") (hc : cellB c) (ha : cellB a) : EvN p (rst at_ many ws s c a b to) 4 (dTup (aCons (dVar 5) (aCons (dVar 6) (aCons (dNGet (dDisp (aCons (dC (.str "put")) (aCons (d2 dIx (dLst (aCons (dC (.int 0)) (aCons (dC (.int 1)) (aCons (dC (.int 1)) (aCons (d1 dNeg (dC (.int 3))) (aCons (d2 dPow (dC (.int 10)) (dC (.int 20))) aNil)))))) (dCallW 0 g__law_dip (aCons (dC (.int 5)) aNil))) (aCons (dC (.str "copy")) (aCons (dVar 7) (aCons (dC (.str "file")) (aCons (dCallW 0 g__law_dip (aCons (dVar 3) aNil)) (aCons (dC (.str "told")) (aCons (d2 dIx (dLst (aCons (dCallW 0 g__law_dip (aCons (dC (.int 4)) aNil)) (aCons (dC (.int 9)) aNil))) (dB bInt (aCons (d2 dEq (dCallW 0 g__law_dip (aCons (dC (.int 9)) aNil)) (dC (.int 0))) aNil))) aNil))))))))) (dVar 5)) aNil)))) (RowR at_ many) := by
  refine (en_tup (en_cons v_s (en_cons v_c (en_cons (R := fun d => RowR at_ many (.tuple [.str s, .int c, d])) (en_nget (m := 4) (en_cons en_c (en_cons vals_put (en_cons en_c (en_cons v_a (en_cons en_c (en_cons (en_dip (m := 0) (lo := 2) (B := 2) (v_two.weak (in_eq (lo := 2) (hi := 3)))) (en_cons en_c (en_cons vals_told en_nil)))))))) v_s fun dl h => ?_) en_nil)))).weak fun d h => ?_
  · match dl, h with
    | _, .cons k1 (.cons r1 (.cons k2 (.cons r2 (.cons k3 (.cons r3 (.cons k4 (.cons r4 .nil))))))) =>
      subst k1 k2 k3 k4
      refine ⟨_, rfl, Nat.le_of_ble_eq_true rfl, ?_⟩
      obtain ⟨i1, rfl, g1, g2⟩ := r1
      subst r2
      obtain ⟨i3, rfl, g3, g4⟩ := r3
      obtain ⟨i4, rfl, g5, g6⟩ := r4
      rcases hs with rfl | rfl | rfl | rfl
      · exact ⟨_, rfl, .put c i1, rfl, hc, g1, by omega⟩
      · exact ⟨_, rfl, .copy c a, rfl, hc, ha⟩
      · exact ⟨_, rfl, .file c i3, rfl, hc, g3, by omega⟩
      · exact ⟨_, rfl, .told c i4, rfl, hc, g5, by omega⟩
  · obtain ⟨dl, rfl, h⟩ := h
    match dl, h with
    | _, .cons k1 (.cons k2 (.cons r .nil)) =>
      subst k1 k2
      exact r
theorem tl_3 (hs : s = "go" ∨ s = "if" ∨ s = "bare") (ha : cellB a) (ht : at_ + 1 ≤ to ∧ to ≤ many) : EvN p (rst at_ many ws s c a b to) 1 (dNGet (dDisp (aCons (dC (.str "go")) (aCons (dTup (aCons (dVar 5) (aCons (dVar 9) aNil))) (aCons (dC (.str "if")) (aCons (dTup (aCons (dVar 5) (aCons (dVar 7) (aCons (dVar 9) aNil)))) (aCons (dC (.str "bare")) (aCons (dTup (aCons (dVar 5) (aCons (dCallW 0 g__law_dip (aCons (dC (.int 4)) aNil)) (aCons (dVar 9) aNil)))) aNil))))))) (dVar 5)) (RowR at_ many) := by
  refine en_nget (m := 1) (en_cons en_c (en_cons (en_tup (en_cons v_s (en_cons v_to en_nil))) (en_cons en_c (en_cons (en_tup (en_cons v_s (en_cons v_a (en_cons v_to en_nil)))) (en_cons en_c (en_cons (en_tup (en_cons v_s (en_cons en_dipc (en_cons v_to en_nil)))) en_nil)))))) v_s fun dl h => ?_
  match dl, h with
  | _, .cons k1 (.cons ⟨_, e1, .cons l1 (.cons l2 .nil)⟩ (.cons k2 (.cons ⟨_, e2, .cons l3 (.cons l4 (.cons l5 .nil))⟩ (.cons k3 (.cons ⟨_, e3, .cons l6 (.cons ⟨i, l7, g1, g2⟩ (.cons l8 .nil))⟩ .nil))))) =>
    subst k1 k2 k3 e1 e2 e3 l1 l2 l3 l4 l5 l6 l7 l8
    refine ⟨_, rfl, Nat.le_of_ble_eq_true rfl, ?_⟩
    rcases hs with rfl | rfl | rfl
    · exact ⟨_, rfl, .go to, rfl, ht⟩
    · exact ⟨_, rfl, .jif a to, rfl, ha, ht⟩
    · exact ⟨_, rfl, .bare i to, rfl, cellB.of g1 g2, ht⟩
theorem lb_of {d : D} (h : ∃ R ∈ [(fun e => e = PyData.str "p"), (fun e => e = PyData.str "qq"), (fun e => e = PyData.str "zoo"), (fun e => e = PyData.str "alpha"), (fun e => e = PyData.str "b")], R d) : ∃ z : Lb, d = .str z.s := by
  obtain ⟨R, h, r⟩ := h
  simp only [List.mem_cons, List.not_mem_nil, or_false] at h
  rcases h with rfl | rfl | rfl | rfl | rfl
  · exact ⟨.p, r⟩
  · exact ⟨.qq, r⟩
  · exact ⟨.zoo, r⟩
  · exact ⟨.alpha, r⟩
  · exact ⟨.b, r⟩
theorem tl_n (hs : s = "note" ∨ s = "tell" ∨ s = "hangs") (ha : cellB a) : EvN p (rst at_ many ws s c a b to) 3 (dNGet (dDisp (aCons (dC (.str "note")) (aCons (dTup (aCons (dVar 5) (aCons (d2 dIx (dLst (aCons (dC (.str "p")) (aCons (dC (.str "qq")) (aCons (dC (.str "zoo")) (aCons (dC (.str "alpha")) (aCons (dC (.str "b")) aNil)))))) (dCallW 0 g__law_dip (aCons (dC (.int 5)) aNil))) aNil))) (aCons (dC (.str "tell")) (aCons (dTup (aCons (dVar 5) (aCons (dVar 7) (aCons (d2 dIx (dLst (aCons (dC (.str "int")) (aCons (dC (.str "truth")) aNil))) (dCallW 0 g__law_dip (aCons (dC (.int 2)) aNil))) aNil)))) (aCons (dC (.str "hangs")) (aCons (dTup (aCons (dVar 5) (aCons (dCallW 0 g__law_dip (aCons (dC (.int 4)) aNil)) aNil))) aNil))))))) (dVar 5)) (RowR at_ many) := by
  refine en_nget (m := 3) (en_cons en_c (en_cons (en_tup (en_cons v_s (en_cons (en_ix (R' := fun d => ∃ z : Lb, d = .str z.s) (en_lst (en_cons en_c (en_cons en_c (en_cons en_c (en_cons en_c (en_cons en_c en_nil)))))) en_dipc (by decide) (fun R h d r => lb_of ⟨R, h, r⟩)) en_nil)))
    (en_cons en_c (en_cons (en_tup (en_cons v_s (en_cons v_a (en_cons (en_ix (R' := fun d => ∃ z : Bool, d = .str (if z then "int" else "truth")) (en_lst (en_cons en_c (en_cons en_c en_nil))) en_dipc (by decide) (fun R h d r => by
      simp only [List.mem_cons, List.not_mem_nil, or_false] at h
      rcases h with rfl | rfl
      · exact ⟨true, r⟩
      · exact ⟨false, r⟩)) en_nil))))
    (en_cons en_c (en_cons (en_tup (en_cons v_s (en_cons en_dipc en_nil))) en_nil)))))) v_s fun dl h => ?_
  match dl, h with
  | _, .cons k1 (.cons ⟨_, e1, .cons l1 (.cons ⟨z1, l2⟩ .nil)⟩ (.cons k2 (.cons ⟨_, e2, .cons l3 (.cons l4 (.cons ⟨z2, l5⟩ .nil))⟩ (.cons k3 (.cons ⟨_, e3, .cons l6 (.cons ⟨i, l7, g1, g2⟩ .nil)⟩ .nil))))) =>
    subst k1 k2 k3 e1 e2 e3 l1 l2 l3 l4 l5 l6 l7
    refine ⟨_, rfl, Nat.le_of_ble_eq_true rfl, ?_⟩
    rcases hs with rfl | rfl | rfl
    · exact ⟨_, rfl, .note z1, rfl, trivial⟩
    · exact ⟨_, rfl, .tell a z2, rfl, ha⟩
    · exact ⟨_, rfl, .hangs i, rfl, cellB.of g1 g2⟩
theorem tl_tm (hs : s = "times") (hc : cellB c) (ha : cellB a) : EvN p (rst at_ many ws s c a b to) 1 (dTup (aCons (dVar 5) (aCons (dVar 6) (aCons (d2 dIx (dLst (aCons (dC (.int 2)) (aCons (d1 dNeg (dC (.int 1))) (aCons (dC (.int 0)) (aCons (dC (.int 1000)) aNil))))) (dCallW 0 g__law_dip (aCons (dC (.int 4)) aNil))) (aCons (dVar 7) aNil))))) (RowR at_ many) := by
  refine (en_tup (en_cons v_s (en_cons v_c (en_cons (en_ix (R' := IntIn (-1) 1001) (en_lst (en_cons en_c (en_cons neg1 (en_cons en_c (en_cons en_c en_nil))))) en_dipc (by decide) (fun R h d r => by
      simp only [List.mem_cons, List.not_mem_nil, or_false] at h
      rcases h with rfl | rfl | rfl | rfl <;> exact ⟨_, r, by decide, by decide⟩)) (en_cons v_a en_nil))))).weak fun d h => ?_
  obtain ⟨dl, rfl, h⟩ := h
  match dl, h with
  | _, .cons k1 (.cons k2 (.cons ⟨i, k3, g1, g2⟩ (.cons k4 .nil))) =>
    subst k1 k2 k3 k4 hs
    exact ⟨.times c i a, rfl, hc, ⟨g1, by omega⟩, ha⟩
theorem tl_sh (hs : s = "share") (hc : cellB c) (ha : cellB a) : EvN p (rst at_ many ws s c a b to) 3 (dTup (aCons (dVar 5) (aCons (dVar 6) (aCons (dVar 7) (aCons (dCallW 0 g__law_dip (aCons (dC (.int 5)) aNil)) (aCons (d2 dAdd (dC (.int 1)) (dCallW 0 g__law_dip (aCons (dC (.int 5)) aNil))) (aCons (d2 dIx (dLst (aCons (dC (.str "down")) (aCons (dC (.str "up")) (aCons (dC (.str "near")) aNil)))) (dCallW 0 g__law_dip (aCons (dC (.int 3)) aNil))) aNil))))))) (RowR at_ many) := by
  refine (en_tup (en_cons v_s (en_cons v_c (en_cons v_a (en_cons en_dipc (en_cons (en_add (en_c.weak (in_eq (lo := 1) (hi := 2))) en_dipc) (en_cons (en_ix (R' := fun d => ∃ z : Nd, d = .str z.s) (en_lst (en_cons en_c (en_cons en_c (en_cons en_c en_nil)))) en_dipc (by decide) (fun R h d r => by
      simp only [List.mem_cons, List.not_mem_nil, or_false] at h
      rcases h with rfl | rfl | rfl
      · exact ⟨.down, r⟩
      · exact ⟨.up, r⟩
      · exact ⟨.near, r⟩)) en_nil))))))).weak fun d h => ?_
  obtain ⟨dl, rfl, h⟩ := h
  match dl, h with
  | _, .cons k1 (.cons k2 (.cons k3 (.cons ⟨i, k4, g1, g2⟩ (.cons ⟨j, k5, g3, g4⟩ (.cons ⟨z, k6⟩ .nil))))) =>
    subst k1 k2 k3 k4 k5 k6 hs
    exact ⟨.share c a i j z, rfl, hc, ha, cellB.of g1 g2, by omega, by omega⟩
theorem tl_tr {k : Tri} (hs : s = k.s) (hc : cellB c) (ha : cellB a) (hb : cellB b) : EvN p (rst at_ many ws s c a b to) 0 (dTup (aCons (dVar 5) (aCons (dVar 6) (aCons (dVar 7) (aCons (dVar 8) aNil))))) (RowR at_ many) := by
  refine (en_tup (en_cons v_s (en_cons v_c (en_cons v_a (en_cons v_b en_nil))))).weak fun d h => ?_
  obtain ⟨dl, rfl, h⟩ := h
  match dl, h with
  | _, .cons k1 (.cons k2 (.cons k3 (.cons k4 .nil))) =>
    subst k1 k2 k3 k4 hs
    exact ⟨.tri k c a b, rfl, hc, ha, hb⟩
end
def tailM : DM :=     (mSeq (mIf (bT (d2 (dIn false) (dVar 5) (dLst (aCons (dC (.str "put")) (aCons (dC (.str "copy")) (aCons (dC (.str "file")) (aCons (dC (.str "told")) aNil))))))) (mRet (dTup (aCons (dVar 5) (aCons (dVar 6) (aCons (dNGet (dDisp (aCons (dC (.str "put")) (aCons (d2 dIx (dLst (aCons (dC (.int 0)) (aCons (dC (.int 1)) (aCons (dC (.int 1)) (aCons (d1 dNeg (dC (.int 3))) (aCons (d2 dPow (dC (.int 10)) (dC (.int 20))) aNil)))))) (dCallW 0 g__law_dip (aCons (dC (.int 5)) aNil))) (aCons (dC (.str "copy")) (aCons (dVar 7) (aCons (dC (.str "file")) (aCons (dCallW 0 g__law_dip (aCons (dVar 3) aNil)) (aCons (dC (.str "told")) (aCons (d2 dIx (dLst (aCons (dCallW 0 g__law_dip (aCons (dC (.int 4)) aNil)) (aCons (dC (.int 9)) aNil))) (dB bInt (aCons (d2 dEq (dCallW 0 g__law_dip (aCons (dC (.int 9)) aNil)) (dC (.int 0))) aNil))) aNil))))))))) (dVar 5)) aNil))))) mNil)
    (mSeq (mIf (bT (d2 (dIn false) (dVar 5) (dLst (aCons (dC (.str "go")) (aCons (dC (.str "if")) (aCons (dC (.str "bare")) aNil)))))) (mRet (dNGet (dDisp (aCons (dC (.str "go")) (aCons (dTup (aCons (dVar 5) (aCons (dVar 9) aNil))) (aCons (dC (.str "if")) (aCons (dTup (aCons (dVar 5) (aCons (dVar 7) (aCons (dVar 9) aNil)))) (aCons (dC (.str "bare")) (aCons (dTup (aCons (dVar 5) (aCons (dCallW 0 g__law_dip (aCons (dC (.int 4)) aNil)) (aCons (dVar 9) aNil)))) aNil))))))) (dVar 5))) mNil)
    (mSeq (mIf (bT (d2 (dIn false) (dVar 5) (dLst (aCons (dC (.str "note")) (aCons (dC (.str "tell")) (aCons (dC (.str "hangs")) aNil)))))) (mRet (dNGet (dDisp (aCons (dC (.str "note")) (aCons (dTup (aCons (dVar 5) (aCons (d2 dIx (dLst (aCons (dC (.str "p")) (aCons (dC (.str "qq")) (aCons (dC (.str "zoo")) (aCons (dC (.str "alpha")) (aCons (dC (.str "b")) aNil)))))) (dCallW 0 g__law_dip (aCons (dC (.int 5)) aNil))) aNil))) (aCons (dC (.str "tell")) (aCons (dTup (aCons (dVar 5) (aCons (dVar 7) (aCons (d2 dIx (dLst (aCons (dC (.str "int")) (aCons (dC (.str "truth")) aNil))) (dCallW 0 g__law_dip (aCons (dC (.int 2)) aNil))) aNil)))) (aCons (dC (.str "hangs")) (aCons (dTup (aCons (dVar 5) (aCons (dCallW 0 g__law_dip (aCons (dC (.int 4)) aNil)) aNil))) aNil))))))) (dVar 5))) mNil)
    (mSeq (mIf (bT (d2 dEq (dVar 5) (dC (.str "times")))) (mRet (dTup (aCons (dVar 5) (aCons (dVar 6) (aCons (d2 dIx (dLst (aCons (dC (.int 2)) (aCons (d1 dNeg (dC (.int 1))) (aCons (dC (.int 0)) (aCons (dC (.int 1000)) aNil))))) (dCallW 0 g__law_dip (aCons (dC (.int 4)) aNil))) (aCons (dVar 7) aNil)))))) mNil)
    (mSeq (mIf (bT (d2 dEq (dVar 5) (dC (.str "share")))) (mRet (dTup (aCons (dVar 5) (aCons (dVar 6) (aCons (dVar 7) (aCons (dCallW 0 g__law_dip (aCons (dC (.int 5)) aNil)) (aCons (d2 dAdd (dC (.int 1)) (dCallW 0 g__law_dip (aCons (dC (.int 5)) aNil))) (aCons (d2 dIx (dLst (aCons (dC (.str "down")) (aCons (dC (.str "up")) (aCons (dC (.str "near")) aNil)))) (dCallW 0 g__law_dip (aCons (dC (.int 3)) aNil))) aNil)))))))) mNil)
    (mRet (dTup (aCons (dVar 5) (aCons (dVar 6) (aCons (dVar 7) (aCons (dVar 8) aNil)))))))))))
theorem row_tail {p : Addr} {n : Nat} {ns : List Int} {at_ many c a b to : Int} {ws : List D} {s : Str} {w0 : Wd} {P : SD → Wd → Prop} (hs : s ∈ wordsS) (hc : cellB c) (ha : cellB a) (hb : cellB b) (ht : at_ + 1 ≤ to ∧ to ≤ many)
    (w : wellOk n ns) (l : n + 4 < 2 ^ 40) (hv : (intsW p ns).val = w0.val) (k : ∀ d ns', RowR at_ many d → wellOk (n + 4) ns' → P (.val d) (intsW p ns')) :
    tailM (enW w0 P) (.wd (intsW p ns) :: rst at_ many ws s c a b to) := by
  have fin : ∀ {m : Nat} {t : DT} {E : En}, m ≤ 4 → E.rt = (enW w0 P).rt → EvN p (rst at_ many ws s c a b to) m t (RowR at_ many) → mRet t E (.wd (intsW p ns) :: rst at_ many ws s c a b to) :=
    fun hm hE x => en_ret (x.more hm) w l hv hE RowR.notL k
  have vs : EvT (dVar 5) (.wd (intsW p ns) :: rst at_ many ws s c a b to) (.str s) := ev_v (i := 5) rfl
  unfold tailM
  simp only [wordsS, List.mem_cons, List.not_mem_nil, or_false] at hs
  rcases hs with rfl | rfl | rfl | rfl | rfl | rfl | rfl | rfl | rfl | rfl | rfl | rfl | rfl | rfl | rfl | rfl | rfl | rfl | rfl | rfl | rfl
  iterate 5 exact seq_yes (eb_in4 vs) (fin (by decide) rfl (tl_4 (by simp) hc ha))
  · exact seq_no (eb_in4 vs) (seq_no (eb_in3 vs) (seq_no (eb_in3 vs) (seq_no (eb_eqS vs) (seq_no (eb_eqS vs) (fin (by decide) rfl (tl_tr (k := .add) rfl hc ha hb))))))
  · exact seq_no (eb_in4 vs) (seq_no (eb_in3 vs) (seq_no (eb_in3 vs) (seq_no (eb_eqS vs) (seq_no (eb_eqS vs) (fin (by decide) rfl (tl_tr (k := .take) rfl hc ha hb))))))
  · exact seq_no (eb_in4 vs) (seq_no (eb_in3 vs) (seq_no (eb_in3 vs) (seq_no (eb_eqS vs) (seq_no (eb_eqS vs) (fin (by decide) rfl (tl_tr (k := .least) rfl hc ha hb))))))
  · exact seq_no (eb_in4 vs) (seq_no (eb_in3 vs) (seq_no (eb_in3 vs) (seq_no (eb_eqS vs) (seq_no (eb_eqS vs) (fin (by decide) rfl (tl_tr (k := .most) rfl hc ha hb))))))
  · exact seq_no (eb_in4 vs) (seq_no (eb_in3 vs) (seq_no (eb_in3 vs) (seq_yes (eb_eqS vs) (fin (by decide) rfl (tl_tm rfl hc ha)))))
  · exact seq_no (eb_in4 vs) (seq_no (eb_in3 vs) (seq_no (eb_in3 vs) (seq_no (eb_eqS vs) (seq_yes (eb_eqS vs) (fin (by decide) rfl (tl_sh rfl hc ha))))))
  · exact seq_no (eb_in4 vs) (seq_no (eb_in3 vs) (seq_no (eb_in3 vs) (seq_no (eb_eqS vs) (seq_no (eb_eqS vs) (fin (by decide) rfl (tl_tr (k := .less) rfl hc ha hb))))))
  · exact seq_no (eb_in4 vs) (seq_no (eb_in3 vs) (seq_no (eb_in3 vs) (seq_no (eb_eqS vs) (seq_no (eb_eqS vs) (fin (by decide) rfl (tl_tr (k := .same) rfl hc ha hb))))))
  iterate 4 exact seq_no (eb_in4 vs) (seq_yes (eb_in3 vs) (fin (by decide) rfl (tl_3 (by simp) ha ht)))
  iterate 4 exact seq_no (eb_in4 vs) (seq_no (eb_in3 vs) (seq_yes (eb_in3 vs) (fin (by decide) rfl (tl_n (by simp) ha))))
theorem rd__law_row : ∀ w dl Q, dl.length = 3 → g__law_row w dl Q → tb__law_row (enW w Q) (slotsW 10 w dl) := by
  rintro w dl Q - ⟨p, ns, n, at_, many, rfl, hw, hn, rfl, h1, h2, k⟩
  show tb__law_row (enW (intsW p ns) Q) [.wd (intsW p ns), .val (.int at_), .val (.int many), .val (.int 2), .no, .no, .no, .no, .no, .no]
  unfold tb__law_row
  refine seq1 [.wd (intsW p ns), .val (.int at_), .val (.int many), .val (.int 2), .own (wordsS.map .str), .no, .no, .no, .no, .no] (fun k hk => ?_) ?_
  · unfold mSet
    refine lst_new (dl := wordsS.map .str) (ev_cons ev_c (ev_cons ev_c (ev_cons ev_c (ev_cons ev_c (ev_cons ev_c (ev_cons ev_c (ev_cons ev_c (ev_cons ev_c (ev_cons ev_c (ev_cons ev_c (ev_cons ev_c (ev_cons ev_c (ev_cons ev_c (ev_cons ev_c (ev_cons ev_c (ev_cons ev_c (ev_cons ev_c (ev_cons ev_c (ev_cons ev_c (ev_cons ev_c (ev_cons ev_c ev_nil))))))))))))))))))))) ?_
    exact hk
  refine en_set (p := p) (n := n) (m := 1) (i := 4) (rest := [.val (.int at_), .val (.int many), .val (.int 2), .own (wordsS.map .str), .no, .no, .no, .no, .no]) (R := fun d => ∃ s, d = .str s ∧ s ∈ wordsS)
    (en_ixo (i := 3) (xs := wordsS.map .str) rfl en_dipc (by decide) fun d h => ?_) hw (by omega) rfl (by rintro d ⟨s, rfl, _⟩ xs; exact nofun) ?_
  · obtain ⟨s, h1, h2⟩ := List.mem_map.mp h
    exact ⟨s, h2.symm, h1⟩
  rintro d ns1 ⟨s, rfl, hs⟩ w1
  refine en_unp (p := p) (n := n + 1) (m := 4) (rest := [.val (.int at_), .val (.int many), .val (.int 2), .own (wordsS.map .str), .val (.str s), .no, .no, .no, .no])
    (en_tup (en_cons en_dipc (en_cons en_dipc (en_cons en_dipc (en_cons (en_add (en_add ((en_v (i := 0) rfl).weak (in_eq (lo := (at_ : Int)) (hi := at_ + 1) ⟨Int.le_refl _, by omega⟩)) (en_c.weak (in_eq (lo := 1) (hi := 2)))) (en_dip (m := 0) (lo := 1) (B := (many : Int) - at_) ?_ (by decide) (by omega))) en_nil))))) w1 (by omega) ?_
  · exact (en_min (m := 0) (m' := 0) (en_sub (m := 0) (m' := 0) (en_v (i := 1) rfl) (en_v (i := 0) rfl)) en_c).weak (in_eq ⟨by omega, by omega⟩)
  rintro d ns2 ⟨dl, rfl, h⟩ w2
  match dl, h with
  | _, .cons ⟨c, k1, c1, c2⟩ (.cons ⟨a, k2, a1, a2⟩ (.cons ⟨b, k3, b1, b2⟩ (.cons ⟨to, k4, t1, t2⟩ .nil))) =>
    subst k1 k2 k3 k4
    simp only [gTp, gsCons, gsNil, gNm, put, List.length_cons, List.length_nil, List.getElem?_cons_succ, List.getElem?_cons_zero, List.set_cons_succ, List.set_cons_zero]
    refine ⟨trivial, ?_⟩
    exact row_tail (n := n + 5) hs (cellB.of c1 c2) (cellB.of a1 a2) (cellB.of b1 b2) (by omega) w2 (by omega) rfl fun d ns' ⟨r, e, ho⟩ w3 => by
      subst e
      exact k r ns' ho (w3.mono (by omega))
end K18
namespace K18
open PySem PySem.Spec PyProof.Rows L2 BK
open DL hiding g_is_between tb_is_between rd_is_between
structure ShB (n k : Nat) (d : D) : Prop where
  sh : PyData.showable d = true
  nd : PyData.hasDict d = false
  dp : PyData.depth d ≤ k
  ln : (PyData.shown d).length ≤ n
theorem tupleText_le (ts : List Str) : (tupleText ts).length ≤ piled ts + 3 := by
  cases ts with
  | nil => decide +kernel
  | cons t r =>
    have h := join_length_add (t :: r) (by simp)
    unfold tupleText
    rw [strLen_append, strLen_append]
    have e1 : ("(" : Str).length = 1 := by decide +kernel
    have e2 : ∀ b : Bool, (if b = true then ",)" else ")" : String).length ≤ 2 := by decide
    have e3 : (((if ((t :: r).length == 1) = true then ",)" else ")" : String) : Str)).length ≤ 2 := by
      generalize ((t :: r).length == 1) = b
      cases b <;> decide +kernel
    omega
theorem all_sh {n k : Nat} : ∀ {ds : List D}, (∀ d ∈ ds, ShB n k d) → PyData.showableAll ds = true ∧ PyData.hasDictAll ds = false ∧ PyData.depthAll ds ≤ k ∧ piled (PyData.shownAll ds) ≤ ds.length * (n + 2)
  | [], _ => ⟨by simp only [PyData.showableAll], by simp only [PyData.hasDictAll], by simp only [PyData.depthAll]; omega, by simp only [PyData.shownAll, piled_nil]; omega⟩
  | d :: ds, h => by
    obtain ⟨h1, h2, h3, h4⟩ := all_sh (ds := ds) fun x hx => h x (List.mem_cons_of_mem _ hx)
    have hd := h d List.mem_cons_self
    refine ⟨by simp only [PyData.showableAll, hd.sh, h1, Bool.and_self], by simp only [PyData.hasDictAll, hd.nd, h2, Bool.or_self], ?_, ?_⟩
    · simp only [PyData.depthAll]
      have := hd.dp
      omega
    · simp only [PyData.shownAll, piled_cons, List.length_cons]
      have := hd.ln
      rw [Nat.add_mul, Nat.one_mul]
      omega
theorem tup_sh {n k m : Nat} {ds : List D} (h : ∀ d ∈ ds, ShB n k d) (l : ds.length ≤ m) : ShB (m * (n + 2) + 3) (k + 1) (.tuple ds) := by
  obtain ⟨h1, h2, h3, h4⟩ := all_sh h
  refine ⟨by simp only [PyData.showable, h1], by simp only [PyData.hasDict, h2], by simp only [PyData.depth]; omega, ?_⟩
  simp only [PyData.shown]
  have := tupleText_le (PyData.shownAll ds)
  have := Nat.mul_le_mul_right (n + 2) l
  omega
theorem int_sh {i : Int} (h1 : -(10 ^ 20) ≤ i) (h2 : i ≤ 10 ^ 20) : ShB 22 0 (.int i) := by
  have hn : i.natAbs < 10 ^ 21 := by omega
  refine ⟨?_, by simp only [PyData.hasDict], by simp only [PyData.depth]; omega, ?_⟩
  · simp only [PyData.showable, decide_eq_true_eq]
    by_cases h0 : i.natAbs = 0
    · rw [h0]; decide
    · exact (Nat.log2_lt h0).mpr (Nat.lt_of_lt_of_le hn (by
        have : (10 : Nat) ^ 21 ≤ 2 ^ 70 := by decide
        exact Nat.le_trans this (Nat.pow_le_pow_right (by decide) (by decide))))
  · simp only [PyData.shown]
    have := int_text_length_le10 (a := i) (k := 21) (by decide) hn
    exact (PySem.ofString_length _).symm ▸ this
theorem str_sh {z : Str} (h : (reprText z).length ≤ 22 := by decide +kernel) : ShB 22 0 (.str z) := ⟨by simp only [PyData.showable], by simp only [PyData.hasDict], by simp only [PyData.depth]; omega, by simp only [PyData.shown]; exact h⟩
theorem row_sh {a m : Int} (ha : 0 ≤ a) (hm : m ≤ 100) (r : Rw) (h : r.Ok a m) : ShB 147 1 r.d := by
  have q : ∀ (ds : List D), ds.length ≤ 6 → (∀ d ∈ ds, ShB 22 0 d) → ShB 147 1 (.tuple ds) := fun ds l h => tup_sh h l
  have c : ∀ {i : Int}, cellB i → ShB 22 0 (.int i) := fun {i} ⟨h1, h2⟩ => int_sh (by omega) (by omega)
  have g : ∀ {t : Int}, a + 1 ≤ t ∧ t ≤ m → ShB 22 0 (.int t) := fun {i} ⟨h1, h2⟩ => int_sh (by omega) (by omega)
  have n0 : ∀ x ∈ ([] : List D), ShB 22 0 x := fun _ h => nomatch h
  have n1 : ∀ {d : D} {ds : List D}, ShB 22 0 d → (∀ x ∈ ds, ShB 22 0 x) → ∀ x ∈ d :: ds, ShB 22 0 x := fun h1 h2 x hx => by
    rcases List.mem_cons.mp hx with rfl | hx
    · exact h1
    · exact h2 x hx
  cases r with
  | put i n => exact q _ (Nat.le_of_ble_eq_true rfl) (n1 str_sh (n1 (c h.1) (n1 (int_sh (by have := h.2.1; omega) (by have := h.2.2; omega)) n0)))
  | copy i x => exact q _ (Nat.le_of_ble_eq_true rfl) (n1 str_sh (n1 (c h.1) (n1 (c h.2) n0)))
  | file i x => exact q _ (Nat.le_of_ble_eq_true rfl) (n1 str_sh (n1 (c h.1) (n1 (c h.2) n0)))
  | told i x => exact q _ (Nat.le_of_ble_eq_true rfl) (n1 str_sh (n1 (c h.1) (n1 (c h.2) n0)))
  | tri k i x y => exact q _ (Nat.le_of_ble_eq_true rfl) (n1 (by cases k <;> exact str_sh) (n1 (c h.1) (n1 (c h.2.1) (n1 (c h.2.2) n0))))
  | times i n x => exact q _ (Nat.le_of_ble_eq_true rfl) (n1 str_sh (n1 (c h.1) (n1 (int_sh (by have := h.2.1.1; omega) (by have := h.2.1.2; omega)) (n1 (c h.2.2) n0))))
  | share i x y z w => exact q _ (Nat.le_of_ble_eq_true rfl) (n1 str_sh (n1 (c h.1) (n1 (c h.2.1) (n1 (c h.2.2.1) (n1 (int_sh (by have := h.2.2.2.1; omega) (by have := h.2.2.2.2; omega)) (n1 (by cases w <;> exact str_sh) n0))))))
  | go t => exact q _ (Nat.le_of_ble_eq_true rfl) (n1 str_sh (n1 (g h) n0))
  | jif x t => exact q _ (Nat.le_of_ble_eq_true rfl) (n1 str_sh (n1 (c h.1) (n1 (g h.2) n0)))
  | bare x t => exact q _ (Nat.le_of_ble_eq_true rfl) (n1 str_sh (n1 (c h.1) (n1 (g h.2) n0)))
  | note z => exact q _ (Nat.le_of_ble_eq_true rfl) (n1 str_sh (n1 (by cases z <;> exact str_sh) n0))
  | tell x z => exact q _ (Nat.le_of_ble_eq_true rfl) (n1 str_sh (n1 (c h) (n1 (by cases z <;> exact str_sh) n0)))
  | hangs x => exact q _ (Nat.le_of_ble_eq_true rfl) (n1 str_sh (n1 (c h) n0))
theorem rows_sh {rs : List Rw} (ho : RowsOk rs) : ShB 14903 2 (rowsD rs) := by
  have ll := ho.len
  refine tup_sh (m := 100) (n := 147) (k := 1) (fun d hd => ?_) (by simpa using ll)
  obtain ⟨r, hr, rfl⟩ := List.mem_map.mp hd
  obtain ⟨i, hi⟩ := List.getElem?_of_mem hr
  exact row_sh (a := i) (m := rs.length) (by omega) (by omega) r (ho.ok i r hi)
theorem rows_repr {rs : List Rw} (ho : RowsOk rs) : PyData.showable (rowsD rs) = true ∧ PyData.hasDict (rowsD rs) = false ∧ PyData.depth (rowsD rs) ≤ 60 ∧ (PyData.shown (rowsD rs)).length ≤ sizeLine := by
  obtain ⟨h1, h2, h3, h4⟩ := rows_sh ho
  exact ⟨h1, h2, by omega, Nat.le_trans h4 (by decide)⟩
end K18
namespace K18
open PySem PySem.Spec PyProof.Rows L2 BK
open DL hiding g_is_between tb_is_between rd_is_between
def RowsAt (many : Nat) (rs : List Rw) : Prop := ∀ (i : Nat) (r : Rw), rs[i]? = some r → r.Ok i many
theorem RowsAt.snoc {many : Nat} {rs : List Rw} {r : Rw} (h : RowsAt many rs) (hr : r.Ok rs.length many) : RowsAt many (rs ++ [r]) := by
  intro i x hx
  by_cases hi : i < rs.length
  · rw [List.getElem?_append_left hi] at hx; exact h i x hx
  · rw [List.getElem?_append_right (by omega)] at hx
    have e : i = rs.length := by
      rcases Nat.eq_or_lt_of_le (Nat.le_of_not_lt hi) with e | e
      · exact e.symm
      · rw [List.getElem?_eq_none (by simp; omega)] at hx; cases hx
    subst e
    simp at hx
    subst hx
    exact hr
theorem RowsAt.nil {many : Nat} : RowsAt many [] := fun i x h => by simp at h
def g__law_rows_drawn : DFW := fun w dl P => ∃ (p : Addr) (ns : List Int) (n many : Nat), w = intsW p ns ∧ wellOk n ns ∧ n < 2 ^ 38 ∧ dl = [.int many, .int 2] ∧ many ≤ 100 ∧
  ∀ (rs : List Rw) (ns' : List Int), RowsOk rs → rs.length = many → wellOk (n + 16 * many) ns' → P (.val (rowsD rs)) (intsW p ns')
def ce__law_rows_drawn_1 : DT := (dCallW 0 g__law_row (aCons (dVar 3) (aCons (dVar 1) (aCons (dVar 2) aNil))))
def tb__law_rows_drawn : DM := (mRet (dB bTuple (aCons (dComp (iR1 (dVar 1)) (gNm 3) cYes ce__law_rows_drawn_1 [3]) aNil)))
theorem drawn_loop {p : Addr} {n many : Nat} (hn : n < 2 ^ 38) (hm : many ≤ 100) {P : List D → DS → Prop} (fin : ∀ (rs : List Rw) (ns' : List Int), RowsAt many rs → rs.length = many → wellOk (n + 16 * many) ns' → P (rs.map Rw.d) [.wd (intsW p ns'), .val (.int many), .val (.int 2), .no]) :
    ∀ (k : Nat) (rs : List Rw) (ns : List Int), rs.length + k = many → RowsAt many rs → wellOk (n + 16 * rs.length) ns → compD (gNm 3) cYes ce__law_rows_drawn_1 [3] (natsD (List.range' rs.length k)) (rs.map Rw.d) [.wd (intsW p ns), .val (.int many), .val (.int 2), .no] P
  | 0, rs, ns, e, h, w => by
    have e : rs.length = many := by omega
    exact fin rs ns h e (e ▸ w)
  | k + 1, rs, ns, e, h, w => by
    have hl : rs.length < many := by omega
    rw [List.range'_succ, natsD, List.map_cons]
    unfold compD ce__law_rows_drawn_1
    simp only [gNm, put, cYes, dCallW, wdAt, aCons, aNil, dVar, takes, take1, List.getElem?_cons_succ, List.getElem?_cons_zero, List.set_cons_succ, List.set_cons_zero, if_true]
    refine ⟨p, ns, n + 16 * rs.length, rs.length, many, rfl, w, by omega, rfl, hl, hm, fun r ns' ho w' => ⟨rfl, ?_⟩⟩
    have e2 : (rs ++ [r]).map Rw.d = rs.map Rw.d ++ [r.d] := by simp
    have := drawn_loop hn hm fin k (rs ++ [r]) ns' (by simp; omega) (h.snoc ho) (w'.mono (by simp; omega))
    rw [e2, List.length_append] at this
    exact this
theorem rd__law_rows_drawn : ∀ w dl Q, dl.length = 2 → g__law_rows_drawn w dl Q → tb__law_rows_drawn (enW w Q) (slotsW 4 w dl) := by
  rintro w dl Q - ⟨p, ns, n, many, rfl, hw, hn, rfl, hm, k⟩
  show tb__law_rows_drawn (enW (intsW p ns) Q) [.wd (intsW p ns), .val (.int many), .val (.int 2), .no]
  have sz : (1000 : Nat) ≤ sizeLine := by decide
  unfold tb__law_rows_drawn
  simp only [mRet, dB, aCons, aNil, dComp, iR1, dVar, List.getElem?_cons_succ, List.getElem?_cons_zero, pk, peek]
  refine ⟨by omega, ?_, ?_⟩
  · simp [rngD]; omega
  rw [Int.toNat_natCast, rngD_nats, List.range_eq_range']
  refine drawn_loop hn hm (fun rs ns' ho hl w' => ?_) many [] ns (by simp) .nil (by simpa using hw)
  simp only [restD, peeks, pk, peek, bTuple]
  refine ⟨rfl, k rs ns' ⟨by rw [hl]; exact ho, by omega⟩ hl w'⟩
end K18
namespace K18
open PySem PySem.Spec PyProof.Rows L2 BK
open DL hiding g_is_between tb_is_between rd_is_between
section
variable {p : Addr} {rest : DS} {m m' n : Nat} {ns : List Int} {t u : DT} {a : DTA} {R R' : D → Prop} {Rs : List (D → Prop)} {E : En} {i j : Nat} {s0 s1 : SD}
theorem paired_all (h : ∀ R ∈ Rs, ∀ d, R d → R' d) {dl : List D} (x : Paired (fun R d => R d) Rs dl) : ∀ d ∈ dl, R' d := by
  induction x with
  | nil => exact fun _ h => nomatch h
  | cons f _ ih =>
    intro d hd
    rcases List.mem_cons.mp hd with rfl | hd
    · exact h _ List.mem_cons_self _ f
    · exact ih (fun R hR => h R (List.mem_cons_of_mem _ hR)) d hd
theorem en_setL (x : EvNA p rest m a Rs) (w : wellOk n ns) (l : n + m < 2 ^ 40) (hi : rest[i]? = some s0) (k : ∀ dl ns', Paired (fun R d => R d) Rs dl → wellOk (n + m) ns' → E.nx (.wd (intsW p ns') :: rest.set i (.own dl))) : mSet (i + 1) (dLst a) E (.wd (intsW p ns) :: rest) :=
  x n ns _ w l fun hs dl ns' r is w' => takes_is (is _) (by
    have e : (.wd (intsW p ns') :: rest : DS)[i + 1]? = some s0 := by simpa using hi
    simp only [sett, put, e]
    exact k dl ns' r w')
theorem en_app {xs : List D} (x : EvN p rest m t R) (w : wellOk n ns) (l : n + m < 2 ^ 40) (hi : rest[i]? = some (.own xs)) (hs : xs.length < sizeLine) (k : ∀ d ns', R d → wellOk (n + m) ns' → E.nx (.wd (intsW p ns') :: rest.set i (.own (xs ++ [d])))) : mApp (i + 1) t E (.wd (intsW p ns) :: rest) := by
  have e : ∀ w : Wd, (.wd w :: rest : DS)[i + 1]? = some (.own xs) := fun w => by simpa using hi
  simp only [mApp, ownAt, e]
  refine x n ns _ w l fun h d ns' r i w' => (i _).tk _ ?_
  simp only [e]
  exact ⟨hs, k d ns' r w'⟩
theorem en_par (x : EvN p rest m t R) (y : EvN p rest m' u R') (w : wellOk n ns) (l : n + (m + m') < 2 ^ 40) (hi : rest[i]? = some s0) (hj : (rest.set i (.val .none))[j]? = some s1) (hij : i < j) (hR : ∀ d, R d → ∀ xs, d ≠ .list xs) (hR' : ∀ d, R' d → ∀ xs, d ≠ .list xs)
    (k : ∀ d d' ns', R d → R' d' → wellOk (n + (m + m')) ns' → E.nx (.wd (intsW p ns') :: (rest.set i (.val d)).set j (.val d'))) : mPar (i + 1) (j + 1) t u E (.wd (intsW p ns) :: rest) :=
  x n ns _ w (by omega) fun h d ns1 r i1 w1 => y (n + m) ns1 _ w1 (by omega) fun h2 d2 ns2 r2 i2 w2 => sett_v (i1 _) (hR d r) (sett_v (i2 _) (hR' d2 r2) (by
    have e : (.wd (intsW p ns2) :: rest : DS)[i + 1]? = some s0 := by simpa using hi
    have hj' : rest[j]? = some s1 := by rw [List.getElem?_set_ne (by omega)] at hj; exact hj
    have e2 : ((.wd (intsW p ns2) :: rest : DS).set (i + 1) (.val d))[j + 1]? = some s1 := by
      rw [List.set_cons_succ, List.getElem?_cons_succ, List.getElem?_set_ne (by omega)]; exact hj'
    unfold put
    rw [e]
    simp only []
    rw [e2]
    exact k d d2 ns2 r r2 (by rw [← Nat.add_assoc]; exact w2)))
theorem en_lenT {xs : List D} (x : EvN p rest m t (fun d => d = .tuple xs)) : EvN p rest (m + 0) (dB bLen (aCons t aNil)) (fun d => d = .int (xs.length : Int)) :=
  en_b (en_cons x en_nil) fun dl Q h q => match dl, h with
    | _, .cons e1 .nil => by
      subst e1
      exact q _ rfl
theorem en_ixT {xs : List D} {k : Int} {d : D} (x : EvN p rest m t (fun d => d = .tuple xs)) (y : EvN p rest m' u (fun d => d = .int k)) (e : atI xs k = some d) : EvN p rest (m + m') (d2 dIx t u) (fun x => x = d) :=
  en_2 x y fun a b Q e1 e2 q => by
    subst e1 e2
    simp only [dIx, e]
    exact q _ rfl
end
def g__law_sparse : DFW := fun w dl P => ∃ (p : Addr) (ns : List Int) (n : Nat) (rs : List Rw), w = intsW p ns ∧ wellOk n ns ∧ n < 2 ^ 39 ∧ dl = [rowsD rs] ∧ RowsOk rs ∧
  ∀ (rs' : List Rw) (ns' : List Int), RowsOk rs' → wellOk (n + 16 * 100) ns' → P (.val (rowsD rs')) (intsW p ns')
def lb__law_sparse_1 : DM := (mSeq (mPar 4 5 (d2 dAdd (d2 dAdd (dVar 3) (dC (.int 1))) (dCallW 0 g__law_dip (aCons (dB bMin (aCons (d2 dSub (dB bLen (aCons (dVar 1) aNil)) (dVar 3)) (aCons (dC (.int 4)) aNil))) aNil))) (d2 dIx (dVar 1) (dVar 3)))
    (mSeq (mSet 6 (dLst (aCons (dVar 5) (aCons (dVar 5) (aCons (dTup (aCons (dC (.str "go")) (aCons (dVar 4) aNil))) (aCons (dTup (aCons (dC (.str "if")) (aCons (dCallW 0 g__law_dip (aCons (dC (.int 3)) aNil)) (aCons (dVar 4) aNil)))) (aCons (dTup (aCons (dC (.str "put")) (aCons (dCallW 0 g__law_dip (aCons (dC (.int 3)) aNil)) (aCons (dCallW 0 g__law_dip (aCons (dC (.int 2)) aNil)) aNil)))) (aCons (dTup (aCons (dC (.str "copy")) (aCons (dCallW 0 g__law_dip (aCons (dC (.int 3)) aNil)) (aCons (dCallW 0 g__law_dip (aCons (dC (.int 3)) aNil)) aNil)))) aNil))))))))
    (mApp 2 (d2 dIx (dVar 6) (dCallW 0 g__law_dip (aCons (dC (.int 6)) aNil))))))
def tb__law_sparse : DM := (mSeq (mSet 2 (dLst aNil))
    (mSeq (mFor (iR1 (dB bLen (aCons (dVar 1) aNil))) (gNm 3) lb__law_sparse_1)
    (mRet (dB bTuple (aCons (dVar 2) aNil)))))
theorem small {k i : Int} (h : 0 ≤ i) (h2 : i < k) (hk : k ≤ 10 := by decide) : cellB i := ⟨h, by omega⟩
theorem sparse_loop {p : Addr} {n : Nat} {rs : List Rw} (hn : n < 2 ^ 39) (ho : RowsOk rs) {E : En} (fin : ∀ (rs' : List Rw) (ns' : List Int) (s3 s4 s5 s6 : SD), RowsAt rs.length rs' → rs'.length = rs.length → wellOk (n + 16 * rs.length) ns' → E.nx [.wd (intsW p ns'), .val (rowsD rs), .own (rs'.map Rw.d), s3, s4, s5, s6]) :
    ∀ (k : Nat) (rs' : List Rw) (ns : List Int) (s3 s4 s5 s6 : SD), rs'.length + k = rs.length → RowsAt rs.length rs' → wellOk (n + 16 * rs'.length) ns → loopD (gNm 3) lb__law_sparse_1 (natsD (List.range' rs'.length k)) E [.wd (intsW p ns), .val (rowsD rs), .own (rs'.map Rw.d), s3, s4, s5, s6]
  | 0, rs', ns, s3, s4, s5, s6, e, h, w => by
    have e : rs'.length = rs.length := by omega
    simpa [loopD] using fin rs' ns s3 s4 s5 s6 h e (e ▸ w)
  | k + 1, rs', ns, s3, s4, s5, s6, e, h, w => by
    have hl : rs'.length < rs.length := by omega
    have ll := ho.len
    have er : rs[rs'.length]? = some rs[rs'.length] := List.getElem?_eq_getElem hl
    have ro := ho.ok _ _ er
    have at_ : atI (rs.map Rw.d) (rs'.length : Int) = some rs[rs'.length].d := atI_nat (by rw [List.getElem?_map, er]; rfl)
    have sz : (1000 : Nat) ≤ sizeLine := by decide
    generalize rs[rs'.length] = r0 at *
    have ih : ∀ (r : Rw) (ns' : List Int) (s3 s4 s5 s6 : SD), r.Ok rs'.length rs.length → wellOk (n + 16 * rs'.length + 16) ns' → loopD (gNm 3) lb__law_sparse_1 (natsD (List.range' (rs'.length + 1) k)) E [.wd (intsW p ns'), .val (rowsD rs), .own (rs'.map Rw.d ++ [r.d]), s3, s4, s5, s6] := fun r ns' s3 s4 s5 s6 hr w' => by
      have := sparse_loop hn ho fin k (rs' ++ [r]) ns' s3 s4 s5 s6 (by simp; omega) (h.snoc hr) (w'.mono (by simp; omega))
      simpa using this
    rw [List.range'_succ, natsD, List.map_cons]
    show lb__law_sparse_1 { E with nx := loopD (gNm 3) lb__law_sparse_1 (natsD (List.range' (rs'.length + 1) k)) E, ct := loopD (gNm 3) lb__law_sparse_1 (natsD (List.range' (rs'.length + 1) k)) E, bk := E.nx } [.wd (intsW p ns), .val (rowsD rs), .own (rs'.map Rw.d), .val (.int (rs'.length : Int)), s4, s5, s6]
    generalize loopD (gNm 3) lb__law_sparse_1 (natsD (List.range' (rs'.length + 1) k)) E = L at *
    generalize hA : rs'.length = A at *
    unfold lb__law_sparse_1
    have hlen : ((rs.map Rw.d).length : Int) = rs.length := by simp
    have v3 : ∀ {s4 s5 s6 : SD}, EvN p [.val (rowsD rs), .own (rs'.map Rw.d), .val (.int (A : Int)), s4, s5, s6] 0 (dVar 3) (fun d => d = .int (A : Int)) := en_v (i := 2) rfl
    have v1 : ∀ {s4 s5 s6 : SD}, EvN p [.val (rowsD rs), .own (rs'.map Rw.d), .val (.int (A : Int)), s4, s5, s6] 0 (dVar 1) (fun d => d = .tuple (rs.map Rw.d)) := en_v (i := 0) rfl
    refine en_par (p := p) (n := n + 16 * A) (m := 1) (m' := 0) (i := 3) (j := 4) (rest := [.val (rowsD rs), .own (rs'.map Rw.d), .val (.int (A : Int)), s4, s5, s6]) (s0 := s4) (s1 := s5)
      (en_add (en_add (v3.weak (in_eq (lo := (A : Int)) (hi := A + 1) ⟨Int.le_refl _, by omega⟩)) (en_c.weak (in_eq (lo := 1) (hi := 2)))) (en_dip (m := 0) (lo := 1) (B := (rs.length : Int) - A)
        ((en_min (m := 0) (m' := 0) (en_sub (m := 0) (m' := 0) (en_lenT (m := 0) v1) v3) en_c).weak (in_eq ⟨by omega, by omega⟩)) (by decide) (by omega)))
      (en_ixT (m := 0) (m' := 0) v1 v3 at_) w (by omega) rfl rfl (by decide) (by rintro d ⟨i, rfl, _⟩ xs; exact nofun) (by rintro d rfl xs; exact RowR.notL (a := A) (m := rs.length) _ ⟨r0, rfl, ro⟩ xs) ?_
    rintro d d' ns1 ⟨to, rfl, t1, t2⟩ rfl w1
    have goR : RowR A rs.length (.tuple [.str "go", .int to]) := ⟨.go to, rfl, by omega, by omega⟩
    have v4 : ∀ {s6 : SD}, EvN p [.val (rowsD rs), .own (rs'.map Rw.d), .val (.int (A : Int)), .val (.int to), .val r0.d, s6] 0 (dVar 4) (fun d => d = .int to) := en_v (i := 3) rfl
    have v5 : ∀ {s6 : SD}, EvN p [.val (rowsD rs), .own (rs'.map Rw.d), .val (.int (A : Int)), .val (.int to), .val r0.d, s6] 0 (dVar 5) (RowR A rs.length) := (en_v (i := 4) rfl).weak fun d e => ⟨r0, e, ro⟩
    refine en_setL (p := p) (n := n + 16 * A + (1 + 0)) (i := 5) (s0 := s6) (m := 5) (rest := [.val (rowsD rs), .own (rs'.map Rw.d), .val (.int (A : Int)), .val (.int to), .val r0.d, s6]) (Rs := [RowR A rs.length, RowR A rs.length, RowR A rs.length, RowR A rs.length, RowR A rs.length, RowR A rs.length])
      (en_cons (m := 0) (m' := 5) v5 (en_cons (m := 0) (m' := 5) v5 (en_cons (m := 0) (m' := 5) ((en_tup (en_cons en_c (en_cons v4 en_nil))).weak fun d h => ?_) (en_cons (m := 1) (m' := 4) ((en_tup (en_cons en_c (en_cons en_dipc (en_cons v4 en_nil)))).weak fun d h => ?_)
        (en_cons (m := 2) (m' := 2) ((en_tup (en_cons en_c (en_cons en_dipc (en_cons en_dipc en_nil)))).weak fun d h => ?_) (en_cons (m := 2) (m' := 0) ((en_tup (en_cons en_c (en_cons en_dipc (en_cons en_dipc en_nil)))).weak fun d h => ?_) en_nil)))))) w1 (by omega) rfl ?_
    · obtain ⟨dl, rfl, h⟩ := h
      match dl, h with
      | _, .cons k1 (.cons k2 .nil) =>
        subst k1 k2
        exact ⟨.go to, rfl, by omega, by omega⟩
    · obtain ⟨dl, rfl, h⟩ := h
      match dl, h with
      | _, .cons k1 (.cons ⟨x, k2, x1, x2⟩ (.cons k3 .nil)) =>
        subst k1 k2 k3
        exact ⟨.jif x to, rfl, small x1 x2, by omega, by omega⟩
    · obtain ⟨dl, rfl, h⟩ := h
      match dl, h with
      | _, .cons k1 (.cons ⟨x, k2, x1, x2⟩ (.cons ⟨y, k3, y1, y2⟩ .nil)) =>
        subst k1 k2 k3
        exact ⟨.put x y, rfl, small x1 x2, by omega, by omega⟩
    · obtain ⟨dl, rfl, h⟩ := h
      match dl, h with
      | _, .cons k1 (.cons ⟨x, k2, x1, x2⟩ (.cons ⟨y, k3, y1, y2⟩ .nil)) =>
        subst k1 k2 k3
        exact ⟨.copy x y, rfl, small x1 x2, small y1 y2⟩
    rintro dl ns2 hd w2
    have hall := paired_all (R' := RowR A rs.length) (by simp) hd
    have hdl : dl.length = 6 := by
      match dl, hd with
      | _, .cons _ (.cons _ (.cons _ (.cons _ (.cons _ (.cons _ .nil))))) => rfl
    refine en_app (p := p) (n := n + 16 * A + (1 + 0) + 5) (m := 1) (i := 1) (rest := [.val (rowsD rs), .own (rs'.map Rw.d), .val (.int (A : Int)), .val (.int to), .val r0.d, .own dl]) (xs := rs'.map Rw.d)
      (en_ixo (i := 5) (k := 6) (xs := dl) (R := RowR A rs.length) rfl en_dipc (by omega) hall) w2 (by omega) rfl (by rw [List.length_map]; omega) ?_
    rintro d ns3 ⟨r, rfl, hr⟩ w3
    exact ih r ns3 _ _ _ _ hr (w3.mono (by omega))
theorem rd__law_sparse : ∀ w dl Q, dl.length = 1 → g__law_sparse w dl Q → tb__law_sparse (enW w Q) (slotsW 7 w dl) := by
  rintro w dl Q - ⟨p, ns, n, rs, rfl, hw, hn, rfl, ho, k⟩
  show tb__law_sparse (enW (intsW p ns) Q) [.wd (intsW p ns), .val (rowsD rs), .no, .no, .no, .no, .no]
  have ll := ho.len
  have sz : (1000 : Nat) ≤ sizeLine := by decide
  unfold tb__law_sparse
  refine seq1 [.wd (intsW p ns), .val (rowsD rs), .own [], .no, .no, .no, .no] (fun k hk => by simpa using hk) ?_
  refine seq_cut (fun ds => ∃ (rs' : List Rw) (ns' : List Int) (s3 s4 s5 s6 : SD), RowsOk rs' ∧ wellOk (n + 16 * 100) ns' ∧ ds = [.wd (intsW p ns'), .val (rowsD rs), .own (rs'.map Rw.d), s3, s4, s5, s6]) (fun k hk => ?_) ?_
  · simp only [mFor, iR1, dB, aCons, aNil, dVar, List.getElem?_cons_succ, List.getElem?_cons_zero, peeks, pk, peek, bLen, rowsD, List.length_map]
    refine ⟨by omega, ?_⟩
    rw [Int.toNat_natCast, rngD_nats, List.range_eq_range']
    exact sparse_loop hn ho (fun rs' ns' s3 s4 s5 s6 h hl w => hk _ ⟨rs', ns', s3, s4, s5, s6, ⟨by rw [hl]; exact h, by omega⟩, w.mono (by omega), rfl⟩) rs.length [] ns _ _ _ _ (by simp) .nil (by simpa using hw)
  rintro ds ⟨rs', ns', s3, s4, s5, s6, ho', w', rfl⟩
  simpa using ⟨rfl, k rs' ns' ho' w'⟩
end K18
namespace K18.L17
open PySem PySem.Spec PyProof.Rows L2 BK
open DL hiding g_is_between tb_is_between rd_is_between
def lb_law_1 : DM := (mSeq (mSet 4 (dCallW 2 g__law_rows_drawn (aCons (dCallW 2 g__law_dip (aCons (d2 dIx (dLst (aCons (dC (.int 9)) (aCons (dC (.int 25)) aNil))) (dCallW 2 g__law_dip (aCons (dC (.int 2)) aNil))) aNil)) (aCons (dC (.int 2)) aNil))))
    (mSeq (mIf (bT (d2 dEq (dCallW 2 g__law_dip (aCons (dC (.int 2)) aNil)) (dC (.int 0)))) (mSet 4 (dCallW 2 g__law_sparse (aCons (dVar 4) aNil))) mNil)
    (mSeq (mPar 5 6 (dB bRepr (aCons (dVar 4) aNil)) (dCall g__law_folded (aCons (dVar 4) aNil)))
    (mIf (bOr (bNot (bT (dCall (gn__law_same 4) (aCons (dLst (aCons (dCall g_folded (aCons (dVar 4) aNil)) (aCons (dCallK [0] g_folded (aCons (dVar 4) aNil)) aNil))) (aCons (dLst (aCons (dVar 6) (aCons (dVar 6) aNil))) aNil))))) (bT (d2 dNe (dB bRepr (aCons (dVar 4) aNil)) (dVar 5)))) (mRet (dC (.bool false))) mNil))))
def lb_law_2 : DM := (mSeq (mSet 2 (dCall g__law_well (aCons (dVar 1) aNil)))
    (mFor (iR1 (dC (.int 6))) (gNm 3) lb_law_1))
def tb_law : DM := (mSeq (mFor (iSeq (d2 dAdd (dLst (aCons (dC (.int 3200)) (aCons (d2 dAdd (d2 dPow (dC (.int 10)) (dC (.int 50))) (d2 dPow (dC (.int 4)) (dC (.int 40)))) aNil))) (dSl (dVar 0) pNone (pSome (dC (.int 6)))))) (gNm 1) lb_law_2)
    (mRet (dC (.bool true))))
theorem ev_callK {ds : DS} {g : DF} {u : DTA} {dl : List D} {ix : List Nat} {d : D} (a : EvA u ds dl) (h : ∀ P : SD → Prop, P (.val d) → g (pick ix dl) P) : EvT (dCallK ix g u) ds d := fun Q k => a _ fun hs x => takes_is x (h _ (k _ .tmp))
theorem same_row (r : Rw) : SameD 2 r.d := by
  have sz : (1000 : Nat) ≤ sizeLine := by decide
  cases r <;> exact ⟨by simp only [List.length_cons, List.length_nil]; omega, by
    intro x hx
    simp only [List.mem_cons, List.not_mem_nil, or_false] at hx
    rcases hx with rfl | rfl | rfl | rfl | rfl | rfl <;> trivial⟩
theorem same_rows {rs : List Rw} (hl : rs.length ≤ 100) : SameD 3 (rowsD rs) := by
  have sz : (1000 : Nat) ≤ sizeLine := by decide
  refine ⟨by rw [List.length_map]; omega, fun x hx => ?_⟩
  obtain ⟨r, _, rfl⟩ := List.mem_map.mp hx
  exact same_row r
theorem same_due {rs : List Rw} (hl : rs.length ≤ 100) : SameD 4 (.list [rowsD rs, rowsD rs]) := by
  have sz : (1000 : Nat) ≤ sizeLine := by decide
  refine ⟨by simp only [List.length_cons, List.length_nil]; omega, fun x hx => ?_⟩
  simp only [List.mem_cons, List.not_mem_nil, or_false] at hx
  rcases hx with rfl | rfl <;> exact same_rows hl
theorem run_len {s : Kn → Kn} : ∀ (rs : List Rw) (a : Int) (kn : Kt), (runF s rs a kn).length = rs.length
  | [], _, _ => rfl
  | r :: rs, a, kn => by rw [run_cons, List.length_cons, List.length_cons, run_len rs]
theorem kept_len {rs : List Rw} (ho : RowsOk rs) : (foldS rs).length ≤ 100 := by
  unfold foldS
  rw [run_len]
  exact ho.len
theorem ev_repr {ds : DS} {t : DT} {rs : List Rw} (x : EvT t ds (rowsD rs)) (ho : RowsOk rs) : EvT (dB bRepr (aCons t aNil)) ds (.str (PyData.shown (rowsD rs))) :=
  ev_b (ev_cons x ev_nil) fun Q q => ⟨rows_repr ho, q⟩
theorem two_at {r : Int} (h0 : 0 ≤ r) (h1 : r < 2) : ∃ b : Int, atI ([.int 9, .int 25] : List D) r = some (.int b) ∧ 1 ≤ b ∧ b ≤ 25 := by
  have : r = 0 ∨ r = 1 := by omega
  rcases this with rfl | rfl
  · exact ⟨9, rfl, by decide, by decide⟩
  · exact ⟨25, rfl, by decide, by decide⟩
theorem law_tail {p : Addr} {ns : List Int} {scr cell tn s5 s6 : SD} {E : En} {rs : List Rw} (ho : RowsOk rs) (fin : ∀ s5 s6, E.nx [scr, cell, .wd (intsW p ns), tn, .val (rowsD rs), s5, s6]) :
    (mSeq (mPar 5 6 (dB bRepr (aCons (dVar 4) aNil)) (dCall g__law_folded (aCons (dVar 4) aNil)))
    (mIf (bOr (bNot (bT (dCall (gn__law_same 4) (aCons (dLst (aCons (dCall g_folded (aCons (dVar 4) aNil)) (aCons (dCallK [0] g_folded (aCons (dVar 4) aNil)) aNil))) (aCons (dLst (aCons (dVar 6) (aCons (dVar 6) aNil))) aNil))))) (bT (d2 dNe (dB bRepr (aCons (dVar 4) aNil)) (dVar 5)))) (mRet (dC (.bool false))) mNil)) E [scr, cell, .wd (intsW p ns), tn, .val (rowsD rs), s5, s6] := by
  generalize hdue : foldS rs = due
  have hdl : due.length ≤ 100 := hdue ▸ kept_len ho
  refine seq1 [scr, cell, .wd (intsW p ns), tn, .val (rowsD rs), .val (.str (PyData.shown (rowsD rs))), .val (rowsD due)] (fun k hk => ?_) ?_
  · unfold mPar
    refine ev_repr (ev_v (i := 4) rfl) ho _ fun h1 i1 => ?_
    have c : EvT (dCall g__law_folded (aCons (dVar 4) aNil)) [scr, cell, .wd (intsW p ns), tn, .val (rowsD rs), s5, s6] (rowsD due) := ev_call (ev_cons (ev_v (i := 4) rfl) ev_nil) fun P hP => ⟨rs, rfl, ho, hdue ▸ hP⟩
    refine c _ fun h2 i2 => ?_
    refine sett_v i1 (fun _ => nofun) (sett_v i2 (fun _ => nofun) ?_)
    exact hk
  have e4 : EvT (dVar 4) [scr, cell, .wd (intsW p ns), tn, .val (rowsD rs), .val (.str (PyData.shown (rowsD rs))), .val (rowsD due)] (rowsD rs) := ev_v rfl
  have e5 : EvT (dVar 5) [scr, cell, .wd (intsW p ns), tn, .val (rowsD rs), .val (.str (PyData.shown (rowsD rs))), .val (rowsD due)] (.str (PyData.shown (rowsD rs))) := ev_v rfl
  have e6 : EvT (dVar 6) [scr, cell, .wd (intsW p ns), tn, .val (rowsD rs), .val (.str (PyData.shown (rowsD rs))), .val (rowsD due)] (rowsD due) := ev_v rfl
  have sp : ∀ P : SD → Prop, P (.val (rowsD due)) → g_folded [rowsD rs] P := fun P hP => ⟨rs, rfl, ho, fold_to ho (hdue ▸ hP)⟩
  refine if_no (eb_or (eb_not (a := true) (eb_t (ev_call (ev_cons (ev_lst (ev_cons (ev_call (ev_cons e4 ev_nil) sp) (ev_cons (ev_callK (ev_cons e4 ev_nil) sp) ev_nil))) (ev_cons (ev_lst (ev_cons e6 (ev_cons e6 ev_nil))) ev_nil)) fun P hP => ⟨_, rfl, same_due hdl, hP⟩))) (b := false) fun _ => eb_t (ev_2 (ev_repr e4 ho) e5 fun Q q => ?_)) ?_
  · simpa [dNe] using q
  · exact fin _ _
theorem turn_ok {p : Addr} {n : Nat} {ns : List Int} {scr cell tn s4 s5 s6 : SD} {E : En} (w : wellOk n ns) (hn : n < 2 ^ 30) (fin : ∀ ns' s4 s5 s6, wellOk (n + 4000) ns' → E.nx [scr, cell, .wd (intsW p ns'), tn, s4, s5, s6]) :
    lb_law_1 E [scr, cell, .wd (intsW p ns), tn, s4, s5, s6] := by
  unfold lb_law_1
  refine seq_cut (fun ds => ∃ (rs : List Rw) (ns' : List Int), RowsOk rs ∧ wellOk (n + 1700) ns' ∧ ds = [scr, cell, .wd (intsW p ns'), tn, .val (rowsD rs), s5, s6]) (fun k hk => ?_) ?_
  · simp only [mSet, dCallW, wdAt, aCons, aNil, d2, dLst, dC, takes, take1, List.getElem?_cons_succ, List.getElem?_cons_zero]
    refine ⟨p, ns, n, 2, rfl, w, by omega, rfl, by decide, by decide, fun r ns1 r0 r1 w1 => ⟨rfl, ?_⟩⟩
    obtain ⟨b, eb, b1, b2⟩ := two_at r0 r1
    simp only [hdOf, pk, peek, dIx, eb, takes, take1, List.getElem?_cons_succ, List.getElem?_cons_zero, List.set_cons_succ, List.set_cons_zero]
    refine ⟨p, ns1, n + 1, b, rfl, w1, by omega, rfl, b1, by omega, fun m ns2 m0 m1 w2 => ⟨rfl, ?_⟩⟩
    obtain ⟨m, rfl⟩ := Int.eq_ofNat_of_zero_le m0
    simp only [hdOf, pk, peek, takes, take1, List.getElem?_cons_succ, List.getElem?_cons_zero, List.set_cons_succ, List.set_cons_zero]
    refine ⟨p, ns2, n + 1 + 1, m, rfl, w2, by omega, rfl, by omega, fun rs ns3 ho hl w3 => ⟨rfl, ?_⟩⟩
    exact hk _ ⟨rs, ns3, ho, w3.mono (by omega), rfl⟩
  rintro ds ⟨rs, ns1, ho, w1, rfl⟩
  refine seq_cut (fun ds => ∃ (rs : List Rw) (ns' : List Int), RowsOk rs ∧ wellOk (n + 4000) ns' ∧ ds = [scr, cell, .wd (intsW p ns'), tn, .val (rowsD rs), s5, s6]) (fun k hk => ?_) ?_
  · simp only [mIf, bT, dCallW, wdAt, aCons, aNil, d2, dC, takes, take1, List.getElem?_cons_succ, List.getElem?_cons_zero]
    refine ⟨p, ns1, n + 1700, 2, rfl, w1, by omega, rfl, by decide, by decide, fun r ns2 r0 r1 w2 => ⟨rfl, ?_⟩⟩
    simp only [hdOf, pk, peek, dEq, List.set_cons_succ, List.set_cons_zero]
    by_cases h0 : r = 0
    · subst h0
      simp
      exact ⟨p, ns2, n + 1701, rs, rfl, w2, by omega, rfl, ho, fun rs' ns3 ho' w3 => ⟨rfl, hk _ ⟨rs', ns3, ho', w3.mono (by omega), rfl⟩⟩⟩
    · simp [h0]
      exact hk _ ⟨rs, ns2, ho, w2.mono (by omega), rfl⟩
  rintro ds ⟨rs, ns1, ho, w1, rfl⟩
  exact law_tail ho fun s5 s6 => fin _ _ _ _ w1
theorem cut_m {α : Type} (xs : List α) (m : Nat) : DL.cutD xs none (some (m : Int)) = xs.take m := by
  have e : HT.sIx xs.length 0 none = 0 := rfl
  have e2 : HT.sIx xs.length xs.length (some (m : Int)) = min m xs.length := by
    simp only [HT.sIx]
    have : ¬ ((m : Int) < 0) := by omega
    simp [this]
    try omega
  simp only [DL.cutD, e, e2, List.drop_zero, Nat.sub_zero]
  rw [Nat.min_comm, ← List.take_take]
  exact List.take_of_length_le (by simp; omega)
theorem turns_ok {p : Addr} {scr cell : SD} {E : En} : ∀ (xs : List D) (n : Nat) (ns : List Int) (tn s4 s5 s6 : SD), wellOk n ns → n + 4000 * xs.length < 2 ^ 30 → (∀ ns' tn s4 s5 s6, E.nx [scr, cell, .wd (intsW p ns'), tn, s4, s5, s6]) →
    loopD (gNm 3) lb_law_1 xs E [scr, cell, .wd (intsW p ns), tn, s4, s5, s6]
  | [], n, ns, tn, s4, s5, s6, _, _, k => k _ _ _ _ _
  | x :: xs, n, ns, tn, s4, s5, s6, w, hn, k => by
    have hn : n + 4000 * (xs.length + 1) < 2 ^ 30 := hn
    show lb_law_1 { E with nx := loopD (gNm 3) lb_law_1 xs E, ct := loopD (gNm 3) lb_law_1 xs E, bk := E.nx } [scr, cell, .wd (intsW p ns), .val x, s4, s5, s6]
    exact turn_ok w (by omega) fun ns' s4 s5 s6 w' => turns_ok xs (n + 4000) ns' _ s4 s5 s6 w' (by omega) k
theorem cells_ok {scr : SD} {E : En} : ∀ (xs : List D) (s1 s2 s3 s4 s5 s6 : SD), (∀ x ∈ xs, ∃ i : Int, x = .int i) → (∀ s1 s2 s3 s4 s5 s6, E.nx [scr, s1, s2, s3, s4, s5, s6]) → loopD (gNm 1) lb_law_2 xs E [scr, s1, s2, s3, s4, s5, s6]
  | [], s1, s2, s3, s4, s5, s6, _, k => k _ _ _ _ _ _
  | x :: xs, s1, s2, s3, s4, s5, s6, hx, k => by
    obtain ⟨i, rfl⟩ := hx x List.mem_cons_self
    have ih := fun s1 s2 s3 s4 s5 s6 => cells_ok (scr := scr) xs s1 s2 s3 s4 s5 s6 (fun y hy => hx y (List.mem_cons_of_mem _ hy)) k
    show lb_law_2 { E with nx := loopD (gNm 1) lb_law_2 xs E, ct := loopD (gNm 1) lb_law_2 xs E, bk := E.nx } [scr, .val (.int i), s2, s3, s4, s5, s6]
    generalize loopD (gNm 1) lb_law_2 xs E = L at *
    unfold lb_law_2
    refine seq_cut (fun ds => ∃ (p : Addr) (ns : List Int), wellOk 0 ns ∧ ds = [scr, .val (.int i), .wd (intsW p ns), s3, s4, s5, s6]) (fun k hk => ?_) ?_
    · simp only [mSet, dCall, aCons, aNil, dVar, takes, take1, List.getElem?_cons_succ, List.getElem?_cons_zero]
      exact ⟨i, rfl, fun p ns w => hk _ ⟨p, ns, w, rfl⟩⟩
    rintro ds ⟨p, ns, w, rfl⟩
    simp only [mFor, iR1, dC, pk, peek]
    refine ⟨by decide, ?_⟩
    exact turns_ok _ 0 ns _ _ _ _ w (by simp [rngD]) fun ns' tn s4 s5 s6 => ih _ _ _ _ _ _
def g_law : DF := fun dl P => ∃ ns : List Int, dl = [.list (ns.map .int)] ∧ ns.length ≤ 63 ∧ P (.val (.bool true))
theorem cp60 : CPow 10 50 := ⟨by decide, by decide, by decide⟩
theorem cp40 : CPow 4 40 := ⟨by decide, by decide, by decide⟩
theorem rd_law : ∀ dl Q, dl.length = 1 → g_law dl Q → tb_law (enF Q) (slots0 7 dl) := by
  rintro dl Q - ⟨ns, rfl, hl, h⟩
  show tb_law (enF Q) [.val (.list (ns.map .int)), .no, .no, .no, .no, .no, .no]
  unfold tb_law
  refine seq_cut (fun ds => ∃ s1 s2 s3 s4 s5 s6, ds = [.val (.list (ns.map .int)), s1, s2, s3, s4, s5, s6]) (fun k hk => ?_) ?_
  · have e : EvT (d2 dAdd (dLst (aCons (dC (.int 3200)) (aCons (d2 dAdd (d2 dPow (dC (.int 10)) (dC (.int 50))) (d2 dPow (dC (.int 4)) (dC (.int 40)))) aNil))) (dSl (dVar 0) pNone (pSome (dC (.int 6))))) [.val (.list (ns.map .int)), .no, .no, .no, .no, .no, .no] (.list ([.int 3200, .int (10 ^ 50 + 4 ^ 40)] ++ (ns.map .int).take 6)) := fun Q q => by
      have cm : DL.cutD (ns.map PyData.int) none (some 6) = (ns.map PyData.int).take 6 := cut_m _ 6
      have big : EvT (d2 dAdd (d2 dPow (dC (.int 10)) (dC (.int 50))) (d2 dPow (dC (.int 4)) (dC (.int 40)))) [.val (.list (ns.map .int)), .no, .no, .no, .no, .no, .no] (.int (10 ^ 50 + 4 ^ 40)) := ev_add (ev_pow ev_c ev_c cp60) (ev_pow ev_c ev_c cp40)
      have sz : (1000 : Nat) ≤ sizeLine := by decide
      refine lst_new (ev_cons ev_c (ev_cons big ev_nil)) ?_
      simp only [dSl, dVar, pNone, pSome, dC, pk, peek, dCut, List.getElem?_cons_zero]
      rw [cm]
      simp only [peek, dAdd]
      refine ⟨?_, q _ .new⟩
      have : ((ns.map PyData.int).take 6).length ≤ 6 := List.length_take_le _ _
      simp only [List.length_cons, List.length_nil]
      omega
    refine e _ fun h i => i.tk _ ?_
    refine cells_ok _ _ _ _ _ _ _ (fun x hx => ?_) fun s1 s2 s3 s4 s5 s6 => hk _ ⟨s1, s2, s3, s4, s5, s6, rfl⟩
    rcases List.mem_append.mp hx with hx | hx
    · simp only [List.mem_cons, List.not_mem_nil, or_false] at hx
      rcases hx with rfl | rfl <;> exact ⟨_, rfl⟩
    · obtain ⟨i, _, rfl⟩ := List.mem_map.mp (List.mem_of_mem_take hx)
      exact ⟨i, rfl⟩
  rintro ds ⟨s1, s2, s3, s4, s5, s6, rfl⟩
  simpa using h
end K18.L17
namespace K18.L17
open PySem PySem.Spec PyProof.Rows L2 BK
open DL hiding g_is_between tb_is_between rd_is_between
def topS (i : Nat) : Stmt := PySem.Challenge.pw_everyfolk_k17_whole_what_is_known_folded.main.body.getD i (.Pass ⟨0, 0, 0, 0⟩)
abbrev s_is_integer : Stmt := topS 4
abbrev N_is_integer : List Str := ["value"]
abbrev P_is_integer : List Str := ["value"]
theorem sc_is_integer : FnScope N_is_integer P_is_integer (defScope s_is_integer) := ⟨rfl, rfl, rfl, by decide +kernel, rfl, by decide +kernel, by decide +kernel⟩
abbrev s_is_between : Stmt := topS 5
abbrev N_is_between : List Str := ["least", "value", "most"]
abbrev P_is_between : List Str := ["least", "value", "most"]
theorem sc_is_between : FnScope N_is_between P_is_between (defScope s_is_between) := ⟨rfl, rfl, rfl, by decide +kernel, rfl, by decide +kernel, by decide +kernel⟩
abbrev s_is_word : Stmt := topS 6
abbrev N_is_word : List Str := ["value", "sign"]
abbrev P_is_word : List Str := ["value"]
theorem sc_is_word : FnScope N_is_word P_is_word (defScope s_is_word) := ⟨rfl, rfl, rfl, by decide +kernel, rfl, by decide +kernel, by decide +kernel⟩
abbrev s_divided : Stmt := topS 9
abbrev N_divided : List Str := ["top", "bottom", "rounding"]
abbrev P_divided : List Str := ["top", "bottom", "rounding"]
theorem sc_divided : FnScope N_divided P_divided (defScope s_divided) := ⟨rfl, rfl, rfl, by decide +kernel, rfl, by decide +kernel, by decide +kernel⟩
abbrev s_is_member : Stmt := topS 17
abbrev N_is_member : List Str := ["sort", "value", "index", "many", "ends", "low", "high"]
abbrev P_is_member : List Str := ["sort", "value", "index", "many"]
theorem sc_is_member : FnScope N_is_member P_is_member (defScope s_is_member) := ⟨rfl, rfl, rfl, by decide +kernel, rfl, by decide +kernel, by decide +kernel⟩
abbrev s_is_row : Stmt := topS 18
abbrev N_is_row : List Str := ["value", "index", "many", "form", "sort", "one"]
abbrev P_is_row : List Str := ["value", "index", "many"]
theorem sc_is_row : FnScope N_is_row P_is_row (defScope s_is_row) := ⟨rfl, rfl, rfl, by decide +kernel, rfl, by decide +kernel, by decide +kernel⟩
abbrev s_is_rows : Stmt := topS 19
abbrev N_is_rows : List Str := ["value", "k", "row"]
abbrev P_is_rows : List Str := ["value"]
theorem sc_is_rows : FnScope N_is_rows P_is_rows (defScope s_is_rows) := ⟨rfl, rfl, rfl, by decide +kernel, rfl, by decide +kernel, by decide +kernel⟩
abbrev s_check_rows : Stmt := topS 20
abbrev N_check_rows : List Str := ["rows"]
abbrev P_check_rows : List Str := ["rows"]
theorem sc_check_rows : FnScope N_check_rows P_check_rows (defScope s_check_rows) := ⟨rfl, rfl, rfl, by decide +kernel, rfl, by decide +kernel, by decide +kernel⟩
abbrev s_read_cells : Stmt := topS 21
abbrev N_read_cells : List Str := ["row", "form", "found", "sort", "value"]
abbrev P_read_cells : List Str := ["row"]
theorem sc_read_cells : FnScope N_read_cells P_read_cells (defScope s_read_cells) := ⟨rfl, rfl, rfl, by decide +kernel, rfl, by decide +kernel, by decide +kernel⟩
abbrev s_reckoned : Stmt := topS 22
abbrev N_reckoned : List Str := ["row", "values", "word", "one", "other"]
abbrev P_reckoned : List Str := ["row", "values"]
theorem sc_reckoned : FnScope N_reckoned P_reckoned (defScope s_reckoned) := ⟨rfl, rfl, rfl, by decide +kernel, rfl, by decide +kernel, by decide +kernel⟩
abbrev s_goal_of : Stmt := topS 25
abbrev N_goal_of : List Str := ["row"]
abbrev P_goal_of : List Str := ["row"]
theorem sc_goal_of : FnScope N_goal_of P_goal_of (defScope s_goal_of) := ⟨rfl, rfl, rfl, by decide +kernel, rfl, by decide +kernel, by decide +kernel⟩
abbrev s_ways_of : Stmt := topS 26
abbrev N_ways_of : List Str := ["row", "at", "goal"]
abbrev P_ways_of : List Str := ["row", "at"]
theorem sc_ways_of : FnScope N_ways_of P_ways_of (defScope s_ways_of) := ⟨rfl, rfl, rfl, by decide +kernel, rfl, by decide +kernel, by decide +kernel⟩
abbrev s_met_cells : Stmt := topS 27
abbrev N_met_cells : List Str := ["one", "other", "cell"]
abbrev P_met_cells : List Str := ["one", "other"]
theorem sc_met_cells : FnScope N_met_cells P_met_cells (defScope s_met_cells) := ⟨rfl, rfl, rfl, by decide +kernel, rfl, by decide +kernel, by decide +kernel⟩
abbrev s_cells_behind : Stmt := topS 28
abbrev N_cells_behind : List Str := ["row", "known", "found", "values", "cell"]
abbrev P_cells_behind : List Str := ["row", "known"]
theorem sc_cells_behind : FnScope N_cells_behind P_cells_behind (defScope s_cells_behind) := ⟨rfl, rfl, rfl, by decide +kernel, rfl, by decide +kernel, by decide +kernel⟩
abbrev s_folded_row : Stmt := topS 29
abbrev N_folded_row : List Str := ["row", "at", "known", "behind"]
abbrev P_folded_row : List Str := ["row", "at", "known", "behind"]
theorem sc_folded_row : FnScope N_folded_row P_folded_row (defScope s_folded_row) := ⟨rfl, rfl, rfl, by decide +kernel, rfl, by decide +kernel, by decide +kernel⟩
abbrev s_cells_in : Stmt := topS 30
abbrev N_cells_in : List Str := ["rows", "found", "row", "sort", "value"]
abbrev P_cells_in : List Str := ["rows"]
theorem sc_cells_in : FnScope N_cells_in P_cells_in (defScope s_cells_in) := ⟨rfl, rfl, rfl, by decide +kernel, rfl, by decide +kernel, by decide +kernel⟩
abbrev s_folded_rows : Stmt := topS 31
abbrev N_folded_rows : List Str := ["rows", "known", "found", "at", "row", "behind", "other", "cell"]
abbrev P_folded_rows : List Str := ["rows"]
theorem sc_folded_rows : FnScope N_folded_rows P_folded_rows (defScope s_folded_rows) := ⟨rfl, rfl, rfl, by decide +kernel, rfl, by decide +kernel, by decide +kernel⟩
abbrev s_folded : Stmt := topS 32
abbrev N_folded : List Str := ["rows"]
abbrev P_folded : List Str := ["rows"]
theorem sc_folded : FnScope N_folded P_folded (defScope s_folded) := ⟨rfl, rfl, rfl, by decide +kernel, rfl, by decide +kernel, by decide +kernel⟩
abbrev s__law_well : Stmt := topS 34
abbrev N__law_well : List Str := ["cell"]
abbrev P__law_well : List Str := ["cell"]
theorem sc__law_well : FnScope N__law_well P__law_well (defScope s__law_well) := ⟨rfl, rfl, rfl, by decide +kernel, rfl, by decide +kernel, by decide +kernel⟩
abbrev s__law_dip : Stmt := topS 35
abbrev N__law_dip : List Str := ["well", "many", "drop"]
abbrev P__law_dip : List Str := ["well", "many"]
theorem sc__law_dip : FnScope N__law_dip P__law_dip (defScope s__law_dip) := ⟨rfl, rfl, rfl, by decide +kernel, rfl, by decide +kernel, by decide +kernel⟩
abbrev s__law_same : Stmt := topS 36
abbrev N__law_same : List Str := ["found", "due", "k"]
abbrev P__law_same : List Str := ["found", "due"]
theorem sc__law_same : FnScope N__law_same P__law_same (defScope s__law_same) := ⟨rfl, rfl, rfl, by decide +kernel, rfl, by decide +kernel, by decide +kernel⟩
abbrev s__law_shared : Stmt := topS 45
abbrev N__law_shared : List Str := ["number", "p", "q", "word", "top", "down"]
abbrev P__law_shared : List Str := ["number", "p", "q", "word"]
theorem sc__law_shared : FnScope N__law_shared P__law_shared (defScope s__law_shared) := ⟨rfl, rfl, rfl, by decide +kernel, rfl, by decide +kernel, by decide +kernel⟩
abbrev s__law_of : Stmt := topS 46
abbrev N__law_of : List Str := ["expression", "worths", "word", "one", "other"]
abbrev P__law_of : List Str := ["expression", "worths"]
theorem sc__law_of : FnScope N__law_of P__law_of (defScope s__law_of) := ⟨rfl, rfl, rfl, by decide +kernel, rfl, by decide +kernel, by decide +kernel⟩
abbrev s__law_words : Stmt := topS 51
abbrev N__law_words : List Str := ["rows", "more"]
abbrev P__law_words : List Str := []
theorem sc__law_words : FnScope N__law_words P__law_words (defScope s__law_words) := ⟨rfl, rfl, rfl, by decide +kernel, rfl, by decide +kernel, by decide +kernel⟩
abbrev s__law_row : Stmt := topS 52
abbrev N__law_row : List Str := ["well", "at", "many", "inputs", "words", "word", "c", "a", "b", "to"]
abbrev P__law_row : List Str := ["well", "at", "many", "inputs"]
theorem sc__law_row : FnScope N__law_row P__law_row (defScope s__law_row) := ⟨rfl, rfl, rfl, by decide +kernel, rfl, by decide +kernel, by decide +kernel⟩
abbrev s__law_rows_drawn : Stmt := topS 53
abbrev N__law_rows_drawn : List Str := ["well", "many", "inputs", "at"]
abbrev P__law_rows_drawn : List Str := ["well", "many", "inputs"]
theorem sc__law_rows_drawn : FnScope N__law_rows_drawn P__law_rows_drawn (defScope s__law_rows_drawn) := ⟨rfl, rfl, rfl, by decide +kernel, rfl, by decide +kernel, by decide +kernel⟩
abbrev s__law_reads : Stmt := topS 54
abbrev N__law_reads : List Str := ["row", "word"]
abbrev P__law_reads : List Str := ["row"]
theorem sc__law_reads : FnScope N__law_reads P__law_reads (defScope s__law_reads) := ⟨rfl, rfl, rfl, by decide +kernel, rfl, by decide +kernel, by decide +kernel⟩
abbrev s__law_reckoned : Stmt := topS 55
abbrev N__law_reckoned : List Str := ["row", "values", "word"]
abbrev P__law_reckoned : List Str := ["row", "values"]
theorem sc__law_reckoned : FnScope N__law_reckoned P__law_reckoned (defScope s__law_reckoned) := ⟨rfl, rfl, rfl, by decide +kernel, rfl, by decide +kernel, by decide +kernel⟩
abbrev s__law_next : Stmt := topS 60
abbrev N__law_next : List Str := ["row", "at", "found"]
abbrev P__law_next : List Str := ["row", "at"]
theorem sc__law_next : FnScope N__law_next P__law_next (defScope s__law_next) := ⟨rfl, rfl, rfl, by decide +kernel, rfl, by decide +kernel, by decide +kernel⟩
abbrev s__law_folded : Stmt := topS 64
abbrev N__law_folded : List Str := ["rows", "cells", "known", "found", "at", "row", "here", "table", "values", "told", "behind", "other", "cell", "one"]
abbrev P__law_folded : List Str := ["rows"]
theorem sc__law_folded : FnScope N__law_folded P__law_folded (defScope s__law_folded) := ⟨rfl, rfl, rfl, by decide +kernel, rfl, by decide +kernel, by decide +kernel⟩
abbrev s__law_sparse : Stmt := topS 68
abbrev N__law_sparse : List Str := ["well", "rows", "found", "at", "to", "row", "some"]
abbrev P__law_sparse : List Str := ["well", "rows"]
theorem sc__law_sparse : FnScope N__law_sparse P__law_sparse (defScope s__law_sparse) := ⟨rfl, rfl, rfl, by decide +kernel, rfl, by decide +kernel, by decide +kernel⟩
abbrev s_law : Stmt := topS 69
abbrev N_law : List Str := ["script", "cell", "well", "turn", "rows", "kept", "due"]
abbrev P_law : List Str := ["script"]
theorem sc_law : FnScope N_law P_law (defScope s_law) := ⟨rfl, rfl, rfl, by decide +kernel, rfl, by decide +kernel, by decide +kernel⟩
structure Df (K : PySem.W.Frag) (mg : Str → Option Value) (x : Str) (st : Stmt) (ps : List Str) (f : Addr) (fd : FuncData) : Prop where
  F : Fun K x x st f fd
  b : Binds K fd ps []
  m : mg x = some (.ref f)
set_option genInjectivity false in
set_option genSizeOf false in
structure Tx (w : World) (K : PySem.W.Frag) (mg : Str → Option Value) where
  a_is_integer : Addr
  fd_is_integer : FuncData
  d_is_integer : Df K mg "is_integer" s_is_integer P_is_integer a_is_integer fd_is_integer
  a_is_between : Addr
  fd_is_between : FuncData
  d_is_between : Df K mg "is_between" s_is_between P_is_between a_is_between fd_is_between
  a_is_word : Addr
  fd_is_word : FuncData
  d_is_word : Df K mg "is_word" s_is_word P_is_word a_is_word fd_is_word
  a_divided : Addr
  fd_divided : FuncData
  d_divided : Df K mg "divided" s_divided P_divided a_divided fd_divided
  a_is_member : Addr
  fd_is_member : FuncData
  d_is_member : Df K mg "is_member" s_is_member P_is_member a_is_member fd_is_member
  a_is_row : Addr
  fd_is_row : FuncData
  d_is_row : Df K mg "is_row" s_is_row P_is_row a_is_row fd_is_row
  a_is_rows : Addr
  fd_is_rows : FuncData
  d_is_rows : Df K mg "is_rows" s_is_rows P_is_rows a_is_rows fd_is_rows
  a_check_rows : Addr
  fd_check_rows : FuncData
  d_check_rows : Df K mg "check_rows" s_check_rows P_check_rows a_check_rows fd_check_rows
  a_read_cells : Addr
  fd_read_cells : FuncData
  d_read_cells : Df K mg "read_cells" s_read_cells P_read_cells a_read_cells fd_read_cells
  a_reckoned : Addr
  fd_reckoned : FuncData
  d_reckoned : Df K mg "reckoned" s_reckoned P_reckoned a_reckoned fd_reckoned
  a_goal_of : Addr
  fd_goal_of : FuncData
  d_goal_of : Df K mg "goal_of" s_goal_of P_goal_of a_goal_of fd_goal_of
  a_ways_of : Addr
  fd_ways_of : FuncData
  d_ways_of : Df K mg "ways_of" s_ways_of P_ways_of a_ways_of fd_ways_of
  a_met_cells : Addr
  fd_met_cells : FuncData
  d_met_cells : Df K mg "met_cells" s_met_cells P_met_cells a_met_cells fd_met_cells
  a_cells_behind : Addr
  fd_cells_behind : FuncData
  d_cells_behind : Df K mg "cells_behind" s_cells_behind P_cells_behind a_cells_behind fd_cells_behind
  a_folded_row : Addr
  fd_folded_row : FuncData
  d_folded_row : Df K mg "folded_row" s_folded_row P_folded_row a_folded_row fd_folded_row
  a_cells_in : Addr
  fd_cells_in : FuncData
  d_cells_in : Df K mg "cells_in" s_cells_in P_cells_in a_cells_in fd_cells_in
  a_folded_rows : Addr
  fd_folded_rows : FuncData
  d_folded_rows : Df K mg "folded_rows" s_folded_rows P_folded_rows a_folded_rows fd_folded_rows
  a_folded : Addr
  fd_folded : FuncData
  d_folded : Df K mg "folded" s_folded P_folded a_folded fd_folded
  a__law_well : Addr
  fd__law_well : FuncData
  d__law_well : Df K mg "_law_well" s__law_well P__law_well a__law_well fd__law_well
  a__law_dip : Addr
  fd__law_dip : FuncData
  d__law_dip : Df K mg "_law_dip" s__law_dip P__law_dip a__law_dip fd__law_dip
  a__law_same : Addr
  fd__law_same : FuncData
  d__law_same : Df K mg "_law_same" s__law_same P__law_same a__law_same fd__law_same
  a__law_shared : Addr
  fd__law_shared : FuncData
  d__law_shared : Df K mg "_law_shared" s__law_shared P__law_shared a__law_shared fd__law_shared
  a__law_of : Addr
  fd__law_of : FuncData
  d__law_of : Df K mg "_law_of" s__law_of P__law_of a__law_of fd__law_of
  a__law_words : Addr
  fd__law_words : FuncData
  d__law_words : Df K mg "_law_words" s__law_words P__law_words a__law_words fd__law_words
  a__law_row : Addr
  fd__law_row : FuncData
  d__law_row : Df K mg "_law_row" s__law_row P__law_row a__law_row fd__law_row
  a__law_rows_drawn : Addr
  fd__law_rows_drawn : FuncData
  d__law_rows_drawn : Df K mg "_law_rows_drawn" s__law_rows_drawn P__law_rows_drawn a__law_rows_drawn fd__law_rows_drawn
  a__law_reads : Addr
  fd__law_reads : FuncData
  d__law_reads : Df K mg "_law_reads" s__law_reads P__law_reads a__law_reads fd__law_reads
  a__law_reckoned : Addr
  fd__law_reckoned : FuncData
  d__law_reckoned : Df K mg "_law_reckoned" s__law_reckoned P__law_reckoned a__law_reckoned fd__law_reckoned
  a__law_next : Addr
  fd__law_next : FuncData
  d__law_next : Df K mg "_law_next" s__law_next P__law_next a__law_next fd__law_next
  a__law_folded : Addr
  fd__law_folded : FuncData
  d__law_folded : Df K mg "_law_folded" s__law_folded P__law_folded a__law_folded fd__law_folded
  a__law_sparse : Addr
  fd__law_sparse : FuncData
  d__law_sparse : Df K mg "_law_sparse" s__law_sparse P__law_sparse a__law_sparse fd__law_sparse
  a_law : Addr
  fd_law : FuncData
  d_law : Df K mg "law" s_law P_law a_law fd_law
  z_isinstance : mg "isinstance" = none
  z_bool : mg "bool" = none
  z_int : mg "int" = none
  z_all : mg "all" = none
  z_len : mg "len" = none
  z_str : mg "str" = none
  z_zip : mg "zip" = none
  z_tuple : mg "tuple" = none
  z_enumerate : mg "enumerate" = none
  z_min : mg "min" = none
  z_max : mg "max" = none
  z_dict : mg "dict" = none
  z_sorted : mg "sorted" = none
  z_range : mg "range" = none
  z_list : mg "list" = none
  z_set : mg "set" = none
  z_sum : mg "sum" = none
  z_repr : mg "repr" = none
  v_MOST_INDEX : V
  c_MOST_INDEX : Cst K mg "MOST_INDEX" v_MOST_INDEX cst_MOST_INDEX
  v_MOST_CELL : V
  c_MOST_CELL : Cst K mg "MOST_CELL" v_MOST_CELL cst_MOST_CELL
  v_ROUNDINGS : V
  c_ROUNDINGS : Cst K mg "ROUNDINGS" v_ROUNDINGS cst_ROUNDINGS
  a_FORMS : Addr
  e_FORMS : Array DictEntry
  n_FORMS : Nat
  c_FORMS : KD K w mg "FORMS" a_FORMS e_FORMS n_FORMS cst_FORMS
  v_MOST_ROWS : V
  c_MOST_ROWS : Cst K mg "MOST_ROWS" v_MOST_ROWS cst_MOST_ROWS
  v_SETTING : V
  c_SETTING : Cst K mg "SETTING" v_SETTING cst_SETTING
  v_JUMPING : V
  c_JUMPING : Cst K mg "JUMPING" v_JUMPING cst_JUMPING
  v_RECKONING : V
  c_RECKONING : Cst K mg "RECKONING" v_RECKONING cst_RECKONING
end K18.L17
namespace K18.L17
open PySem PySem.Spec PyProof.Rows L2 BK
open DL hiding g_is_between tb_is_between rd_is_between
section
variable {P : Program} {w : World} {K : PySem.W.Frag} {mg : Str → Option Value} {base : Heap}
theorem kp_folded_0 {w : World} {K : PySem.W.Frag} {mg : Str → Option Value} (T : Tx w K mg) : KPerm K T.fd_folded P_folded ["rows"] [0] := by
  obtain ⟨oc, od, kV, doc, pm, an, cdv, ct, osl, e, lk, hcd⟩ := T.d_folded.F.ex
  refine ⟨fun s ws _ hl => ?_, rfl, by decide⟩
  match ws, hl with
  | [w0], _ => rw [e]; exact .of_eq rfl
theorem ok_is_integer (T : Tx w K mg) : FnOk P w K mg base CX0 1 T.a_is_integer T.fd_is_integer P_is_integer (spP K 1 g_is_integer) := by
  exact dfun T.d_is_integer.F sc_is_integer (tb := tb_is_integer) (fun cdv A outer s H E hr => ⟨_, (dss_one (ds_ret (do_and (do_isi (n := "int") (by decide +kernel) (by rfl) T.z_isinstance (by rfl) T.z_int (by decide +kernel) (by decide) (by decide) (dv 0)) (do_one (do_not (do_isi (n := "bool") (by decide +kernel) (by rfl) T.z_isinstance (by rfl) T.z_bool (by decide +kernel) (by decide) (by decide) (dv 0)))))))⟩) (rd_is_integer)
theorem ok_is_between (T : Tx w K mg) : FnOk P w K mg base CX0 2 T.a_is_between T.fd_is_between P_is_between (spP K 3 g_is_between) := by
  have G_is_integer := ok_is_integer (P := P) (base := base) T
  exact dfun T.d_is_between.F sc_is_between (tb := tb_is_between) (fun cdv A outer s H E hr => ⟨_, (dss_one (ds_ret (do_and (do_call G_is_integer (hr.mono (by decide)) (by rfl) T.d_is_integer.m T.d_is_integer.F.kp T.d_is_integer.b (da_cons (dv 1) da_nil)) (do_one (do_chain op_leA rok_le op_leA rok_le (dv 0) (dv 1) (dv 2))))))⟩) (rd_is_between)
theorem ok_is_word (T : Tx w K mg) : FnOk P w K mg base CX0 1 T.a_is_word T.fd_is_word P_is_word (spP K 1 g_is_word) := by
  exact dfun T.d_is_word.F sc_is_word (tb := tb_is_word) (fun cdv A outer s H E hr => ⟨_, (dss_one (ds_ret (do_and (do_isi (n := "str") (by decide +kernel) (by rfl) T.z_isinstance (by rfl) T.z_str (by decide +kernel) (by decide) (by decide) (dv 0)) (do_and (do_chain op_leA rok_le op_leA rok_le do_int (do_B call_lenA cok_len (by rfl) T.z_len (by decide +kernel) (da_cons (dv 0) da_nil)) do_int) (do_one (do_B (cr_all rfl) cok_all (by rfl) T.z_all (by decide +kernel) (da_cons (do_comp (own := [("sign", 1)]) sc_is_word.nd (di_seq (dv 0)) (blkOk_by (own := [("sign", 1)]) (N := N_is_word) (sc := defScope s_is_word) (by first | decide +kernel | rfl)) (fun _ _ _ _ _ => (dg_nm (i := 1) sc_is_word.nd)) (fun _ _ _ _ _ => ⟨_, dcs_nil⟩) (fun _ _ _ _ _ => ⟨_, (do_chain op_leA rok_le op_leA rok_le do_str (dv 1) do_str)⟩) (by decide) (by rfl) (by intro _; rfl)) da_nil)))))))⟩) (rd_is_word)
theorem ok_divided (T : Tx w K mg) : FnOk P w K mg base CX0 1 T.a_divided T.fd_divided P_divided (spP K 3 g_divided) := by
  exact dfun T.d_divided.F sc_divided (tb := tb_divided) (fun cdv A outer s H E hr => ⟨_, (dss_cons (ds_if (db_cmp (op_eqA hr.units) rok_eq (dv 2) do_str) (dss_one (ds_ret (do_bin op_fdivO rok_fdiv (dv 0) (dv 1)))) dss_nil)
      (dss_one (ds_ret (do_ifx (db_cmp (op_eqA hr.units) rok_eq (dv 2) do_str) (do_un un_neg uok_neg (do_bin op_fdivO rok_fdiv (do_un un_neg uok_neg (dv 0)) (dv 1))) (do_bin op_fdivO rok_fdiv (do_bin op_addA rok_add (do_bin op_mulA rok_mulA do_int (dv 0)) (dv 1)) (do_bin op_mulA rok_mulA do_int (dv 1)))))))⟩) (rd_divided)
theorem ok_is_member (T : Tx w K mg) : FnOk P w K mg base CX0 3 T.a_is_member T.fd_is_member P_is_member (spP K 4 g_is_member) := by
  have G_is_between := ok_is_between (P := P) (base := base) T
  have G_is_word := ok_is_word (P := P) (base := base) T
  have G_is_integer := ok_is_integer (P := P) (base := base) T
  exact dfun T.d_is_member.F sc_is_member (tb := tb_is_member) (fun cdv A outer s H E hr => ⟨_, (dss_cons (ds_if (db_cmp (op_eqA hr.units) rok_eq (dv 0) do_str) (dss_one (ds_ret (do_call G_is_integer (hr.mono (by decide)) (by rfl) T.d_is_integer.m T.d_is_integer.F.kp T.d_is_integer.b (da_cons (dv 1) da_nil)))) dss_nil)
      (dss_cons (ds_if (db_cmp op_inA rok_in (dv 0) do_str) (dss_one (ds_ret (do_and (do_isi (n := "str") (by decide +kernel) (by rfl) T.z_isinstance (by rfl) T.z_str (by decide +kernel) (by decide) (by decide) (dv 1)) (do_one (do_cmp op_inA rok_in (dv 1) (do_ifx (db_cmp (op_eqA hr.units) rok_eq (dv 0) do_str) (do_cst (by rfl) T.c_ROUNDINGS) (do_tup (da_cons do_str (da_cons do_str da_nil))))))))) dss_nil)
      (dss_cons (ds_if (db_cmp (op_eqA hr.units) rok_eq (dv 0) do_str) (dss_one (ds_ret (do_call G_is_word (hr.mono (by decide)) (by rfl) T.d_is_word.m T.d_is_word.F.kp T.d_is_word.b (da_cons (dv 1) da_nil)))) dss_nil)
      (dss_cons (ds_set (i := 4) sc_is_member.nd (do_disp (dq_cons do_str (do_tup (da_cons do_int (da_cons (do_cst (by rfl) T.c_MOST_CELL) da_nil))) (dq_cons do_str (do_tup (da_cons do_int (da_cons (do_cst (by rfl) T.c_MOST_INDEX) da_nil))) (dq_cons do_str (do_tup (da_cons (do_un un_neg uok_neg do_int) (da_cons do_int da_nil))) (dq_cons do_str (do_tup (da_cons do_int (da_cons do_int da_nil))) (dq_cons do_str (do_tup (da_cons do_int (da_cons do_int da_nil))) dq_nil)))))))
      (dss_cons (ds_unp (do_kget2 hr.units (pv 4) (dv 0) (do_tup (da_cons (do_bin op_addA rok_add (dv 2) do_int) (da_cons (dv 3) da_nil))) ⟨by rfl, by rfl, by rfl, by rfl⟩) (dg_tup (dgs_cons (dg_nm (i := 5) sc_is_member.nd) (dgs_cons (dg_nm (i := 6) sc_is_member.nd) dgs_nil))))
      (dss_one (ds_ret (do_call G_is_between (hr.mono (by decide)) (by rfl) T.d_is_between.m T.d_is_between.F.kp T.d_is_between.b (da_cons (dv 5) (da_cons (dv 1) (da_cons (dv 6) da_nil)))))))))))⟩) (rd_is_member)
theorem ok_is_row (T : Tx w K mg) : FnOk P w K mg base CX0 4 T.a_is_row T.fd_is_row P_is_row (spP K 3 g_is_row) := by
  have G_is_member := ok_is_member (P := P) (base := base) T
  exact dfun T.d_is_row.F sc_is_row (tb := tb_is_row) (fun cdv A outer s H E hr => ⟨_, (dss_cons (ds_if (DW.db (dw_or (db_not (db_val (do_isi (n := "tuple") (by decide +kernel) (by rfl) T.z_isinstance (by rfl) T.z_tuple (by decide +kernel) (by decide) (by decide) (dv 0)))) (dw_or (db_cmp (op_eqA hr.units) rok_eq (dv 0) (do_tup da_nil)) (dw_or1 (db_not (db_val (do_isi (n := "str") (by decide +kernel) (by rfl) T.z_isinstance (by rfl) T.z_str (by decide +kernel) (by decide) (by decide) (do_ix (dv 0) do_int)))))))) (dss_one (ds_ret do_bl)) dss_nil)
      (dss_cons (ds_set (i := 3) sc_is_row.nd (do_kget1 T.c_FORMS (by rfl) (do_ix (dv 0) do_int) ⟨by rfl, by rfl, by rfl, by rfl⟩))
      (dss_cons (ds_if (DW.db (dw_or (db_cmp op_isN rok_isN (dv 3) do_non) (dw_or1 (db_cmp (op_neA hr.units) rok_ne (do_B call_lenA cok_len (by rfl) T.z_len (by decide +kernel) (da_cons (dv 0) da_nil)) (do_bin op_addA rok_add (do_B call_lenA cok_len (by rfl) T.z_len (by decide +kernel) (da_cons (dv 3) da_nil)) do_int))))) (dss_one (ds_ret do_bl)) dss_nil)
      (dss_one (ds_ret (do_B (cr_all rfl) cok_all (by rfl) T.z_all (by decide +kernel) (da_cons (do_compG (own := [("sort", 4), ("one", 5)]) sc_is_row.nd (di_zipG' (by rfl) T.z_zip (dv 3) (do_sl (dv 0) (dp_some do_int) dp_none)) (blkOk_by (own := [("sort", 4), ("one", 5)]) (N := N_is_row) (sc := defScope s_is_row) (by first | decide +kernel | rfl)) [4, 5] (fun _ _ _ _ _ => ⟨_, (dg_tup (dgs_cons (dg_nm (i := 4) sc_is_row.nd) (dgs_cons (dg_nm (i := 5) sc_is_row.nd) dgs_nil)))⟩) (fun _ _ _ _ _ => ⟨_, dcs_nil⟩) (fun _ _ _ _ _ => ⟨_, (do_call G_is_member (hr.mono (by decide)) (by rfl) T.d_is_member.m T.d_is_member.F.kp T.d_is_member.b (da_cons (dv 4) (da_cons (dv 5) (da_cons (dv 1) (da_cons (dv 2) da_nil)))))⟩) (by decide) (by rfl) (by intro _; rfl)) da_nil)))))))⟩) (rd_is_row)
theorem ok_is_rows (T : Tx w K mg) : FnOk P w K mg base CX0 5 T.a_is_rows T.fd_is_rows P_is_rows (spP K 1 g_is_rows) := by
  have G_is_row := ok_is_row (P := P) (base := base) T
  exact dfun T.d_is_rows.F sc_is_rows (tb := tb_is_rows) (fun cdv A outer s H E hr => ⟨_, (dss_cons (ds_if (DW.db (dw_or (db_not (db_val (do_isi (n := "tuple") (by decide +kernel) (by rfl) T.z_isinstance (by rfl) T.z_tuple (by decide +kernel) (by decide) (by decide) (dv 0)))) (dw_or1 (db_cmp op_gt rok_rel (do_B call_lenA cok_len (by rfl) T.z_len (by decide +kernel) (da_cons (dv 0) da_nil)) (do_cst (by rfl) T.c_MOST_ROWS))))) (dss_one (ds_ret do_bl)) dss_nil)
      (dss_one (ds_ret (do_B (cr_all rfl) cok_all (by rfl) T.z_all (by decide +kernel) (da_cons (do_compG (own := [("k", 1), ("row", 2)]) sc_is_rows.nd (di_enum' (by rfl) T.z_enumerate (dv 0)) (blkOk_by (own := [("k", 1), ("row", 2)]) (N := N_is_rows) (sc := defScope s_is_rows) (by first | decide +kernel | rfl)) [1, 2] (fun _ _ _ _ _ => ⟨_, (dg_tup (dgs_cons (dg_nm (i := 1) sc_is_rows.nd) (dgs_cons (dg_nm (i := 2) sc_is_rows.nd) dgs_nil)))⟩) (fun _ _ _ _ _ => ⟨_, dcs_nil⟩) (fun _ _ _ _ _ => ⟨_, (do_call G_is_row (hr.mono (by decide)) (by rfl) T.d_is_row.m T.d_is_row.F.kp T.d_is_row.b (da_cons (dv 2) (da_cons (dv 1) (da_cons (do_B call_lenA cok_len (by rfl) T.z_len (by decide +kernel) (da_cons (dv 0) da_nil)) da_nil))))⟩) (by decide) (by rfl) (by intro _; rfl)) da_nil)))))⟩) (rd_is_rows)
theorem ok_check_rows (T : Tx w K mg) : FnOk P w K mg base CX0 6 T.a_check_rows T.fd_check_rows P_check_rows (spP K 1 g_check_rows) := by
  have G_is_rows := ok_is_rows (P := P) (base := base) T
  exact dfun T.d_check_rows.F sc_check_rows (tb := tb_check_rows) (fun cdv A outer s H E hr => ⟨_, (dss_one (ds_if (db_not (db_val (do_call G_is_rows (hr.mono (by decide)) (by rfl) T.d_is_rows.m T.d_is_rows.F.kp T.d_is_rows.b (da_cons (dv 0) da_nil)))) (dss_one ds_never) dss_nil))⟩) (rd_check_rows)
theorem ok_read_cells (T : Tx w K mg) : FnOk P w K mg base CX0 1 T.a_read_cells T.fd_read_cells P_read_cells (spP K 1 g_read_cells) := by
  exact dfun T.d_read_cells.F sc_read_cells (tb := tb_read_cells) (fun cdv A outer s H E hr => ⟨_, (dss_cons (ds_set (i := 1) sc_read_cells.nd (do_kix T.c_FORMS (by rfl) (do_ix (dv 0) do_int)))
      (dss_cons (ds_setcG (i := 2) (own := [("sort", 3), ("value", 4)]) sc_read_cells.nd (di_zipG' (by rfl) T.z_zip (dv 1) (do_sl (dv 0) (dp_some do_int) dp_none)) (blkOk_by (own := [("sort", 3), ("value", 4)]) (N := N_read_cells) (sc := defScope s_read_cells) (by first | decide +kernel | rfl)) [3, 4] (fun _ _ _ _ _ => ⟨_, (dg_tup (dgs_cons (dg_nm (i := 3) sc_read_cells.nd) (dgs_cons (dg_nm (i := 4) sc_read_cells.nd) dgs_nil)))⟩) (fun _ _ _ _ _ => ⟨_, (dcs_one (db_cmp (op_eqA hr.units) rok_eq (dv 3) do_str))⟩) (fun _ _ _ _ _ => ⟨_, (dv 4)⟩) (sw_true rfl rfl rfl (by decide +kernel)) (by rfl) (by rfl) (by decide) (by rfl) (by intro _; rfl))
      (dss_one (ds_ret (do_ifx (db_cmp op_inA rok_in (do_ix (dv 0) do_int) (do_cst (by rfl) T.c_SETTING)) (do_sl (dv 2) (dp_some do_int) dp_none) (dv 2))))))⟩) (rd_read_cells)
theorem ok_reckoned (T : Tx w K mg) : FnOk P w K mg base CX0 2 T.a_reckoned T.fd_reckoned P_reckoned (spP K 2 g_reckoned) := by
  have G_divided := ok_divided (P := P) (base := base) T
  exact dfun T.d_reckoned.F sc_reckoned (tb := tb_reckoned) (fun cdv A outer s H E hr => ⟨_, (dss_cons (ds_set (i := 2) sc_reckoned.nd (do_ix (dv 0) do_int))
      (dss_cons (ds_if (db_cmp (op_eqA hr.units) rok_eq (dv 2) do_str) (dss_one (ds_ret (do_ix (dv 1) do_int))) dss_nil)
      (dss_cons (ds_if (db_cmp (op_eqA hr.units) rok_eq (dv 2) do_str) (dss_one (ds_ret (do_bin op_mulA rok_mulA (do_ix (dv 0) do_int) (do_ix (dv 1) do_int)))) dss_nil)
      (dss_cons (ds_if (db_cmp (op_eqA hr.units) rok_eq (dv 2) do_str) (dss_one (ds_ret (do_call G_divided (hr.mono (by decide)) (by rfl) T.d_divided.m T.d_divided.F.kp T.d_divided.b (da_cons (do_bin op_mulA rok_mulA (do_ix (dv 1) do_int) (do_ix (dv 0) do_int)) (da_cons (do_ix (dv 0) do_int) (da_cons (do_ix (dv 0) do_int) da_nil)))))) dss_nil)
      (dss_cons (ds_unp (dv 1) (dg_tup (dgs_cons (dg_nm (i := 3) sc_reckoned.nd) (dgs_cons (dg_nm (i := 4) sc_reckoned.nd) dgs_nil))))
      (dss_cons (ds_if (DW.db (dw_or (db_cmp (op_eqA hr.units) rok_eq (dv 2) do_str) (dw_or1 (db_cmp (op_eqA hr.units) rok_eq (dv 2) do_str)))) (dss_one (ds_ret (do_ifx (db_cmp (op_eqA hr.units) rok_eq (dv 2) do_str) (do_bin op_addA rok_add (dv 3) (dv 4)) (do_bin op_sub rok_sub (dv 3) (dv 4))))) dss_nil)
      (dss_cons (ds_if (DW.db (dw_or (db_cmp (op_eqA hr.units) rok_eq (dv 2) do_str) (dw_or1 (db_cmp (op_eqA hr.units) rok_eq (dv 2) do_str)))) (dss_one (ds_ret (do_ifx (db_cmp (op_eqA hr.units) rok_eq (dv 2) do_str) (do_Ty call_int1 cok_int (by rfl) T.z_int (by decide +kernel) (da_cons (do_cmp op_ltA rok_lt (dv 3) (dv 4)) da_nil)) (do_Ty call_int1 cok_int (by rfl) T.z_int (by decide +kernel) (da_cons (do_cmp (op_eqA hr.units) rok_eq (dv 3) (dv 4)) da_nil))))) dss_nil)
      (dss_one (ds_ret (do_ifx (db_cmp (op_eqA hr.units) rok_eq (dv 2) do_str) (do_B (call_min2 rfl) cok_min (by rfl) T.z_min (by decide +kernel) (da_cons (dv 3) (da_cons (dv 4) da_nil))) (do_B (call_max2 rfl) cok_max (by rfl) T.z_max (by decide +kernel) (da_cons (dv 3) (da_cons (dv 4) da_nil)))))))))))))⟩) (rd_reckoned)
theorem ok_goal_of (T : Tx w K mg) : FnOk P w K mg base CX0 1 T.a_goal_of T.fd_goal_of P_goal_of (spP K 1 g_goal_of) := by
  exact dfun T.d_goal_of.F sc_goal_of (tb := tb_goal_of) (fun cdv A outer s H E hr => ⟨_, (dss_one (ds_ret (do_ifx (db_cmp op_inA rok_in (do_ix (dv 0) do_int) (do_cst (by rfl) T.c_JUMPING)) (do_ix (dv 0) (do_bin op_sub rok_sub (do_B call_lenA cok_len (by rfl) T.z_len (by decide +kernel) (da_cons (dv 0) da_nil)) do_int)) do_non)))⟩) (rd_goal_of)
theorem ok_ways_of (T : Tx w K mg) : FnOk P w K mg base CX0 2 T.a_ways_of T.fd_ways_of P_ways_of (spP K 2 g_ways_of) := by
  have G_goal_of := ok_goal_of (P := P) (base := base) T
  exact dfun T.d_ways_of.F sc_ways_of (tb := tb_ways_of) (fun cdv A outer s H E hr => ⟨_, (dss_cons (ds_set (i := 2) sc_ways_of.nd (do_call G_goal_of (hr.mono (by decide)) (by rfl) T.d_goal_of.m T.d_goal_of.F.kp T.d_goal_of.b (da_cons (dv 0) da_nil)))
      (dss_cons (ds_if (db_cmp (op_eqA hr.units) rok_eq (do_ix (dv 0) do_int) do_str) (dss_one (ds_ret (do_lst (da_cons (dv 2) da_nil)))) dss_nil)
      (dss_one (ds_ret (do_ifx (db_cmp op_isN rok_isN (dv 2) do_non) (do_lst (da_cons (do_bin op_addA rok_add (dv 1) do_int) da_nil)) (do_lst (da_cons (do_bin op_addA rok_add (dv 1) do_int) (da_cons (dv 2) da_nil))))))))⟩) (rd_ways_of)
theorem ok_met_cells (T : Tx w K mg) : FnOk P w K mg base CX0 1 T.a_met_cells T.fd_met_cells P_met_cells (spP K 2 g_met_cells) := by
  exact dfun T.d_met_cells.F sc_met_cells (tb := tb_met_cells) (fun cdv A outer s H E hr => ⟨_, (dss_cons (ds_if (db_cmp op_isN rok_isN (dv 0) do_non) (dss_one (ds_ret (dv 1))) dss_nil)
      (dss_one (ds_ret (do_fz (do_dictP (by rfl) (by rfl) T.z_dict (do_comp (own := [("cell", 2)]) sc_met_cells.nd (di_dk (dv 0)) (blkOk_by (own := [("cell", 2)]) (N := N_met_cells) (sc := defScope s_met_cells) (by first | decide +kernel | rfl)) (fun _ _ _ _ _ => (dg_nm (i := 2) sc_met_cells.nd)) (fun _ _ _ _ _ => ⟨_, (dcs_one (DW.db (dw_and (db_ddin hr.units (dv 2) (dv 1)) (dw_and1 (db_cmp (op_eqA hr.units) rok_eq (do_ddix hr.units (dv 1) (dv 2)) (do_ddix hr.units (dv 0) (dv 2)))))))⟩) (fun _ _ _ _ _ => ⟨_, (do_tup (da_cons (dv 2) (da_cons (do_ddix hr.units (dv 0) (dv 2)) da_nil)))⟩) (by decide) (by rfl) (by intro _; rfl)))))))⟩) (rd_met_cells)
theorem ok_cells_behind (T : Tx w K mg) : FnOk P w K mg base CX0 3 T.a_cells_behind T.fd_cells_behind P_cells_behind (spP K 2 g_cells_behind) := by
  have G_reckoned := ok_reckoned (P := P) (base := base) T
  have G_read_cells := ok_read_cells (P := P) (base := base) T
  exact dfun T.d_cells_behind.F sc_cells_behind (tb := tb_cells_behind) (fun cdv A outer s H E hr => ⟨_, (dss_cons (ds_if (db_cmp op_notInA rok_in (do_ix (dv 0) do_int) (do_cst (by rfl) T.c_SETTING)) (dss_one (ds_ret (dv 1))) dss_nil)
      (dss_cons (ds_set (i := 2) sc_cells_behind.nd (do_dictP (by rfl) (by rfl) T.z_dict (do_comp (own := [("cell", 4)]) sc_cells_behind.nd (di_dk (dv 1)) (blkOk_by (own := [("cell", 4)]) (N := N_cells_behind) (sc := defScope s_cells_behind) (by first | decide +kernel | rfl)) (fun _ _ _ _ _ => (dg_nm (i := 4) sc_cells_behind.nd)) (fun _ _ _ _ _ => ⟨_, (dcs_one (db_cmp (op_neA hr.units) rok_ne (dv 4) (do_ix (dv 0) do_int)))⟩) (fun _ _ _ _ _ => ⟨_, (do_tup (da_cons (dv 4) (da_cons (do_ddix hr.units (dv 1) (dv 4)) da_nil)))⟩) (by decide) (by rfl) (by intro _; rfl))))
      (dss_cons (ds_if (db_cmp (op_eqA hr.units) rok_eq (do_ix (dv 0) do_int) do_str) (dss_one (ds_kput hr.units (pv 2) (do_ix (dv 0) do_int) (do_ix (dv 0) do_int))) dss_nil)
      (dss_cons (ds_setc (i := 3) (own := [("cell", 4)]) sc_cells_behind.nd (di_seq (do_call G_read_cells (hr.mono (by decide)) (by rfl) T.d_read_cells.m T.d_read_cells.F.kp T.d_read_cells.b (da_cons (dv 0) da_nil))) (blkOk_by (own := [("cell", 4)]) (N := N_cells_behind) (sc := defScope s_cells_behind) (by first | decide +kernel | rfl)) (fun _ _ _ _ _ => (dg_nm (i := 4) sc_cells_behind.nd)) (fun _ _ _ _ _ => ⟨_, dcs_nil⟩) (fun _ _ _ _ _ => ⟨_, (do_ddget hr.units (pv 1) (dv 4) ⟨by rfl, by rfl, by rfl, by rfl⟩)⟩) (sw_true rfl rfl rfl (by decide +kernel)) (by rfl) (by rfl) (by decide) (by rfl) (by intro _; rfl))
      (dss_cons (ds_if (DW.db (dw_and (db_cmp op_inA rok_in (do_ix (dv 0) do_int) (do_cst (by rfl) T.c_RECKONING)) (dw_and1 (db_cmp op_notInA rok_in do_non (dv 3))))) (dss_one (ds_kput hr.units (pv 2) (do_ix (dv 0) do_int) (do_call G_reckoned (hr.mono (by decide)) (by rfl) T.d_reckoned.m T.d_reckoned.F.kp T.d_reckoned.b (da_cons (dv 0) (da_cons (dv 3) da_nil))))) dss_nil)
      (dss_one (ds_ret (do_fzV (pv 2)))))))))⟩) (rd_cells_behind)
theorem ok_folded_row (T : Tx w K mg) : FnOk P w K mg base CX0 1 T.a_folded_row T.fd_folded_row P_folded_row (spP K 4 g_folded_row) := by
  exact dfun T.d_folded_row.F sc_folded_row (tb := tb_folded_row) (fun cdv A outer s H E hr => ⟨_, (dss_cons (ds_if (DW.db (dw_and (db_cmp op_inA rok_in (do_ix (dv 0) do_int) (do_cst (by rfl) T.c_RECKONING)) (dw_and1 (db_ddin hr.units (do_ix (dv 0) do_int) (dv 3))))) (dss_one (ds_ret (do_tup (da_cons do_str (da_cons (do_ix (dv 0) do_int) (da_cons (do_ddix hr.units (dv 3) (do_ix (dv 0) do_int)) da_nil)))))) dss_nil)
      (dss_cons (ds_if (DW.db (dw_and (db_cmp (op_eqA hr.units) rok_eq (do_ix (dv 0) do_int) do_str) (dw_and1 (db_ddin hr.units (do_ix (dv 0) do_int) (dv 2))))) (dss_one (ds_ret (do_tup (da_cons do_str (da_cons (do_ifx (db_cmp (op_neA hr.units) rok_ne (do_ddix hr.units (dv 2) (do_ix (dv 0) do_int)) do_int) (do_ix (dv 0) do_int) (do_bin op_addA rok_add (dv 1) do_int)) da_nil))))) dss_nil)
      (dss_one (ds_ret (dv 0)))))⟩) (rd_folded_row)
theorem ok_cells_in (T : Tx w K mg) : FnOk P w K mg base CX0 1 T.a_cells_in T.fd_cells_in P_cells_in (spP K 1 g_cells_in) := by
  exact dfun T.d_cells_in.F sc_cells_in (tb := tb_cells_in) (fun cdv A outer s H E hr => ⟨_, (dss_cons (ds_set (i := 1) sc_cells_in.nd do_dnew)
      (dss_cons (ds_for PassesOwn.never (di_seq (dv 0)) (dg_nm (i := 2) sc_cells_in.nd) (dss_one (ds_for PassesOwn.never (di_zipG' (by rfl) T.z_zip (do_kix T.c_FORMS (by rfl) (do_ix (dv 2) do_int)) (do_sl (dv 2) (dp_some do_int) dp_none)) (dg_tup (dgs_cons (dg_nm (i := 3) sc_cells_in.nd) (dgs_cons (dg_nm (i := 4) sc_cells_in.nd) dgs_nil))) (dss_one (ds_if (db_cmp (op_eqA hr.units) rok_eq (dv 3) do_str) (dss_one (ds_dputI hr.units (pv 1) (dv 4) do_bl)) dss_nil)))))
      (dss_one (ds_ret (do_sortD (pe_callB (call_sortedDI (by rfl)) (by rfl) T.z_sorted (by decide +kernel) (pa_cons (pv 1) pa_nil)))))))⟩) (rd_cells_in)
theorem ok_folded_rows (T : Tx w K mg) : FnOk P w K mg base CX0 4 T.a_folded_rows T.fd_folded_rows P_folded_rows (spP K 1 g_folded_rows) := by
  have G_ways_of := ok_ways_of (P := P) (base := base) T
  have G_met_cells := ok_met_cells (P := P) (base := base) T
  have G_folded_row := ok_folded_row (P := P) (base := base) T
  have G_cells_behind := ok_cells_behind (P := P) (base := base) T
  have G_cells_in := ok_cells_in (P := P) (base := base) T
  exact dfun T.d_folded_rows.F sc_folded_rows (tb := tb_folded_rows) (fun cdv A outer s H E hr => ⟨_, (dss_cons (ds_par (i := 1) (j := 2) sc_folded_rows.nd (do_disp (dq_cons do_int (do_fz (do_dictP (by rfl) (by rfl) T.z_dict (do_comp (own := [("cell", 7)]) sc_folded_rows.nd (di_seq (do_call G_cells_in (hr.mono (by decide)) (by rfl) T.d_cells_in.m T.d_cells_in.F.kp T.d_cells_in.b (da_cons (dv 0) da_nil))) (blkOk_by (own := [("cell", 7)]) (N := N_folded_rows) (sc := defScope s_folded_rows) (by first | decide +kernel | rfl)) (fun _ _ _ _ _ => (dg_nm (i := 7) sc_folded_rows.nd)) (fun _ _ _ _ _ => ⟨_, dcs_nil⟩) (fun _ _ _ _ _ => ⟨_, (do_tup (da_cons (dv 7) (da_cons do_int da_nil)))⟩) (by decide) (by rfl) (by intro _; rfl)))) dq_nil)) (do_lst da_nil))
      (dss_cons (ds_for PassesOwn.never (di_enum' (by rfl) T.z_enumerate (dv 0)) (dg_tup (dgs_cons (dg_nm (i := 3) sc_folded_rows.nd) (dgs_cons (dg_nm (i := 4) sc_folded_rows.nd) dgs_nil))) (dss_cons (ds_if (db_kninD hr.units (dv 3) (pv 1)) (dss_cons (ds_app (i := 2) (dv 4))
      (dss_one ds_continue)) dss_nil)
      (dss_cons (ds_set (i := 5) sc_folded_rows.nd (do_call G_cells_behind (hr.mono (by decide)) (by rfl) T.d_cells_behind.m T.d_cells_behind.F.kp T.d_cells_behind.b (da_cons (dv 4) (da_cons (do_kget hr.units (pv 1) (dv 3)) da_nil))))
      (dss_cons (ds_app (i := 2) (do_call G_folded_row (hr.mono (by decide)) (by rfl) T.d_folded_row.m T.d_folded_row.F.kp T.d_folded_row.b (da_cons (dv 4) (da_cons (dv 3) (da_cons (do_kget hr.units (pv 1) (dv 3)) (da_cons (dv 5) da_nil))))))
      (dss_one (ds_for PassesOwn.never (di_seq (do_call G_ways_of (hr.mono (by decide)) (by rfl) T.d_ways_of.m T.d_ways_of.F.kp T.d_ways_of.b (da_cons (do_ix (dv 2) (dv 3)) (da_cons (dv 3) da_nil)))) (dg_nm (i := 6) sc_folded_rows.nd) (dss_one (ds_kput hr.units (pv 1) (dv 6) (do_call G_met_cells (hr.mono (by decide)) (by rfl) T.d_met_cells.m T.d_met_cells.F.kp T.d_met_cells.b (da_cons (do_kgetS hr.units (pv 1) (dv 6) ⟨by rfl, by rfl, by rfl, by rfl⟩) (da_cons (dv 5) da_nil)))))))))))
      (dss_one (ds_ret (do_Ty call_tuple_of cok_tuple (by rfl) T.z_tuple (by decide +kernel) (da_cons (dv 2) da_nil))))))⟩) (rd_folded_rows)
theorem ok_folded (T : Tx w K mg) : FnOk P w K mg base CX0 7 T.a_folded T.fd_folded P_folded (spP K 1 g_folded) := by
  have G_folded_rows := ok_folded_rows (P := P) (base := base) T
  have G_check_rows := ok_check_rows (P := P) (base := base) T
  exact dfun T.d_folded.F sc_folded (tb := tb_folded) (fun cdv A outer s H E hr => ⟨_, (dss_cons (ds_expr (do_call G_check_rows (hr.mono (by decide)) (by rfl) T.d_check_rows.m T.d_check_rows.F.kp T.d_check_rows.b (da_cons (dv 0) da_nil)))
      (dss_one (ds_ret (do_call G_folded_rows (hr.mono (by decide)) (by rfl) T.d_folded_rows.m T.d_folded_rows.F.kp T.d_folded_rows.b (da_cons (dv 0) da_nil)))))⟩) (rd_folded)
theorem ok__law_well (T : Tx w K mg) : FnOk P w K mg base CX0 1 T.a__law_well T.fd__law_well P__law_well (spP K 1 g__law_well) := by
  exact dfun T.d__law_well.F sc__law_well (tb := tb__law_well) (fun cdv A outer s H E hr => ⟨_, (dss_cons (ds_set (i := 0) sc__law_well.nd (do_Ty call_int1 cok_int (by rfl) T.z_int (by decide +kernel) (da_cons (dv 0) da_nil)))
      (dss_one (ds_ret (do_ints (da_cons (do_ifx (db_cmp op_ge rok_rel (dv 0) (do_bin op_pow rok_pow do_int do_int)) (do_bin op_sub rok_sub (dv 0) (do_bin op_pow rok_pow do_int do_int)) do_int) (da_cons (do_bin op_addA rok_add (do_bin op_modN rok_mod (dv 0) do_int) do_int) (da_cons do_int da_nil)))))))⟩) (rd__law_well)
theorem ok__law_dip (T : Tx w K mg) : FnOk P w K mg base CX0 1 T.a__law_dip T.fd__law_dip P__law_dip (spW K 1 g__law_dip) := by
  exact dfunW T.d__law_dip.F sc__law_dip rfl (tb := tb__law_dip) (fun cdv A outer s H E hr => ⟨_, (dss_cons (ds_if (db_cmp op_gt rok_rel (do_intsIx (k := 0) (pe_ix ix_list (pv 0) pe_int (fun _ _ => rfl))) do_int) (dss_cons (ds_set (i := 2) sc__law_dip.nd (do_bin op_modN rok_mod (do_Ty call_int1 cok_int (by rfl) T.z_int (by decide +kernel) (da_cons (do_intsIx (k := 0) (pe_ix ix_list (pv 0) pe_int (fun _ _ => rfl))) da_nil)) (dv 1)))
      (dss_cons (ds_ints (k := 0) (do_bin op_fdivO rok_fdiv (do_Ty call_int1 cok_int (by rfl) T.z_int (by decide +kernel) (da_cons (do_intsIx (k := 0) (pe_ix ix_list (pv 0) pe_int (fun _ _ => rfl))) da_nil)) (dv 1)) (pg_sub (pv 0) pe_int set_list))
      (dss_one (ds_ret (dv 2))))) dss_nil)
      (dss_cons (ds_ints (k := 2) (do_bin op_addA rok_add (do_intsIx (k := 2) (pe_ix ix_list (pv 0) pe_int (fun _ _ => rfl))) do_int) (pg_sub (pv 0) pe_int set_list))
      (dss_cons (ds_ints (k := 1) (do_bin op_modN rok_mod (do_Ty call_int1 cok_int (by rfl) T.z_int (by decide +kernel) (da_cons (do_bin op_addA rok_add (do_bin op_addA rok_add (do_bin op_mulA rok_mulA (do_intsIx (k := 1) (pe_ix ix_list (pv 0) pe_int (fun _ _ => rfl))) do_int) (do_bin op_mulA rok_mulA (do_bin op_mulA rok_mulA (do_intsIx (k := 2) (pe_ix ix_list (pv 0) pe_int (fun _ _ => rfl))) (do_intsIx (k := 2) (pe_ix ix_list (pv 0) pe_int (fun _ _ => rfl)))) do_int)) do_int) da_nil)) do_int) (pg_sub (pv 0) pe_int set_list))
      (dss_one (ds_ret (do_bin op_modN rok_mod (do_bin op_fdivO rok_fdiv (do_bin op_modN rok_mod (do_Ty call_int1 cok_int (by rfl) T.z_int (by decide +kernel) (da_cons (do_bin op_mulA rok_mulA (do_intsIx (k := 1) (pe_ix ix_list (pv 0) pe_int (fun _ _ => rfl))) (do_intsIx (k := 1) (pe_ix ix_list (pv 0) pe_int (fun _ _ => rfl)))) da_nil)) do_int) do_int) (dv 1)))))))⟩) (rd__law_dip)
theorem ok__law_same_at (T : Tx w K mg) : ∀ n : Nat, FnOk P w K mg base CX0 (0 + n) T.a__law_same T.fd__law_same P__law_same (spP K 2 (gn__law_same n))
  | 0 => fnOk_none rfl (nz__law_same)
  | n + 1 => by
    have G__law_same := ok__law_same_at T n
    exact dfun T.d__law_same.F sc__law_same (tb := tb__law_same (gn__law_same n)) (fun cdv A outer s H E hr => ⟨_, (dss_cons (ds_if (db_cmp op_isN rok_isN (dv 1) do_non) (dss_one (ds_ret (do_cmp op_isN rok_isN (dv 0) do_non))) dss_nil)
      (dss_cons (ds_if (db_val (do_isi (n := "bool") (by decide +kernel) (by rfl) T.z_isinstance (by rfl) T.z_bool (by decide +kernel) (by decide) (by decide) (dv 1))) (dss_one (ds_ret (do_and (do_isi (n := "bool") (by decide +kernel) (by rfl) T.z_isinstance (by rfl) T.z_bool (by decide +kernel) (by decide) (by decide) (dv 0)) (do_one (do_cmp (op_eqA hr.units) rok_eq (dv 0) (dv 1)))))) dss_nil)
      (dss_cons (ds_if (db_val (do_isi (n := "int") (by decide +kernel) (by rfl) T.z_isinstance (by rfl) T.z_int (by decide +kernel) (by decide) (by decide) (dv 1))) (dss_one (ds_ret (do_and (do_isi (n := "int") (by decide +kernel) (by rfl) T.z_isinstance (by rfl) T.z_int (by decide +kernel) (by decide) (by decide) (dv 0)) (do_and (do_not (do_isi (n := "bool") (by decide +kernel) (by rfl) T.z_isinstance (by rfl) T.z_bool (by decide +kernel) (by decide) (by decide) (dv 0))) (do_one (do_cmp (op_eqA hr.units) rok_eq (dv 0) (dv 1))))))) dss_nil)
      (dss_cons (ds_if (db_val (do_isi (n := "str") (by decide +kernel) (by rfl) T.z_isinstance (by rfl) T.z_str (by decide +kernel) (by decide) (by decide) (dv 1))) (dss_one (ds_ret (do_and (do_isi (n := "str") (by decide +kernel) (by rfl) T.z_isinstance (by rfl) T.z_str (by decide +kernel) (by decide) (by decide) (dv 0)) (do_one (do_cmp (op_eqA hr.units) rok_eq (dv 0) (dv 1)))))) dss_nil)
      (dss_cons (ds_if (DW.db (dw_or (db_cmp (op_neA hr.units) rok_ne (do_isi (n := "list") (by decide +kernel) (by rfl) T.z_isinstance (by rfl) T.z_list (by decide +kernel) (by decide) (by decide) (dv 1)) (do_isi (n := "list") (by decide +kernel) (by rfl) T.z_isinstance (by rfl) T.z_list (by decide +kernel) (by decide) (by decide) (dv 0))) (dw_or1 (db_cmp (op_neA hr.units) rok_ne (do_isi (n := "tuple") (by decide +kernel) (by rfl) T.z_isinstance (by rfl) T.z_tuple (by decide +kernel) (by decide) (by decide) (dv 1)) (do_isi (n := "tuple") (by decide +kernel) (by rfl) T.z_isinstance (by rfl) T.z_tuple (by decide +kernel) (by decide) (by decide) (dv 0)))))) (dss_one (ds_ret do_bl)) dss_nil)
      (dss_one (ds_ret (do_and (do_cmp (op_eqA hr.units) rok_eq (do_B call_lenA cok_len (by rfl) T.z_len (by decide +kernel) (da_cons (dv 0) da_nil)) (do_B call_lenA cok_len (by rfl) T.z_len (by decide +kernel) (da_cons (dv 1) da_nil))) (do_one (do_B (cr_all rfl) cok_all (by rfl) T.z_all (by decide +kernel) (da_cons (do_comp (own := [("k", 2)]) sc__law_same.nd (di_r1 (by rfl) T.z_range (do_B call_lenA cok_len (by rfl) T.z_len (by decide +kernel) (da_cons (dv 1) da_nil))) (blkOk_by (own := [("k", 2)]) (N := N__law_same) (sc := defScope s__law_same) (by first | decide +kernel | rfl)) (fun _ _ _ _ _ => (dg_nm (i := 2) sc__law_same.nd)) (fun _ _ _ _ _ => ⟨_, dcs_nil⟩) (fun _ _ _ _ _ => ⟨_, (do_call G__law_same (hr.mono (by first | omega | (change _ ≤ _ + n; omega))) (by rfl) T.d__law_same.m T.d__law_same.F.kp T.d__law_same.b (da_cons (do_ix (dv 0) (dv 2)) (da_cons (do_ix (dv 1) (dv 2)) da_nil)))⟩) (by decide) (by rfl) (by intro _; rfl)) da_nil)))))))))))⟩) (rd__law_same n)
theorem ok__law_same (T : Tx w K mg) : FnOk P w K mg base CX0 4 T.a__law_same T.fd__law_same P__law_same (spP K 2 (gn__law_same 4)) := ok__law_same_at T 4
theorem ok__law_shared (T : Tx w K mg) : FnOk P w K mg base CX0 1 T.a__law_shared T.fd__law_shared P__law_shared (spP K 4 g__law_shared) := by
  exact dfun T.d__law_shared.F sc__law_shared (tb := tb__law_shared) (fun cdv A outer s H E hr => ⟨_, (dss_cons (ds_set (i := 4) sc__law_shared.nd (do_bin op_mulA rok_mulA (dv 0) (dv 1)))
      (dss_cons (ds_set (i := 5) sc__law_shared.nd (do_bin op_fdivO rok_fdiv (do_bin op_sub rok_sub (dv 4) (do_bin op_modN rok_mod (do_Ty call_int1 cok_int (by rfl) T.z_int (by decide +kernel) (da_cons (dv 4) da_nil)) (dv 2))) (dv 2)))
      (dss_cons (ds_if (db_cmp (op_eqA hr.units) rok_eq (dv 3) do_str) (dss_one (ds_ret (dv 5))) dss_nil)
      (dss_cons (ds_if (db_cmp (op_eqA hr.units) rok_eq (dv 3) do_str) (dss_one (ds_ret (do_bin op_addA rok_add (dv 5) (do_Ty call_int1 cok_int (by rfl) T.z_int (by decide +kernel) (da_cons (do_cmp op_ltA rok_lt (do_bin op_mulA rok_mulA (dv 5) (dv 2)) (dv 4)) da_nil))))) dss_nil)
      (dss_one (ds_ret (do_bin op_addA rok_add (dv 5) (do_Ty call_int1 cok_int (by rfl) T.z_int (by decide +kernel) (da_cons (do_cmp op_ge rok_rel (do_bin op_mulA rok_mulA do_int (do_bin op_sub rok_sub (dv 4) (do_bin op_mulA rok_mulA (dv 5) (dv 2)))) (dv 2)) da_nil)))))))))⟩) (rd__law_shared)
theorem ok__law_of (T : Tx w K mg) : FnOk P w K mg base CX0 2 T.a__law_of T.fd__law_of P__law_of (spP K 2 g__law_of) := by
  have G__law_shared := ok__law_shared (P := P) (base := base) T
  exact dfun T.d__law_of.F sc__law_of (tb := tb__law_of) (fun cdv A outer s H E hr => ⟨_, (dss_cons (ds_par3L (i := 2) (j := 3) (l := 4) sc__law_of.nd (do_ix (dv 0) do_int) (do_ix (dv 1) do_int) (do_ix (dv 1) (do_bin op_sub rok_sub (do_B call_lenA cok_len (by rfl) T.z_len (by decide +kernel) (da_cons (dv 1) da_nil)) do_int)))
      (dss_cons (ds_if (DW.db (dw_or (db_cmp (op_eqA hr.units) rok_eq (dv 2) do_str) (dw_or1 (db_cmp op_inA rok_in (dv 2) (do_lst (da_cons do_str (da_cons do_str da_nil))))))) (dss_one (ds_ret (dv 4))) dss_nil)
      (dss_cons (ds_if (db_cmp (op_eqA hr.units) rok_eq (dv 2) do_str) (dss_one (ds_ret (do_not (dv 3)))) dss_nil)
      (dss_cons (ds_if (db_cmp op_inA rok_in (dv 2) (do_lst (da_cons do_str (da_cons do_str da_nil)))) (dss_one (ds_ret (do_ix (do_lst (da_cons (do_cmp op_ltA rok_lt (dv 3) (dv 4)) (da_cons (do_cmp (op_eqA hr.units) rok_eq (dv 3) (dv 4)) da_nil))) (do_Ty call_int1 cok_int (by rfl) T.z_int (by decide +kernel) (da_cons (do_cmp (op_eqA hr.units) rok_eq (dv 2) do_str) da_nil))))) dss_nil)
      (dss_cons (ds_if (db_cmp op_inA rok_in (dv 2) (do_lst (da_cons do_str (da_cons do_str da_nil)))) (dss_one (ds_ret (do_ifx (db_cmp (op_eqA hr.units) rok_eq (dv 2) do_str) (do_bin op_mulA rok_mulA (do_ix (dv 0) do_int) (dv 3)) (do_call G__law_shared (hr.mono (by decide)) (by rfl) T.d__law_shared.m T.d__law_shared.F.kp T.d__law_shared.b (da_cons (dv 3) (da_cons (do_ix (dv 0) do_int) (da_cons (do_ix (dv 0) do_int) (da_cons (do_ix (dv 0) do_int) da_nil)))))))) dss_nil)
      (dss_one (ds_ret (do_nget hr.units (do_disp (dq_cons do_str (do_bin op_addA rok_add (dv 3) (dv 4)) (dq_cons do_str (do_bin op_sub rok_sub (dv 3) (dv 4)) (dq_cons do_str (do_B (call_min2 rfl) cok_min (by rfl) T.z_min (by decide +kernel) (da_cons (dv 3) (da_cons (dv 4) da_nil))) (dq_cons do_str (do_B (call_max2 rfl) cok_max (by rfl) T.z_max (by decide +kernel) (da_cons (dv 3) (da_cons (dv 4) da_nil))) dq_nil))))) (dv 2)))))))))⟩) (rd__law_of)
theorem ok__law_words (T : Tx w K mg) : FnOk P w K mg base CX0 1 T.a__law_words T.fd__law_words P__law_words (spP K 0 (g__law_words K)) := by
  exact dfun T.d__law_words.F sc__law_words (tb := tb__law_words K) (fun cdv A outer s H E hr => ⟨_, (dss_cons (ds_set (i := 0) sc__law_words.nd (do_disp (dq_cons do_str do_int (dq_cons do_str do_int (dq_cons do_str do_int (dq_cons do_str do_int (dq_cons do_str do_int (dq_cons do_str do_int (dq_cons do_str do_int (dq_cons do_str do_int (dq_cons do_str do_int (dq_cons do_str do_int (dq_cons do_str do_int (dq_cons do_str do_int dq_nil))))))))))))))
      (dss_cons (ds_set (i := 1) sc__law_words.nd (do_disp (dq_cons do_str do_int (dq_cons do_str do_int (dq_cons do_str do_int (dq_cons do_str do_int (dq_cons do_str do_int (dq_cons do_str do_int dq_nil))))))))
      (dss_one (ds_ret (do_two (pv 0) (pv 1))))))⟩) (rd__law_words K)
theorem ok__law_row (T : Tx w K mg) : FnOk P w K mg base CX0 2 T.a__law_row T.fd__law_row P__law_row (spW K 3 g__law_row) := by
  have G__law_dip := ok__law_dip (P := P) (base := base) T
  exact dfunW T.d__law_row.F sc__law_row rfl (tb := tb__law_row) (fun cdv A outer s H E hr => ⟨_, (dss_cons (ds_set (i := 4) sc__law_row.nd (do_lst (da_cons do_str (da_cons do_str (da_cons do_str (da_cons do_str (da_cons do_str (da_cons do_str (da_cons do_str (da_cons do_str (da_cons do_str (da_cons do_str (da_cons do_str (da_cons do_str (da_cons do_str (da_cons do_str (da_cons do_str (da_cons do_str (da_cons do_str (da_cons do_str (da_cons do_str (da_cons do_str (da_cons do_str da_nil)))))))))))))))))))))))
      (dss_cons (ds_set (i := 5) sc__law_row.nd (do_ix (dv 4) (do_callW (j := 0) G__law_dip (hr.mono (by decide)) (by rfl) T.d__law_dip.m T.d__law_dip.F.kp T.d__law_dip.b (da_cons do_int da_nil))))
      (dss_cons (ds_unp (do_tup (da_cons (do_callW (j := 0) G__law_dip (hr.mono (by decide)) (by rfl) T.d__law_dip.m T.d__law_dip.F.kp T.d__law_dip.b (da_cons do_int da_nil)) (da_cons (do_callW (j := 0) G__law_dip (hr.mono (by decide)) (by rfl) T.d__law_dip.m T.d__law_dip.F.kp T.d__law_dip.b (da_cons do_int da_nil)) (da_cons (do_callW (j := 0) G__law_dip (hr.mono (by decide)) (by rfl) T.d__law_dip.m T.d__law_dip.F.kp T.d__law_dip.b (da_cons do_int da_nil)) (da_cons (do_bin op_addA rok_add (do_bin op_addA rok_add (dv 1) do_int) (do_callW (j := 0) G__law_dip (hr.mono (by decide)) (by rfl) T.d__law_dip.m T.d__law_dip.F.kp T.d__law_dip.b (da_cons (do_B (call_min2 rfl) cok_min (by rfl) T.z_min (by decide +kernel) (da_cons (do_bin op_sub rok_sub (dv 2) (dv 1)) (da_cons do_int da_nil))) da_nil))) da_nil))))) (dg_tup (dgs_cons (dg_nm (i := 6) sc__law_row.nd) (dgs_cons (dg_nm (i := 7) sc__law_row.nd) (dgs_cons (dg_nm (i := 8) sc__law_row.nd) (dgs_cons (dg_nm (i := 9) sc__law_row.nd) dgs_nil))))))
      (dss_cons (ds_if (db_cmp op_inA rok_in (dv 5) (do_lst (da_cons do_str (da_cons do_str (da_cons do_str (da_cons do_str da_nil)))))) (dss_one (ds_ret (do_tup (da_cons (dv 5) (da_cons (dv 6) (da_cons (do_nget hr.units (do_disp (dq_cons do_str (do_ix (do_lst (da_cons do_int (da_cons do_int (da_cons do_int (da_cons (do_un un_neg uok_neg do_int) (da_cons (do_bin op_pow rok_pow do_int do_int) da_nil)))))) (do_callW (j := 0) G__law_dip (hr.mono (by decide)) (by rfl) T.d__law_dip.m T.d__law_dip.F.kp T.d__law_dip.b (da_cons do_int da_nil))) (dq_cons do_str (dv 7) (dq_cons do_str (do_callW (j := 0) G__law_dip (hr.mono (by decide)) (by rfl) T.d__law_dip.m T.d__law_dip.F.kp T.d__law_dip.b (da_cons (dv 3) da_nil)) (dq_cons do_str (do_ix (do_lst (da_cons (do_callW (j := 0) G__law_dip (hr.mono (by decide)) (by rfl) T.d__law_dip.m T.d__law_dip.F.kp T.d__law_dip.b (da_cons do_int da_nil)) (da_cons do_int da_nil))) (do_Ty call_int1 cok_int (by rfl) T.z_int (by decide +kernel) (da_cons (do_cmp (op_eqA hr.units) rok_eq (do_callW (j := 0) G__law_dip (hr.mono (by decide)) (by rfl) T.d__law_dip.m T.d__law_dip.F.kp T.d__law_dip.b (da_cons do_int da_nil)) do_int) da_nil))) dq_nil))))) (dv 5)) da_nil)))))) dss_nil)
      (dss_cons (ds_if (db_cmp op_inA rok_in (dv 5) (do_lst (da_cons do_str (da_cons do_str (da_cons do_str da_nil))))) (dss_one (ds_ret (do_nget hr.units (do_disp (dq_cons do_str (do_tup (da_cons (dv 5) (da_cons (dv 9) da_nil))) (dq_cons do_str (do_tup (da_cons (dv 5) (da_cons (dv 7) (da_cons (dv 9) da_nil)))) (dq_cons do_str (do_tup (da_cons (dv 5) (da_cons (do_callW (j := 0) G__law_dip (hr.mono (by decide)) (by rfl) T.d__law_dip.m T.d__law_dip.F.kp T.d__law_dip.b (da_cons do_int da_nil)) (da_cons (dv 9) da_nil)))) dq_nil)))) (dv 5)))) dss_nil)
      (dss_cons (ds_if (db_cmp op_inA rok_in (dv 5) (do_lst (da_cons do_str (da_cons do_str (da_cons do_str da_nil))))) (dss_one (ds_ret (do_nget hr.units (do_disp (dq_cons do_str (do_tup (da_cons (dv 5) (da_cons (do_ix (do_lst (da_cons do_str (da_cons do_str (da_cons do_str (da_cons do_str (da_cons do_str da_nil)))))) (do_callW (j := 0) G__law_dip (hr.mono (by decide)) (by rfl) T.d__law_dip.m T.d__law_dip.F.kp T.d__law_dip.b (da_cons do_int da_nil))) da_nil))) (dq_cons do_str (do_tup (da_cons (dv 5) (da_cons (dv 7) (da_cons (do_ix (do_lst (da_cons do_str (da_cons do_str da_nil))) (do_callW (j := 0) G__law_dip (hr.mono (by decide)) (by rfl) T.d__law_dip.m T.d__law_dip.F.kp T.d__law_dip.b (da_cons do_int da_nil))) da_nil)))) (dq_cons do_str (do_tup (da_cons (dv 5) (da_cons (do_callW (j := 0) G__law_dip (hr.mono (by decide)) (by rfl) T.d__law_dip.m T.d__law_dip.F.kp T.d__law_dip.b (da_cons do_int da_nil)) da_nil))) dq_nil)))) (dv 5)))) dss_nil)
      (dss_cons (ds_if (db_cmp (op_eqA hr.units) rok_eq (dv 5) do_str) (dss_one (ds_ret (do_tup (da_cons (dv 5) (da_cons (dv 6) (da_cons (do_ix (do_lst (da_cons do_int (da_cons (do_un un_neg uok_neg do_int) (da_cons do_int (da_cons do_int da_nil))))) (do_callW (j := 0) G__law_dip (hr.mono (by decide)) (by rfl) T.d__law_dip.m T.d__law_dip.F.kp T.d__law_dip.b (da_cons do_int da_nil))) (da_cons (dv 7) da_nil))))))) dss_nil)
      (dss_cons (ds_if (db_cmp (op_eqA hr.units) rok_eq (dv 5) do_str) (dss_one (ds_ret (do_tup (da_cons (dv 5) (da_cons (dv 6) (da_cons (dv 7) (da_cons (do_callW (j := 0) G__law_dip (hr.mono (by decide)) (by rfl) T.d__law_dip.m T.d__law_dip.F.kp T.d__law_dip.b (da_cons do_int da_nil)) (da_cons (do_bin op_addA rok_add do_int (do_callW (j := 0) G__law_dip (hr.mono (by decide)) (by rfl) T.d__law_dip.m T.d__law_dip.F.kp T.d__law_dip.b (da_cons do_int da_nil))) (da_cons (do_ix (do_lst (da_cons do_str (da_cons do_str (da_cons do_str da_nil)))) (do_callW (j := 0) G__law_dip (hr.mono (by decide)) (by rfl) T.d__law_dip.m T.d__law_dip.F.kp T.d__law_dip.b (da_cons do_int da_nil))) da_nil))))))))) dss_nil)
      (dss_one (ds_ret (do_tup (da_cons (dv 5) (da_cons (dv 6) (da_cons (dv 7) (da_cons (dv 8) da_nil)))))))))))))))⟩) (rd__law_row)
theorem ok__law_rows_drawn (T : Tx w K mg) : FnOk P w K mg base CX0 3 T.a__law_rows_drawn T.fd__law_rows_drawn P__law_rows_drawn (spW K 2 g__law_rows_drawn) := by
  have G__law_row := ok__law_row (P := P) (base := base) T
  exact dfunW T.d__law_rows_drawn.F sc__law_rows_drawn rfl (tb := tb__law_rows_drawn) (fun cdv A outer s H E hr => ⟨_, (dss_one (ds_ret (do_Ty call_tuple_of cok_tuple (by rfl) T.z_tuple (by decide +kernel) (da_cons (do_comp (own := [("at", 3)]) sc__law_rows_drawn.nd (di_r1 (by rfl) T.z_range (dv 1)) (blkOk_by (own := [("at", 3)]) (N := N__law_rows_drawn) (sc := defScope s__law_rows_drawn) (by first | decide +kernel | rfl)) (fun _ _ _ _ _ => (dg_nm (i := 3) sc__law_rows_drawn.nd)) (fun _ _ _ _ _ => ⟨_, dcs_nil⟩) (fun _ _ _ _ _ => ⟨_, (do_callW (j := 0) G__law_row (hr.mono (by decide)) (by rfl) T.d__law_row.m T.d__law_row.F.kp T.d__law_row.b (da_cons (dv 3) (da_cons (dv 1) (da_cons (dv 2) da_nil))))⟩) (by decide) (by rfl) (by intro _; rfl)) da_nil))))⟩) (rd__law_rows_drawn)
theorem ok__law_reads (T : Tx w K mg) : FnOk P w K mg base CX0 1 T.a__law_reads T.fd__law_reads P__law_reads (spP K 1 g__law_reads) := by
  exact dfun T.d__law_reads.F sc__law_reads (tb := tb__law_reads) (fun cdv A outer s H E hr => ⟨_, (dss_cons (ds_set (i := 1) sc__law_reads.nd (do_ix (dv 0) do_int))
      (dss_cons (ds_if (db_cmp op_inA rok_in (dv 1) (do_lst (da_cons do_str (da_cons do_str da_nil)))) (dss_one (ds_ret (do_lst (da_cons (do_ix (dv 0) do_int) da_nil)))) dss_nil)
      (dss_cons (ds_if (db_cmp op_inA rok_in (dv 1) (do_lst (da_cons do_str (da_cons do_str da_nil)))) (dss_one (ds_ret (do_lst (da_cons (do_ix (dv 0) do_int) da_nil)))) dss_nil)
      (dss_cons (ds_if (db_cmp (op_eqA hr.units) rok_eq (dv 1) do_str) (dss_one (ds_ret (do_lst (da_cons (do_ix (dv 0) do_int) da_nil)))) dss_nil)
      (dss_one (ds_ret (do_ifx (db_cmp op_inA rok_in (dv 1) (do_lst (da_cons do_str (da_cons do_str (da_cons do_str (da_cons do_str (da_cons do_str (da_cons do_str da_nil)))))))) (do_Ty call_list_of cok_list (by rfl) T.z_list (by decide +kernel) (da_cons (do_sl (dv 0) (dp_some do_int) dp_none) da_nil)) (do_lst da_nil))))))))⟩) (rd__law_reads)
theorem ok__law_reckoned (T : Tx w K mg) : FnOk P w K mg base CX0 3 T.a__law_reckoned T.fd__law_reckoned P__law_reckoned (spP K 2 g__law_reckoned) := by
  have G__law_of := ok__law_of (P := P) (base := base) T
  have G__law_shared := ok__law_shared (P := P) (base := base) T
  exact dfun T.d__law_reckoned.F sc__law_reckoned (tb := tb__law_reckoned) (fun cdv A outer s H E hr => ⟨_, (dss_cons (ds_set (i := 2) sc__law_reckoned.nd (do_ix (dv 0) do_int))
      (dss_cons (ds_if (db_cmp (op_eqA hr.units) rok_eq (dv 2) do_str) (dss_one (ds_ret (do_ix (dv 1) do_int))) dss_nil)
      (dss_cons (ds_if (db_cmp (op_eqA hr.units) rok_eq (dv 2) do_str) (dss_one (ds_ret (do_call G__law_shared (hr.mono (by decide)) (by rfl) T.d__law_shared.m T.d__law_shared.F.kp T.d__law_shared.b (da_cons (do_ix (dv 1) do_int) (da_cons (do_ix (dv 0) do_int) (da_cons (do_ix (dv 0) do_int) (da_cons (do_ix (dv 0) do_int) da_nil))))))) dss_nil)
      (dss_cons (ds_if (db_cmp (op_eqA hr.units) rok_eq (dv 2) do_str) (dss_one (ds_ret (do_bin op_mulA rok_mulA (do_ix (dv 0) do_int) (do_ix (dv 1) do_int)))) dss_nil)
      (dss_one (ds_ret (do_Ty call_int1 cok_int (by rfl) T.z_int (by decide +kernel) (da_cons (do_call G__law_of (hr.mono (by decide)) (by rfl) T.d__law_of.m T.d__law_of.F.kp T.d__law_of.b (da_cons (do_tup (da_cons (dv 2) (da_cons (do_tup (da_cons do_str (da_cons do_int da_nil))) (da_cons (do_tup (da_cons do_str (da_cons do_int da_nil))) da_nil)))) (da_cons (dv 1) da_nil))) da_nil))))))))⟩) (rd__law_reckoned)
theorem ok__law_next (T : Tx w K mg) : FnOk P w K mg base CX0 1 T.a__law_next T.fd__law_next P__law_next (spP K 2 g__law_next) := by
  exact dfun T.d__law_next.F sc__law_next (tb := tb__law_next) (fun cdv A outer s H E hr => ⟨_, (dss_cons (ds_set (i := 2) sc__law_next.nd (do_ifx (db_cmp (op_eqA hr.units) rok_eq (do_ix (dv 0) do_int) do_str) (do_lst da_nil) (do_lst (da_cons (do_bin op_addA rok_add (dv 1) do_int) da_nil))))
      (dss_one (ds_ret (do_bin op_addA rok_add (dv 2) (do_rep (do_lst (da_cons (do_ix (dv 0) (do_un un_neg uok_neg do_int)) da_nil)) (do_Ty call_int1 cok_int (by rfl) T.z_int (by decide +kernel) (da_cons (do_cmp op_inA rok_in (do_ix (dv 0) do_int) (do_lst (da_cons do_str (da_cons do_str (da_cons do_str da_nil))))) da_nil)))))))⟩) (rd__law_next)
theorem ok__law_folded (T : Tx w K mg) : FnOk P w K mg base CX0 4 T.a__law_folded T.fd__law_folded P__law_folded (spP K 1 g__law_folded) := by
  have G__law_next := ok__law_next (P := P) (base := base) T
  have G__law_words := ok__law_words (P := P) (base := base) T
  have G__law_reckoned := ok__law_reckoned (P := P) (base := base) T
  have G__law_reads := ok__law_reads (P := P) (base := base) T
  exact dfun T.d__law_folded.F sc__law_folded (tb := tb__law_folded K) (fun cdv A outer s H E hr => ⟨_, (dss_cons (ds_set (i := 1) sc__law_folded.nd (do_bin op_addA rok_add (do_lr1 (by rfl) (by rfl) T.z_list (by rfl) T.z_range do_int) (do_comp (own := [("row", 5)]) sc__law_folded.nd (di_seq (dv 0)) (blkOk_by (own := [("row", 5)]) (N := N__law_folded) (sc := defScope s__law_folded) (by first | decide +kernel | rfl)) (fun _ _ _ _ _ => (dg_nm (i := 5) sc__law_folded.nd)) (fun _ _ _ _ _ => ⟨_, (dcs_one (db_in0 hr.units (do_ix (dv 5) do_int) (do_call0 G__law_words (hr.mono (by decide)) (by rfl) T.d__law_words.m T.d__law_words.F.kp T.d__law_words.b)))⟩) (fun _ _ _ _ _ => ⟨_, (do_ix (dv 5) do_int)⟩) (by decide) (by rfl) (by intro _; rfl))))
      (dss_cons (ds_set (i := 1) sc__law_folded.nd (do_bin op_addA rok_add (dv 1) (do_sumL (by rfl) (by rfl) T.z_sum (do_comp (own := [("row", 5)]) sc__law_folded.nd (di_seq (dv 0)) (blkOk_by (own := [("row", 5)]) (N := N__law_folded) (sc := defScope s__law_folded) (by first | decide +kernel | rfl)) (fun _ _ _ _ _ => (dg_nm (i := 5) sc__law_folded.nd)) (fun _ _ _ _ _ => ⟨_, dcs_nil⟩) (fun _ _ _ _ _ => ⟨_, (do_call G__law_reads (hr.mono (by decide)) (by rfl) T.d__law_reads.m T.d__law_reads.F.kp T.d__law_reads.b (da_cons (dv 5) da_nil))⟩) (by decide) (by rfl) (by intro _; rfl)))))
      (dss_cons (ds_par (i := 2) (j := 3) sc__law_folded.nd (do_rep (do_lst (da_cons do_non da_nil)) (do_bin op_addA rok_add (do_B call_lenA cok_len (by rfl) T.z_len (by decide +kernel) (da_cons (dv 0) da_nil)) do_int)) (do_lst da_nil))
      (dss_cons (ds_lput (do_sortSet (by rfl) hr.units (by rfl) T.z_sorted (by rfl) T.z_set (do_comp (own := [("cell", 12)]) sc__law_folded.nd (di_seq (dv 1)) (blkOk_by (own := [("cell", 12)]) (N := N__law_folded) (sc := defScope s__law_folded) (by first | decide +kernel | rfl)) (fun _ _ _ _ _ => (dg_nm (i := 12) sc__law_folded.nd)) (fun _ _ _ _ _ => ⟨_, dcs_nil⟩) (fun _ _ _ _ _ => ⟨_, (do_tup (da_cons (dv 12) (da_cons do_int da_nil)))⟩) (by decide) (by rfl) (by intro _; rfl))) do_int (fun h => pg_sub (pv 2) h set_list))
      (dss_cons (ds_for PassesOwn.never (di_r1 (by rfl) T.z_range (do_B call_lenA cok_len (by rfl) T.z_len (by decide +kernel) (da_cons (dv 0) da_nil))) (dg_nm (i := 4) sc__law_folded.nd) (dss_cons (ds_par2 (i := 5) (j := 6) sc__law_folded.nd (do_ix (dv 0) (dv 4)) (do_ix (dv 2) (dv 4)))
      (dss_cons (ds_if (db_cmp op_notN rok_notN (dv 6) do_non) (dss_cons (ds_set (i := 7) sc__law_folded.nd (do_dictP (by rfl) (by rfl) T.z_dict (dv 6)))
      (dss_cons (ds_par (i := 8) (j := 9) sc__law_folded.nd (do_comp (own := [("cell", 12)]) sc__law_folded.nd (di_seq (do_call G__law_reads (hr.mono (by decide)) (by rfl) T.d__law_reads.m T.d__law_reads.F.kp T.d__law_reads.b (da_cons (dv 5) da_nil))) (blkOk_by (own := [("cell", 12)]) (N := N__law_folded) (sc := defScope s__law_folded) (by first | decide +kernel | rfl)) (fun _ _ _ _ _ => (dg_nm (i := 12) sc__law_folded.nd)) (fun _ _ _ _ _ => ⟨_, dcs_nil⟩) (fun _ _ _ _ _ => ⟨_, (do_kgetS hr.units (pv 7) (dv 12) ⟨by rfl, by rfl, by rfl, by rfl⟩)⟩) (by decide) (by rfl) (by intro _; rfl)) do_non)
      (dss_cons (ds_if (db_cmp (op_eqA hr.units) rok_eq (do_ix (dv 5) do_int) do_str) (dss_one (ds_set (i := 9) sc__law_folded.nd (do_ix (dv 5) do_int))) (dss_one (ds_if (DW.db (dw_and (db_in0 hr.units (do_ix (dv 5) do_int) (do_call0 G__law_words (hr.mono (by decide)) (by rfl) T.d__law_words.m T.d__law_words.F.kp T.d__law_words.b)) (dw_and (db_cmp op_notInA rok_in (do_ix (dv 5) do_int) (do_lst (da_cons do_str (da_cons do_str da_nil)))) (dw_and1 (db_cmp op_notInA rok_in do_non (dv 8)))))) (dss_cons (ds_set (i := 9) sc__law_folded.nd (do_call G__law_reckoned (hr.mono (by decide)) (by rfl) T.d__law_reckoned.m T.d__law_reckoned.F.kp T.d__law_reckoned.b (da_cons (dv 5) (da_cons (dv 8) da_nil))))
      (dss_one (ds_set (i := 5) sc__law_folded.nd (do_tup (da_cons do_str (da_cons (do_ix (dv 5) do_int) (da_cons (dv 9) da_nil))))))) (dss_one (ds_if (DW.db (dw_and (db_cmp (op_eqA hr.units) rok_eq (do_ix (dv 5) do_int) do_str) (dw_and1 (db_cmp op_notN rok_notN (do_ix (dv 8) do_int) do_non)))) (dss_one (ds_set (i := 5) sc__law_folded.nd (do_tup (da_cons do_str (da_cons (do_ix (do_lst (da_cons (do_bin op_addA rok_add (dv 4) do_int) (da_cons (do_ix (dv 5) do_int) da_nil))) (do_Ty call_int1 cok_int (by rfl) T.z_int (by decide +kernel) (da_cons (do_cmp (op_neA hr.units) rok_ne (do_ix (dv 8) do_int) do_int) da_nil))) da_nil))))) dss_nil)))))
      (dss_cons (ds_set (i := 10) sc__law_folded.nd (dv 6))
      (dss_cons (ds_if (db_in0 hr.units (do_ix (dv 5) do_int) (do_call0 G__law_words (hr.mono (by decide)) (by rfl) T.d__law_words.m T.d__law_words.F.kp T.d__law_words.b)) (dss_one (ds_set (i := 10) sc__law_folded.nd (do_bin op_addA rok_add (do_comp (own := [("one", 13)]) sc__law_folded.nd (di_seq (dv 6)) (blkOk_by (own := [("one", 13)]) (N := N__law_folded) (sc := defScope s__law_folded) (by first | decide +kernel | rfl)) (fun _ _ _ _ _ => (dg_nm (i := 13) sc__law_folded.nd)) (fun _ _ _ _ _ => ⟨_, (dcs_one (db_cmp (op_neA hr.units) rok_ne (do_ix (dv 13) do_int) (do_ix (dv 5) do_int)))⟩) (fun _ _ _ _ _ => ⟨_, (dv 13)⟩) (by decide) (by rfl) (by intro _; rfl)) (do_rep (do_lst (da_cons (do_tup (da_cons (do_ix (dv 5) do_int) (da_cons (dv 9) da_nil))) da_nil)) (do_Ty call_int1 cok_int (by rfl) T.z_int (by decide +kernel) (da_cons (do_cmp op_notN rok_notN (dv 9) do_non) da_nil)))))) dss_nil)
      (dss_one (ds_for PassesOwn.never (di_seq (do_call G__law_next (hr.mono (by decide)) (by rfl) T.d__law_next.m T.d__law_next.F.kp T.d__law_next.b (da_cons (dv 5) (da_cons (dv 4) da_nil)))) (dg_nm (i := 11) sc__law_folded.nd) (dss_one (ds_lput (do_ifx (db_cmp op_isN rok_isN (do_ix (dv 2) (dv 11)) do_non) (do_B (call_sortD hr.units) cok_sortD (by rfl) T.z_sorted (by decide +kernel) (da_cons (dv 10) da_nil)) (do_comp (own := [("one", 13)]) sc__law_folded.nd (di_seq (do_ix (dv 2) (dv 11))) (blkOk_by (own := [("one", 13)]) (N := N__law_folded) (sc := defScope s__law_folded) (by first | decide +kernel | rfl)) (fun _ _ _ _ _ => (dg_nm (i := 13) sc__law_folded.nd)) (fun _ _ _ _ _ => ⟨_, (dcs_one (db_cmp (op_inD (units65 hr)) rok_inDp (dv 13) (dv 10)))⟩) (fun _ _ _ _ _ => ⟨_, (dv 13)⟩) (by decide) (by rfl) (by intro _; rfl))) (dv 11) (fun h => pg_sub (pv 2) h set_list)))))))))) dss_nil)
      (dss_one (ds_app (i := 3) (dv 5))))))
      (dss_one (ds_ret (do_Ty call_tuple_of cok_tuple (by rfl) T.z_tuple (by decide +kernel) (da_cons (dv 3) da_nil)))))))))⟩) (rd__law_folded K)
theorem ok__law_sparse (T : Tx w K mg) : FnOk P w K mg base CX0 2 T.a__law_sparse T.fd__law_sparse P__law_sparse (spW K 1 g__law_sparse) := by
  have G__law_dip := ok__law_dip (P := P) (base := base) T
  exact dfunW T.d__law_sparse.F sc__law_sparse rfl (tb := tb__law_sparse) (fun cdv A outer s H E hr => ⟨_, (dss_cons (ds_set (i := 2) sc__law_sparse.nd (do_lst da_nil))
      (dss_cons (ds_for PassesOwn.never (di_r1 (by rfl) T.z_range (do_B call_lenA cok_len (by rfl) T.z_len (by decide +kernel) (da_cons (dv 1) da_nil))) (dg_nm (i := 3) sc__law_sparse.nd) (dss_cons (ds_par (i := 4) (j := 5) sc__law_sparse.nd (do_bin op_addA rok_add (do_bin op_addA rok_add (dv 3) do_int) (do_callW (j := 0) G__law_dip (hr.mono (by decide)) (by rfl) T.d__law_dip.m T.d__law_dip.F.kp T.d__law_dip.b (da_cons (do_B (call_min2 rfl) cok_min (by rfl) T.z_min (by decide +kernel) (da_cons (do_bin op_sub rok_sub (do_B call_lenA cok_len (by rfl) T.z_len (by decide +kernel) (da_cons (dv 1) da_nil)) (dv 3)) (da_cons do_int da_nil))) da_nil))) (do_ix (dv 1) (dv 3)))
      (dss_cons (ds_set (i := 6) sc__law_sparse.nd (do_lst (da_cons (dv 5) (da_cons (dv 5) (da_cons (do_tup (da_cons do_str (da_cons (dv 4) da_nil))) (da_cons (do_tup (da_cons do_str (da_cons (do_callW (j := 0) G__law_dip (hr.mono (by decide)) (by rfl) T.d__law_dip.m T.d__law_dip.F.kp T.d__law_dip.b (da_cons do_int da_nil)) (da_cons (dv 4) da_nil)))) (da_cons (do_tup (da_cons do_str (da_cons (do_callW (j := 0) G__law_dip (hr.mono (by decide)) (by rfl) T.d__law_dip.m T.d__law_dip.F.kp T.d__law_dip.b (da_cons do_int da_nil)) (da_cons (do_callW (j := 0) G__law_dip (hr.mono (by decide)) (by rfl) T.d__law_dip.m T.d__law_dip.F.kp T.d__law_dip.b (da_cons do_int da_nil)) da_nil)))) (da_cons (do_tup (da_cons do_str (da_cons (do_callW (j := 0) G__law_dip (hr.mono (by decide)) (by rfl) T.d__law_dip.m T.d__law_dip.F.kp T.d__law_dip.b (da_cons do_int da_nil)) (da_cons (do_callW (j := 0) G__law_dip (hr.mono (by decide)) (by rfl) T.d__law_dip.m T.d__law_dip.F.kp T.d__law_dip.b (da_cons do_int da_nil)) da_nil)))) da_nil))))))))
      (dss_one (ds_app (i := 2) (do_ix (dv 6) (do_callW (j := 0) G__law_dip (hr.mono (by decide)) (by rfl) T.d__law_dip.m T.d__law_dip.F.kp T.d__law_dip.b (da_cons do_int da_nil))))))))
      (dss_one (ds_ret (do_Ty call_tuple_of cok_tuple (by rfl) T.z_tuple (by decide +kernel) (da_cons (dv 2) da_nil))))))⟩) (rd__law_sparse)
theorem ok_law (T : Tx w K mg) : FnG P w K mg base CX0 8 T.a_law T.fd_law P_law (spP K 1 g_law) := by
  have G__law_same := ok__law_same (P := P) (base := base) T
  have G_folded := ok_folded (P := P) (base := base) T
  have G__law_folded := ok__law_folded (P := P) (base := base) T
  have G__law_dip := ok__law_dip (P := P) (base := base) T
  have G__law_sparse := ok__law_sparse (P := P) (base := base) T
  have G__law_rows_drawn := ok__law_rows_drawn (P := P) (base := base) T
  have G__law_well := ok__law_well (P := P) (base := base) T
  exact dfunG T.d_law.F sc_law (tb := tb_law) (fun cdv A outer s H E hr hgu => ⟨_, (dss_cons (ds_for PassesOwn.never (di_seq (do_bin op_addA rok_add (do_lst (da_cons do_int (da_cons (do_bin op_addA rok_add (do_bin op_pow rok_pow do_int do_int) (do_bin op_pow rok_pow do_int do_int)) da_nil))) (do_sl (dv 0) dp_none (dp_some do_int)))) (dg_nm (i := 1) sc_law.nd) (dss_cons (ds_set (i := 2) sc_law.nd (do_call G__law_well (hr.mono (by decide)) (by rfl) T.d__law_well.m T.d__law_well.F.kp T.d__law_well.b (da_cons (dv 1) da_nil)))
      (dss_one (ds_for PassesOwn.never (di_r1 (by rfl) T.z_range do_int) (dg_nm (i := 3) sc_law.nd) (dss_cons (ds_set (i := 4) sc_law.nd (do_callW (j := 2) G__law_rows_drawn (hr.mono (by decide)) (by rfl) T.d__law_rows_drawn.m T.d__law_rows_drawn.F.kp T.d__law_rows_drawn.b (da_cons (do_callW (j := 2) G__law_dip (hr.mono (by decide)) (by rfl) T.d__law_dip.m T.d__law_dip.F.kp T.d__law_dip.b (da_cons (do_ix (do_lst (da_cons do_int (da_cons do_int da_nil))) (do_callW (j := 2) G__law_dip (hr.mono (by decide)) (by rfl) T.d__law_dip.m T.d__law_dip.F.kp T.d__law_dip.b (da_cons do_int da_nil))) da_nil)) (da_cons do_int da_nil))))
      (dss_cons (ds_if (db_cmp (op_eqA hr.units) rok_eq (do_callW (j := 2) G__law_dip (hr.mono (by decide)) (by rfl) T.d__law_dip.m T.d__law_dip.F.kp T.d__law_dip.b (da_cons do_int da_nil)) do_int) (dss_one (ds_set (i := 4) sc_law.nd (do_callW (j := 2) G__law_sparse (hr.mono (by decide)) (by rfl) T.d__law_sparse.m T.d__law_sparse.F.kp T.d__law_sparse.b (da_cons (dv 4) da_nil)))) dss_nil)
      (dss_cons (ds_par (i := 5) (j := 6) sc_law.nd (do_B (call_reprT hgu hr.units) cok_repr (by rfl) T.z_repr (by decide +kernel) (da_cons (dv 4) da_nil)) (do_call G__law_folded (hr.mono (by decide)) (by rfl) T.d__law_folded.m T.d__law_folded.F.kp T.d__law_folded.b (da_cons (dv 4) da_nil)))
      (dss_one (ds_if (DW.db (dw_or (db_not (db_val (do_call G__law_same (hr.mono (by decide)) (by rfl) T.d__law_same.m T.d__law_same.F.kp T.d__law_same.b (da_cons (do_lst (da_cons (do_call G_folded (hr.mono (by decide)) (by rfl) T.d_folded.m T.d_folded.F.kp T.d_folded.b (da_cons (dv 4) da_nil)) (da_cons (do_callK G_folded (hr.mono (by decide)) (by rfl) T.d_folded.m T.d_folded.F.kp (kp_folded_0 T) rfl (dk_cons (dv 4) dk_nil)) da_nil))) (da_cons (do_lst (da_cons (dv 6) (da_cons (dv 6) da_nil))) da_nil))))) (dw_or1 (db_cmp (op_neA hr.units) rok_ne (do_B (call_reprT hgu hr.units) cok_repr (by rfl) T.z_repr (by decide +kernel) (da_cons (dv 4) da_nil)) (dv 5))))) (dss_one (ds_ret do_bl)) dss_nil)))))))))
      (dss_one (ds_ret do_bl)))⟩) rd_law
end
end K18.L17
namespace K18.L17
open PySem PySem.Spec PyProof.Rows L2 BK
open DL hiding g_is_between tb_is_between rd_is_between
theorem all_mk {P : Program} {w : World} {K : PySem.W.Frag} {h : Heap} {mg : Str → Option Value} {fa : Addr} (X : K.In h) (G : h.Ns mainGlobals mg) (hfa : mg "law" = some (.ref fa))
    {f0 : Addr} {od0 an0 : Option Addr} {sl0 : Array (Option Value)} {oc0 kV0 dc0 pm0 cd0 ct0 : Value}
    (a0 : PySem.W.nsIn K mainGlobals "is_integer" = some (some (.ref f0)))
    (l0 : K.lookup f0 = some ⟨oc0, od0, .func (PySem.W.fnOf "is_integer" "is_integer" (defArgs s_is_integer) (defBody s_is_integer) (defScope s_is_integer) .none kV0 dc0 pm0 an0 cd0 ct0), sl0⟩)
    (c0 : PySem.W.codeIn K cd0 "is_integer" = true)
    (k0 : PySem.W.keepIn K (.ref f0) = true)
    {f1 : Addr} {od1 an1 : Option Addr} {sl1 : Array (Option Value)} {oc1 kV1 dc1 pm1 cd1 ct1 : Value}
    (a1 : PySem.W.nsIn K mainGlobals "is_between" = some (some (.ref f1)))
    (l1 : K.lookup f1 = some ⟨oc1, od1, .func (PySem.W.fnOf "is_between" "is_between" (defArgs s_is_between) (defBody s_is_between) (defScope s_is_between) .none kV1 dc1 pm1 an1 cd1 ct1), sl1⟩)
    (c1 : PySem.W.codeIn K cd1 "is_between" = true)
    (k1 : PySem.W.keepIn K (.ref f1) = true)
    {f2 : Addr} {od2 an2 : Option Addr} {sl2 : Array (Option Value)} {oc2 kV2 dc2 pm2 cd2 ct2 : Value}
    (a2 : PySem.W.nsIn K mainGlobals "is_word" = some (some (.ref f2)))
    (l2 : K.lookup f2 = some ⟨oc2, od2, .func (PySem.W.fnOf "is_word" "is_word" (defArgs s_is_word) (defBody s_is_word) (defScope s_is_word) .none kV2 dc2 pm2 an2 cd2 ct2), sl2⟩)
    (c2 : PySem.W.codeIn K cd2 "is_word" = true)
    (k2 : PySem.W.keepIn K (.ref f2) = true)
    {f3 : Addr} {od3 an3 : Option Addr} {sl3 : Array (Option Value)} {oc3 kV3 dc3 pm3 cd3 ct3 : Value}
    (a3 : PySem.W.nsIn K mainGlobals "divided" = some (some (.ref f3)))
    (l3 : K.lookup f3 = some ⟨oc3, od3, .func (PySem.W.fnOf "divided" "divided" (defArgs s_divided) (defBody s_divided) (defScope s_divided) .none kV3 dc3 pm3 an3 cd3 ct3), sl3⟩)
    (c3 : PySem.W.codeIn K cd3 "divided" = true)
    (k3 : PySem.W.keepIn K (.ref f3) = true)
    {f4 : Addr} {od4 an4 : Option Addr} {sl4 : Array (Option Value)} {oc4 kV4 dc4 pm4 cd4 ct4 : Value}
    (a4 : PySem.W.nsIn K mainGlobals "is_member" = some (some (.ref f4)))
    (l4 : K.lookup f4 = some ⟨oc4, od4, .func (PySem.W.fnOf "is_member" "is_member" (defArgs s_is_member) (defBody s_is_member) (defScope s_is_member) .none kV4 dc4 pm4 an4 cd4 ct4), sl4⟩)
    (c4 : PySem.W.codeIn K cd4 "is_member" = true)
    (k4 : PySem.W.keepIn K (.ref f4) = true)
    {f5 : Addr} {od5 an5 : Option Addr} {sl5 : Array (Option Value)} {oc5 kV5 dc5 pm5 cd5 ct5 : Value}
    (a5 : PySem.W.nsIn K mainGlobals "is_row" = some (some (.ref f5)))
    (l5 : K.lookup f5 = some ⟨oc5, od5, .func (PySem.W.fnOf "is_row" "is_row" (defArgs s_is_row) (defBody s_is_row) (defScope s_is_row) .none kV5 dc5 pm5 an5 cd5 ct5), sl5⟩)
    (c5 : PySem.W.codeIn K cd5 "is_row" = true)
    (k5 : PySem.W.keepIn K (.ref f5) = true)
    {f6 : Addr} {od6 an6 : Option Addr} {sl6 : Array (Option Value)} {oc6 kV6 dc6 pm6 cd6 ct6 : Value}
    (a6 : PySem.W.nsIn K mainGlobals "is_rows" = some (some (.ref f6)))
    (l6 : K.lookup f6 = some ⟨oc6, od6, .func (PySem.W.fnOf "is_rows" "is_rows" (defArgs s_is_rows) (defBody s_is_rows) (defScope s_is_rows) .none kV6 dc6 pm6 an6 cd6 ct6), sl6⟩)
    (c6 : PySem.W.codeIn K cd6 "is_rows" = true)
    (k6 : PySem.W.keepIn K (.ref f6) = true)
    {f7 : Addr} {od7 an7 : Option Addr} {sl7 : Array (Option Value)} {oc7 kV7 dc7 pm7 cd7 ct7 : Value}
    (a7 : PySem.W.nsIn K mainGlobals "check_rows" = some (some (.ref f7)))
    (l7 : K.lookup f7 = some ⟨oc7, od7, .func (PySem.W.fnOf "check_rows" "check_rows" (defArgs s_check_rows) (defBody s_check_rows) (defScope s_check_rows) .none kV7 dc7 pm7 an7 cd7 ct7), sl7⟩)
    (c7 : PySem.W.codeIn K cd7 "check_rows" = true)
    (k7 : PySem.W.keepIn K (.ref f7) = true)
    {f8 : Addr} {od8 an8 : Option Addr} {sl8 : Array (Option Value)} {oc8 kV8 dc8 pm8 cd8 ct8 : Value}
    (a8 : PySem.W.nsIn K mainGlobals "read_cells" = some (some (.ref f8)))
    (l8 : K.lookup f8 = some ⟨oc8, od8, .func (PySem.W.fnOf "read_cells" "read_cells" (defArgs s_read_cells) (defBody s_read_cells) (defScope s_read_cells) .none kV8 dc8 pm8 an8 cd8 ct8), sl8⟩)
    (c8 : PySem.W.codeIn K cd8 "read_cells" = true)
    (k8 : PySem.W.keepIn K (.ref f8) = true)
    {f9 : Addr} {od9 an9 : Option Addr} {sl9 : Array (Option Value)} {oc9 kV9 dc9 pm9 cd9 ct9 : Value}
    (a9 : PySem.W.nsIn K mainGlobals "reckoned" = some (some (.ref f9)))
    (l9 : K.lookup f9 = some ⟨oc9, od9, .func (PySem.W.fnOf "reckoned" "reckoned" (defArgs s_reckoned) (defBody s_reckoned) (defScope s_reckoned) .none kV9 dc9 pm9 an9 cd9 ct9), sl9⟩)
    (c9 : PySem.W.codeIn K cd9 "reckoned" = true)
    (k9 : PySem.W.keepIn K (.ref f9) = true)
    {f10 : Addr} {od10 an10 : Option Addr} {sl10 : Array (Option Value)} {oc10 kV10 dc10 pm10 cd10 ct10 : Value}
    (a10 : PySem.W.nsIn K mainGlobals "goal_of" = some (some (.ref f10)))
    (l10 : K.lookup f10 = some ⟨oc10, od10, .func (PySem.W.fnOf "goal_of" "goal_of" (defArgs s_goal_of) (defBody s_goal_of) (defScope s_goal_of) .none kV10 dc10 pm10 an10 cd10 ct10), sl10⟩)
    (c10 : PySem.W.codeIn K cd10 "goal_of" = true)
    (k10 : PySem.W.keepIn K (.ref f10) = true)
    {f11 : Addr} {od11 an11 : Option Addr} {sl11 : Array (Option Value)} {oc11 kV11 dc11 pm11 cd11 ct11 : Value}
    (a11 : PySem.W.nsIn K mainGlobals "ways_of" = some (some (.ref f11)))
    (l11 : K.lookup f11 = some ⟨oc11, od11, .func (PySem.W.fnOf "ways_of" "ways_of" (defArgs s_ways_of) (defBody s_ways_of) (defScope s_ways_of) .none kV11 dc11 pm11 an11 cd11 ct11), sl11⟩)
    (c11 : PySem.W.codeIn K cd11 "ways_of" = true)
    (k11 : PySem.W.keepIn K (.ref f11) = true)
    {f12 : Addr} {od12 an12 : Option Addr} {sl12 : Array (Option Value)} {oc12 kV12 dc12 pm12 cd12 ct12 : Value}
    (a12 : PySem.W.nsIn K mainGlobals "met_cells" = some (some (.ref f12)))
    (l12 : K.lookup f12 = some ⟨oc12, od12, .func (PySem.W.fnOf "met_cells" "met_cells" (defArgs s_met_cells) (defBody s_met_cells) (defScope s_met_cells) .none kV12 dc12 pm12 an12 cd12 ct12), sl12⟩)
    (c12 : PySem.W.codeIn K cd12 "met_cells" = true)
    (k12 : PySem.W.keepIn K (.ref f12) = true)
    {f13 : Addr} {od13 an13 : Option Addr} {sl13 : Array (Option Value)} {oc13 kV13 dc13 pm13 cd13 ct13 : Value}
    (a13 : PySem.W.nsIn K mainGlobals "cells_behind" = some (some (.ref f13)))
    (l13 : K.lookup f13 = some ⟨oc13, od13, .func (PySem.W.fnOf "cells_behind" "cells_behind" (defArgs s_cells_behind) (defBody s_cells_behind) (defScope s_cells_behind) .none kV13 dc13 pm13 an13 cd13 ct13), sl13⟩)
    (c13 : PySem.W.codeIn K cd13 "cells_behind" = true)
    (k13 : PySem.W.keepIn K (.ref f13) = true)
    {f14 : Addr} {od14 an14 : Option Addr} {sl14 : Array (Option Value)} {oc14 kV14 dc14 pm14 cd14 ct14 : Value}
    (a14 : PySem.W.nsIn K mainGlobals "folded_row" = some (some (.ref f14)))
    (l14 : K.lookup f14 = some ⟨oc14, od14, .func (PySem.W.fnOf "folded_row" "folded_row" (defArgs s_folded_row) (defBody s_folded_row) (defScope s_folded_row) .none kV14 dc14 pm14 an14 cd14 ct14), sl14⟩)
    (c14 : PySem.W.codeIn K cd14 "folded_row" = true)
    (k14 : PySem.W.keepIn K (.ref f14) = true)
    {f15 : Addr} {od15 an15 : Option Addr} {sl15 : Array (Option Value)} {oc15 kV15 dc15 pm15 cd15 ct15 : Value}
    (a15 : PySem.W.nsIn K mainGlobals "cells_in" = some (some (.ref f15)))
    (l15 : K.lookup f15 = some ⟨oc15, od15, .func (PySem.W.fnOf "cells_in" "cells_in" (defArgs s_cells_in) (defBody s_cells_in) (defScope s_cells_in) .none kV15 dc15 pm15 an15 cd15 ct15), sl15⟩)
    (c15 : PySem.W.codeIn K cd15 "cells_in" = true)
    (k15 : PySem.W.keepIn K (.ref f15) = true)
    {f16 : Addr} {od16 an16 : Option Addr} {sl16 : Array (Option Value)} {oc16 kV16 dc16 pm16 cd16 ct16 : Value}
    (a16 : PySem.W.nsIn K mainGlobals "folded_rows" = some (some (.ref f16)))
    (l16 : K.lookup f16 = some ⟨oc16, od16, .func (PySem.W.fnOf "folded_rows" "folded_rows" (defArgs s_folded_rows) (defBody s_folded_rows) (defScope s_folded_rows) .none kV16 dc16 pm16 an16 cd16 ct16), sl16⟩)
    (c16 : PySem.W.codeIn K cd16 "folded_rows" = true)
    (k16 : PySem.W.keepIn K (.ref f16) = true)
    {f17 : Addr} {od17 an17 : Option Addr} {sl17 : Array (Option Value)} {oc17 kV17 dc17 pm17 cd17 ct17 : Value}
    (a17 : PySem.W.nsIn K mainGlobals "folded" = some (some (.ref f17)))
    (l17 : K.lookup f17 = some ⟨oc17, od17, .func (PySem.W.fnOf "folded" "folded" (defArgs s_folded) (defBody s_folded) (defScope s_folded) .none kV17 dc17 pm17 an17 cd17 ct17), sl17⟩)
    (c17 : PySem.W.codeIn K cd17 "folded" = true)
    (k17 : PySem.W.keepIn K (.ref f17) = true)
    {f18 : Addr} {od18 an18 : Option Addr} {sl18 : Array (Option Value)} {oc18 kV18 dc18 pm18 cd18 ct18 : Value}
    (a18 : PySem.W.nsIn K mainGlobals "_law_well" = some (some (.ref f18)))
    (l18 : K.lookup f18 = some ⟨oc18, od18, .func (PySem.W.fnOf "_law_well" "_law_well" (defArgs s__law_well) (defBody s__law_well) (defScope s__law_well) .none kV18 dc18 pm18 an18 cd18 ct18), sl18⟩)
    (c18 : PySem.W.codeIn K cd18 "_law_well" = true)
    (k18 : PySem.W.keepIn K (.ref f18) = true)
    {f19 : Addr} {od19 an19 : Option Addr} {sl19 : Array (Option Value)} {oc19 kV19 dc19 pm19 cd19 ct19 : Value}
    (a19 : PySem.W.nsIn K mainGlobals "_law_dip" = some (some (.ref f19)))
    (l19 : K.lookup f19 = some ⟨oc19, od19, .func (PySem.W.fnOf "_law_dip" "_law_dip" (defArgs s__law_dip) (defBody s__law_dip) (defScope s__law_dip) .none kV19 dc19 pm19 an19 cd19 ct19), sl19⟩)
    (c19 : PySem.W.codeIn K cd19 "_law_dip" = true)
    (k19 : PySem.W.keepIn K (.ref f19) = true)
    {f20 : Addr} {od20 an20 : Option Addr} {sl20 : Array (Option Value)} {oc20 kV20 dc20 pm20 cd20 ct20 : Value}
    (a20 : PySem.W.nsIn K mainGlobals "_law_same" = some (some (.ref f20)))
    (l20 : K.lookup f20 = some ⟨oc20, od20, .func (PySem.W.fnOf "_law_same" "_law_same" (defArgs s__law_same) (defBody s__law_same) (defScope s__law_same) .none kV20 dc20 pm20 an20 cd20 ct20), sl20⟩)
    (c20 : PySem.W.codeIn K cd20 "_law_same" = true)
    (k20 : PySem.W.keepIn K (.ref f20) = true)
    {f21 : Addr} {od21 an21 : Option Addr} {sl21 : Array (Option Value)} {oc21 kV21 dc21 pm21 cd21 ct21 : Value}
    (a21 : PySem.W.nsIn K mainGlobals "_law_shared" = some (some (.ref f21)))
    (l21 : K.lookup f21 = some ⟨oc21, od21, .func (PySem.W.fnOf "_law_shared" "_law_shared" (defArgs s__law_shared) (defBody s__law_shared) (defScope s__law_shared) .none kV21 dc21 pm21 an21 cd21 ct21), sl21⟩)
    (c21 : PySem.W.codeIn K cd21 "_law_shared" = true)
    (k21 : PySem.W.keepIn K (.ref f21) = true)
    {f22 : Addr} {od22 an22 : Option Addr} {sl22 : Array (Option Value)} {oc22 kV22 dc22 pm22 cd22 ct22 : Value}
    (a22 : PySem.W.nsIn K mainGlobals "_law_of" = some (some (.ref f22)))
    (l22 : K.lookup f22 = some ⟨oc22, od22, .func (PySem.W.fnOf "_law_of" "_law_of" (defArgs s__law_of) (defBody s__law_of) (defScope s__law_of) .none kV22 dc22 pm22 an22 cd22 ct22), sl22⟩)
    (c22 : PySem.W.codeIn K cd22 "_law_of" = true)
    (k22 : PySem.W.keepIn K (.ref f22) = true)
    {f23 : Addr} {od23 an23 : Option Addr} {sl23 : Array (Option Value)} {oc23 kV23 dc23 pm23 cd23 ct23 : Value}
    (a23 : PySem.W.nsIn K mainGlobals "_law_words" = some (some (.ref f23)))
    (l23 : K.lookup f23 = some ⟨oc23, od23, .func (PySem.W.fnOf "_law_words" "_law_words" (defArgs s__law_words) (defBody s__law_words) (defScope s__law_words) .none kV23 dc23 pm23 an23 cd23 ct23), sl23⟩)
    (c23 : PySem.W.codeIn K cd23 "_law_words" = true)
    (k23 : PySem.W.keepIn K (.ref f23) = true)
    {f24 : Addr} {od24 an24 : Option Addr} {sl24 : Array (Option Value)} {oc24 kV24 dc24 pm24 cd24 ct24 : Value}
    (a24 : PySem.W.nsIn K mainGlobals "_law_row" = some (some (.ref f24)))
    (l24 : K.lookup f24 = some ⟨oc24, od24, .func (PySem.W.fnOf "_law_row" "_law_row" (defArgs s__law_row) (defBody s__law_row) (defScope s__law_row) .none kV24 dc24 pm24 an24 cd24 ct24), sl24⟩)
    (c24 : PySem.W.codeIn K cd24 "_law_row" = true)
    (k24 : PySem.W.keepIn K (.ref f24) = true)
    {f25 : Addr} {od25 an25 : Option Addr} {sl25 : Array (Option Value)} {oc25 kV25 dc25 pm25 cd25 ct25 : Value}
    (a25 : PySem.W.nsIn K mainGlobals "_law_rows_drawn" = some (some (.ref f25)))
    (l25 : K.lookup f25 = some ⟨oc25, od25, .func (PySem.W.fnOf "_law_rows_drawn" "_law_rows_drawn" (defArgs s__law_rows_drawn) (defBody s__law_rows_drawn) (defScope s__law_rows_drawn) .none kV25 dc25 pm25 an25 cd25 ct25), sl25⟩)
    (c25 : PySem.W.codeIn K cd25 "_law_rows_drawn" = true)
    (k25 : PySem.W.keepIn K (.ref f25) = true)
    {f26 : Addr} {od26 an26 : Option Addr} {sl26 : Array (Option Value)} {oc26 kV26 dc26 pm26 cd26 ct26 : Value}
    (a26 : PySem.W.nsIn K mainGlobals "_law_reads" = some (some (.ref f26)))
    (l26 : K.lookup f26 = some ⟨oc26, od26, .func (PySem.W.fnOf "_law_reads" "_law_reads" (defArgs s__law_reads) (defBody s__law_reads) (defScope s__law_reads) .none kV26 dc26 pm26 an26 cd26 ct26), sl26⟩)
    (c26 : PySem.W.codeIn K cd26 "_law_reads" = true)
    (k26 : PySem.W.keepIn K (.ref f26) = true)
    {f27 : Addr} {od27 an27 : Option Addr} {sl27 : Array (Option Value)} {oc27 kV27 dc27 pm27 cd27 ct27 : Value}
    (a27 : PySem.W.nsIn K mainGlobals "_law_reckoned" = some (some (.ref f27)))
    (l27 : K.lookup f27 = some ⟨oc27, od27, .func (PySem.W.fnOf "_law_reckoned" "_law_reckoned" (defArgs s__law_reckoned) (defBody s__law_reckoned) (defScope s__law_reckoned) .none kV27 dc27 pm27 an27 cd27 ct27), sl27⟩)
    (c27 : PySem.W.codeIn K cd27 "_law_reckoned" = true)
    (k27 : PySem.W.keepIn K (.ref f27) = true)
    {f28 : Addr} {od28 an28 : Option Addr} {sl28 : Array (Option Value)} {oc28 kV28 dc28 pm28 cd28 ct28 : Value}
    (a28 : PySem.W.nsIn K mainGlobals "_law_next" = some (some (.ref f28)))
    (l28 : K.lookup f28 = some ⟨oc28, od28, .func (PySem.W.fnOf "_law_next" "_law_next" (defArgs s__law_next) (defBody s__law_next) (defScope s__law_next) .none kV28 dc28 pm28 an28 cd28 ct28), sl28⟩)
    (c28 : PySem.W.codeIn K cd28 "_law_next" = true)
    (k28 : PySem.W.keepIn K (.ref f28) = true)
    {f29 : Addr} {od29 an29 : Option Addr} {sl29 : Array (Option Value)} {oc29 kV29 dc29 pm29 cd29 ct29 : Value}
    (a29 : PySem.W.nsIn K mainGlobals "_law_folded" = some (some (.ref f29)))
    (l29 : K.lookup f29 = some ⟨oc29, od29, .func (PySem.W.fnOf "_law_folded" "_law_folded" (defArgs s__law_folded) (defBody s__law_folded) (defScope s__law_folded) .none kV29 dc29 pm29 an29 cd29 ct29), sl29⟩)
    (c29 : PySem.W.codeIn K cd29 "_law_folded" = true)
    (k29 : PySem.W.keepIn K (.ref f29) = true)
    {f30 : Addr} {od30 an30 : Option Addr} {sl30 : Array (Option Value)} {oc30 kV30 dc30 pm30 cd30 ct30 : Value}
    (a30 : PySem.W.nsIn K mainGlobals "_law_sparse" = some (some (.ref f30)))
    (l30 : K.lookup f30 = some ⟨oc30, od30, .func (PySem.W.fnOf "_law_sparse" "_law_sparse" (defArgs s__law_sparse) (defBody s__law_sparse) (defScope s__law_sparse) .none kV30 dc30 pm30 an30 cd30 ct30), sl30⟩)
    (c30 : PySem.W.codeIn K cd30 "_law_sparse" = true)
    (k30 : PySem.W.keepIn K (.ref f30) = true)
    {f31 : Addr} {od31 an31 : Option Addr} {sl31 : Array (Option Value)} {oc31 kV31 dc31 pm31 cd31 ct31 : Value}
    (a31 : PySem.W.nsIn K mainGlobals "law" = some (some (.ref f31)))
    (l31 : K.lookup f31 = some ⟨oc31, od31, .func (PySem.W.fnOf "law" "law" (defArgs s_law) (defBody s_law) (defScope s_law) .none kV31 dc31 pm31 an31 cd31 ct31), sl31⟩)
    (c31 : PySem.W.codeIn K cd31 "law" = true)
    (k31 : PySem.W.keepIn K (.ref f31) = true)
    (z_isinstance : PySem.W.nsIn K mainGlobals "isinstance" = some none)
    (z_bool : PySem.W.nsIn K mainGlobals "bool" = some none)
    (z_int : PySem.W.nsIn K mainGlobals "int" = some none)
    (z_all : PySem.W.nsIn K mainGlobals "all" = some none)
    (z_len : PySem.W.nsIn K mainGlobals "len" = some none)
    (z_str : PySem.W.nsIn K mainGlobals "str" = some none)
    (z_zip : PySem.W.nsIn K mainGlobals "zip" = some none)
    (z_tuple : PySem.W.nsIn K mainGlobals "tuple" = some none)
    (z_enumerate : PySem.W.nsIn K mainGlobals "enumerate" = some none)
    (z_min : PySem.W.nsIn K mainGlobals "min" = some none)
    (z_max : PySem.W.nsIn K mainGlobals "max" = some none)
    (z_dict : PySem.W.nsIn K mainGlobals "dict" = some none)
    (z_sorted : PySem.W.nsIn K mainGlobals "sorted" = some none)
    (z_range : PySem.W.nsIn K mainGlobals "range" = some none)
    (z_list : PySem.W.nsIn K mainGlobals "list" = some none)
    (z_set : PySem.W.nsIn K mainGlobals "set" = some none)
    (z_sum : PySem.W.nsIn K mainGlobals "sum" = some none)
    (z_repr : PySem.W.nsIn K mainGlobals "repr" = some none)
    {w_MOST_INDEX_t : Tok}
    (g_MOST_INDEX : PySem.W.nsIn K mainGlobals "MOST_INDEX" = some (some (.int (99) w_MOST_INDEX_t)))
    {w_MOST_CELL_t : Tok}
    (g_MOST_CELL : PySem.W.nsIn K mainGlobals "MOST_CELL" = some (some (.int (9999) w_MOST_CELL_t)))
    {w_ROUNDINGS : Addr}
    (g_ROUNDINGS : PySem.W.nsIn K mainGlobals "ROUNDINGS" = some (some (.ref w_ROUNDINGS)))
    {w_ROUNDINGS_0_t : Tok}
    {w_ROUNDINGS_1_t : Tok}
    {w_ROUNDINGS_2_t : Tok}
    {w_ROUNDINGS_od : Option Addr} {w_ROUNDINGS_m : Nat} {w_ROUNDINGS_sl : Array (Option Value)}
    (lt_w_ROUNDINGS : K.lookup w_ROUNDINGS = some ⟨.type "tuple", w_ROUNDINGS_od, .seq #[(.str "down" w_ROUNDINGS_0_t), (.str "up" w_ROUNDINGS_1_t), (.str "near" w_ROUNDINGS_2_t)] w_ROUNDINGS_m, w_ROUNDINGS_sl⟩)
    {dd_FORMS : Addr} {es_FORMS : Array DictEntry} {nn_FORMS : Nat}
    (g_FORMS : PySem.W.nsIn K mainGlobals "FORMS" = some (some (.ref dd_FORMS)))
    (ld_FORMS : K.lookup dd_FORMS = some ⟨.type "dict", none, .dict es_FORMS nn_FORMS, #[]⟩)
    (kl_FORMS : PySem.W.KeysLit w.params es_FORMS.toList)
    (lo_FORMS : (dd_FORMS == sysModules) = false)
    (q_FORMS : es_FORMS.toList.map DL.kk = cst_FORMS.map fun p => some p.1)
    {v_FORMS_0_t : Tok}
    (x_FORMS_0 : PySem.W.nsIn K dd_FORMS "put" = some (some (.str "cn" v_FORMS_0_t)))
    {v_FORMS_1_t : Tok}
    (x_FORMS_1 : PySem.W.nsIn K dd_FORMS "copy" = some (some (.str "cc" v_FORMS_1_t)))
    {v_FORMS_2_t : Tok}
    (x_FORMS_2 : PySem.W.nsIn K dd_FORMS "file" = some (some (.str "ci" v_FORMS_2_t)))
    {v_FORMS_3_t : Tok}
    (x_FORMS_3 : PySem.W.nsIn K dd_FORMS "told" = some (some (.str "ci" v_FORMS_3_t)))
    {v_FORMS_4_t : Tok}
    (x_FORMS_4 : PySem.W.nsIn K dd_FORMS "add" = some (some (.str "ccc" v_FORMS_4_t)))
    {v_FORMS_5_t : Tok}
    (x_FORMS_5 : PySem.W.nsIn K dd_FORMS "take" = some (some (.str "ccc" v_FORMS_5_t)))
    {v_FORMS_6_t : Tok}
    (x_FORMS_6 : PySem.W.nsIn K dd_FORMS "least" = some (some (.str "ccc" v_FORMS_6_t)))
    {v_FORMS_7_t : Tok}
    (x_FORMS_7 : PySem.W.nsIn K dd_FORMS "most" = some (some (.str "ccc" v_FORMS_7_t)))
    {v_FORMS_8_t : Tok}
    (x_FORMS_8 : PySem.W.nsIn K dd_FORMS "times" = some (some (.str "cmc" v_FORMS_8_t)))
    {v_FORMS_9_t : Tok}
    (x_FORMS_9 : PySem.W.nsIn K dd_FORMS "share" = some (some (.str "ccpqw" v_FORMS_9_t)))
    {v_FORMS_10_t : Tok}
    (x_FORMS_10 : PySem.W.nsIn K dd_FORMS "less" = some (some (.str "ccc" v_FORMS_10_t)))
    {v_FORMS_11_t : Tok}
    (x_FORMS_11 : PySem.W.nsIn K dd_FORMS "same" = some (some (.str "ccc" v_FORMS_11_t)))
    {v_FORMS_12_t : Tok}
    (x_FORMS_12 : PySem.W.nsIn K dd_FORMS "go" = some (some (.str "t" v_FORMS_12_t)))
    {v_FORMS_13_t : Tok}
    (x_FORMS_13 : PySem.W.nsIn K dd_FORMS "if" = some (some (.str "ct" v_FORMS_13_t)))
    {v_FORMS_14_t : Tok}
    (x_FORMS_14 : PySem.W.nsIn K dd_FORMS "bare" = some (some (.str "it" v_FORMS_14_t)))
    {v_FORMS_15_t : Tok}
    (x_FORMS_15 : PySem.W.nsIn K dd_FORMS "note" = some (some (.str "l" v_FORMS_15_t)))
    {v_FORMS_16_t : Tok}
    (x_FORMS_16 : PySem.W.nsIn K dd_FORMS "tell" = some (some (.str "cs" v_FORMS_16_t)))
    {v_FORMS_17_t : Tok}
    (x_FORMS_17 : PySem.W.nsIn K dd_FORMS "hangs" = some (some (.str "i" v_FORMS_17_t)))
    {w_MOST_ROWS_t : Tok}
    (g_MOST_ROWS : PySem.W.nsIn K mainGlobals "MOST_ROWS" = some (some (.int (20000) w_MOST_ROWS_t)))
    {w_SETTING : Addr}
    (g_SETTING : PySem.W.nsIn K mainGlobals "SETTING" = some (some (.ref w_SETTING)))
    {w_SETTING_0_t : Tok}
    {w_SETTING_1_t : Tok}
    {w_SETTING_2_t : Tok}
    {w_SETTING_3_t : Tok}
    {w_SETTING_4_t : Tok}
    {w_SETTING_5_t : Tok}
    {w_SETTING_6_t : Tok}
    {w_SETTING_7_t : Tok}
    {w_SETTING_8_t : Tok}
    {w_SETTING_9_t : Tok}
    {w_SETTING_10_t : Tok}
    {w_SETTING_11_t : Tok}
    {w_SETTING_od : Option Addr} {w_SETTING_m : Nat} {w_SETTING_sl : Array (Option Value)}
    (lt_w_SETTING : K.lookup w_SETTING = some ⟨.type "tuple", w_SETTING_od, .seq #[(.str "put" w_SETTING_0_t), (.str "copy" w_SETTING_1_t), (.str "file" w_SETTING_2_t), (.str "told" w_SETTING_3_t), (.str "add" w_SETTING_4_t), (.str "take" w_SETTING_5_t), (.str "least" w_SETTING_6_t), (.str "most" w_SETTING_7_t), (.str "times" w_SETTING_8_t), (.str "share" w_SETTING_9_t), (.str "less" w_SETTING_10_t), (.str "same" w_SETTING_11_t)] w_SETTING_m, w_SETTING_sl⟩)
    {w_JUMPING : Addr}
    (g_JUMPING : PySem.W.nsIn K mainGlobals "JUMPING" = some (some (.ref w_JUMPING)))
    {w_JUMPING_0_t : Tok}
    {w_JUMPING_1_t : Tok}
    {w_JUMPING_2_t : Tok}
    {w_JUMPING_od : Option Addr} {w_JUMPING_m : Nat} {w_JUMPING_sl : Array (Option Value)}
    (lt_w_JUMPING : K.lookup w_JUMPING = some ⟨.type "tuple", w_JUMPING_od, .seq #[(.str "go" w_JUMPING_0_t), (.str "if" w_JUMPING_1_t), (.str "bare" w_JUMPING_2_t)] w_JUMPING_m, w_JUMPING_sl⟩)
    {w_RECKONING : Addr}
    (g_RECKONING : PySem.W.nsIn K mainGlobals "RECKONING" = some (some (.ref w_RECKONING)))
    {w_RECKONING_0_t : Tok}
    {w_RECKONING_1_t : Tok}
    {w_RECKONING_2_t : Tok}
    {w_RECKONING_3_t : Tok}
    {w_RECKONING_4_t : Tok}
    {w_RECKONING_5_t : Tok}
    {w_RECKONING_6_t : Tok}
    {w_RECKONING_7_t : Tok}
    {w_RECKONING_8_t : Tok}
    {w_RECKONING_od : Option Addr} {w_RECKONING_m : Nat} {w_RECKONING_sl : Array (Option Value)}
    (lt_w_RECKONING : K.lookup w_RECKONING = some ⟨.type "tuple", w_RECKONING_od, .seq #[(.str "copy" w_RECKONING_0_t), (.str "add" w_RECKONING_1_t), (.str "take" w_RECKONING_2_t), (.str "least" w_RECKONING_3_t), (.str "most" w_RECKONING_4_t), (.str "times" w_RECKONING_5_t), (.str "share" w_RECKONING_6_t), (.str "less" w_RECKONING_7_t), (.str "same" w_RECKONING_8_t)] w_RECKONING_m, w_RECKONING_sl⟩)
    : ∃ fd : FuncData, (∀ (s : Shared) (v : Value), BindsTo s fd ⟨[v], []⟩ [("script", v)]) ∧ ∀ base : Heap, K.In base → base.Ns mainGlobals mg → FnG P w K mg base CX0 8 fa fd ["script"] (spP K 1 g_law) := by
  have e := hfa.symm.trans (PySem.W.mg_of X G a31)
  cases e
  have F0 := fun_mk (st := s_is_integer) l0 c0 k0
  have F1 := fun_mk (st := s_is_between) l1 c1 k1
  have F2 := fun_mk (st := s_is_word) l2 c2 k2
  have F3 := fun_mk (st := s_divided) l3 c3 k3
  have F4 := fun_mk (st := s_is_member) l4 c4 k4
  have F5 := fun_mk (st := s_is_row) l5 c5 k5
  have F6 := fun_mk (st := s_is_rows) l6 c6 k6
  have F7 := fun_mk (st := s_check_rows) l7 c7 k7
  have F8 := fun_mk (st := s_read_cells) l8 c8 k8
  have F9 := fun_mk (st := s_reckoned) l9 c9 k9
  have F10 := fun_mk (st := s_goal_of) l10 c10 k10
  have F11 := fun_mk (st := s_ways_of) l11 c11 k11
  have F12 := fun_mk (st := s_met_cells) l12 c12 k12
  have F13 := fun_mk (st := s_cells_behind) l13 c13 k13
  have F14 := fun_mk (st := s_folded_row) l14 c14 k14
  have F15 := fun_mk (st := s_cells_in) l15 c15 k15
  have F16 := fun_mk (st := s_folded_rows) l16 c16 k16
  have F17 := fun_mk (st := s_folded) l17 c17 k17
  have F18 := fun_mk (st := s__law_well) l18 c18 k18
  have F19 := fun_mk (st := s__law_dip) l19 c19 k19
  have F20 := fun_mk (st := s__law_same) l20 c20 k20
  have F21 := fun_mk (st := s__law_shared) l21 c21 k21
  have F22 := fun_mk (st := s__law_of) l22 c22 k22
  have F23 := fun_mk (st := s__law_words) l23 c23 k23
  have F24 := fun_mk (st := s__law_row) l24 c24 k24
  have F25 := fun_mk (st := s__law_rows_drawn) l25 c25 k25
  have F26 := fun_mk (st := s__law_reads) l26 c26 k26
  have F27 := fun_mk (st := s__law_reckoned) l27 c27 k27
  have F28 := fun_mk (st := s__law_next) l28 c28 k28
  have F29 := fun_mk (st := s__law_folded) l29 c29 k29
  have F30 := fun_mk (st := s__law_sparse) l30 c30 k30
  have F31 := fun_mk (st := s_law) l31 c31 k31
  let T : Tx w K mg := {
    a_is_integer := f0
    fd_is_integer := _
    d_is_integer := ⟨F0, F0.binds (ps := P_is_integer) fun _ _ _ _ _ _ us hl => match us, hl with | [_], _ => rfl, PySem.W.mg_of X G a0⟩
    a_is_between := f1
    fd_is_between := _
    d_is_between := ⟨F1, F1.binds (ps := P_is_between) fun _ _ _ _ _ _ us hl => match us, hl with | [_, _, _], _ => rfl, PySem.W.mg_of X G a1⟩
    a_is_word := f2
    fd_is_word := _
    d_is_word := ⟨F2, F2.binds (ps := P_is_word) fun _ _ _ _ _ _ us hl => match us, hl with | [_], _ => rfl, PySem.W.mg_of X G a2⟩
    a_divided := f3
    fd_divided := _
    d_divided := ⟨F3, F3.binds (ps := P_divided) fun _ _ _ _ _ _ us hl => match us, hl with | [_, _, _], _ => rfl, PySem.W.mg_of X G a3⟩
    a_is_member := f4
    fd_is_member := _
    d_is_member := ⟨F4, F4.binds (ps := P_is_member) fun _ _ _ _ _ _ us hl => match us, hl with | [_, _, _, _], _ => rfl, PySem.W.mg_of X G a4⟩
    a_is_row := f5
    fd_is_row := _
    d_is_row := ⟨F5, F5.binds (ps := P_is_row) fun _ _ _ _ _ _ us hl => match us, hl with | [_, _, _], _ => rfl, PySem.W.mg_of X G a5⟩
    a_is_rows := f6
    fd_is_rows := _
    d_is_rows := ⟨F6, F6.binds (ps := P_is_rows) fun _ _ _ _ _ _ us hl => match us, hl with | [_], _ => rfl, PySem.W.mg_of X G a6⟩
    a_check_rows := f7
    fd_check_rows := _
    d_check_rows := ⟨F7, F7.binds (ps := P_check_rows) fun _ _ _ _ _ _ us hl => match us, hl with | [_], _ => rfl, PySem.W.mg_of X G a7⟩
    a_read_cells := f8
    fd_read_cells := _
    d_read_cells := ⟨F8, F8.binds (ps := P_read_cells) fun _ _ _ _ _ _ us hl => match us, hl with | [_], _ => rfl, PySem.W.mg_of X G a8⟩
    a_reckoned := f9
    fd_reckoned := _
    d_reckoned := ⟨F9, F9.binds (ps := P_reckoned) fun _ _ _ _ _ _ us hl => match us, hl with | [_, _], _ => rfl, PySem.W.mg_of X G a9⟩
    a_goal_of := f10
    fd_goal_of := _
    d_goal_of := ⟨F10, F10.binds (ps := P_goal_of) fun _ _ _ _ _ _ us hl => match us, hl with | [_], _ => rfl, PySem.W.mg_of X G a10⟩
    a_ways_of := f11
    fd_ways_of := _
    d_ways_of := ⟨F11, F11.binds (ps := P_ways_of) fun _ _ _ _ _ _ us hl => match us, hl with | [_, _], _ => rfl, PySem.W.mg_of X G a11⟩
    a_met_cells := f12
    fd_met_cells := _
    d_met_cells := ⟨F12, F12.binds (ps := P_met_cells) fun _ _ _ _ _ _ us hl => match us, hl with | [_, _], _ => rfl, PySem.W.mg_of X G a12⟩
    a_cells_behind := f13
    fd_cells_behind := _
    d_cells_behind := ⟨F13, F13.binds (ps := P_cells_behind) fun _ _ _ _ _ _ us hl => match us, hl with | [_, _], _ => rfl, PySem.W.mg_of X G a13⟩
    a_folded_row := f14
    fd_folded_row := _
    d_folded_row := ⟨F14, F14.binds (ps := P_folded_row) fun _ _ _ _ _ _ us hl => match us, hl with | [_, _, _, _], _ => rfl, PySem.W.mg_of X G a14⟩
    a_cells_in := f15
    fd_cells_in := _
    d_cells_in := ⟨F15, F15.binds (ps := P_cells_in) fun _ _ _ _ _ _ us hl => match us, hl with | [_], _ => rfl, PySem.W.mg_of X G a15⟩
    a_folded_rows := f16
    fd_folded_rows := _
    d_folded_rows := ⟨F16, F16.binds (ps := P_folded_rows) fun _ _ _ _ _ _ us hl => match us, hl with | [_], _ => rfl, PySem.W.mg_of X G a16⟩
    a_folded := f17
    fd_folded := _
    d_folded := ⟨F17, F17.binds (ps := P_folded) fun _ _ _ _ _ _ us hl => match us, hl with | [_], _ => rfl, PySem.W.mg_of X G a17⟩
    a__law_well := f18
    fd__law_well := _
    d__law_well := ⟨F18, F18.binds (ps := P__law_well) fun _ _ _ _ _ _ us hl => match us, hl with | [_], _ => rfl, PySem.W.mg_of X G a18⟩
    a__law_dip := f19
    fd__law_dip := _
    d__law_dip := ⟨F19, F19.binds (ps := P__law_dip) fun _ _ _ _ _ _ us hl => match us, hl with | [_, _], _ => rfl, PySem.W.mg_of X G a19⟩
    a__law_same := f20
    fd__law_same := _
    d__law_same := ⟨F20, F20.binds (ps := P__law_same) fun _ _ _ _ _ _ us hl => match us, hl with | [_, _], _ => rfl, PySem.W.mg_of X G a20⟩
    a__law_shared := f21
    fd__law_shared := _
    d__law_shared := ⟨F21, F21.binds (ps := P__law_shared) fun _ _ _ _ _ _ us hl => match us, hl with | [_, _, _, _], _ => rfl, PySem.W.mg_of X G a21⟩
    a__law_of := f22
    fd__law_of := _
    d__law_of := ⟨F22, F22.binds (ps := P__law_of) fun _ _ _ _ _ _ us hl => match us, hl with | [_, _], _ => rfl, PySem.W.mg_of X G a22⟩
    a__law_words := f23
    fd__law_words := _
    d__law_words := ⟨F23, F23.binds (ps := P__law_words) fun _ _ _ _ _ _ us hl => match us, hl with | [], _ => rfl, PySem.W.mg_of X G a23⟩
    a__law_row := f24
    fd__law_row := _
    d__law_row := ⟨F24, F24.binds (ps := P__law_row) fun _ _ _ _ _ _ us hl => match us, hl with | [_, _, _, _], _ => rfl, PySem.W.mg_of X G a24⟩
    a__law_rows_drawn := f25
    fd__law_rows_drawn := _
    d__law_rows_drawn := ⟨F25, F25.binds (ps := P__law_rows_drawn) fun _ _ _ _ _ _ us hl => match us, hl with | [_, _, _], _ => rfl, PySem.W.mg_of X G a25⟩
    a__law_reads := f26
    fd__law_reads := _
    d__law_reads := ⟨F26, F26.binds (ps := P__law_reads) fun _ _ _ _ _ _ us hl => match us, hl with | [_], _ => rfl, PySem.W.mg_of X G a26⟩
    a__law_reckoned := f27
    fd__law_reckoned := _
    d__law_reckoned := ⟨F27, F27.binds (ps := P__law_reckoned) fun _ _ _ _ _ _ us hl => match us, hl with | [_, _], _ => rfl, PySem.W.mg_of X G a27⟩
    a__law_next := f28
    fd__law_next := _
    d__law_next := ⟨F28, F28.binds (ps := P__law_next) fun _ _ _ _ _ _ us hl => match us, hl with | [_, _], _ => rfl, PySem.W.mg_of X G a28⟩
    a__law_folded := f29
    fd__law_folded := _
    d__law_folded := ⟨F29, F29.binds (ps := P__law_folded) fun _ _ _ _ _ _ us hl => match us, hl with | [_], _ => rfl, PySem.W.mg_of X G a29⟩
    a__law_sparse := f30
    fd__law_sparse := _
    d__law_sparse := ⟨F30, F30.binds (ps := P__law_sparse) fun _ _ _ _ _ _ us hl => match us, hl with | [_, _], _ => rfl, PySem.W.mg_of X G a30⟩
    a_law := fa
    fd_law := _
    d_law := ⟨F31, F31.binds (ps := P_law) fun _ _ _ _ _ _ us hl => match us, hl with | [_], _ => rfl, PySem.W.mg_of X G a31⟩
    z_isinstance := PySem.W.mg_none_of X G z_isinstance
    z_bool := PySem.W.mg_none_of X G z_bool
    z_int := PySem.W.mg_none_of X G z_int
    z_all := PySem.W.mg_none_of X G z_all
    z_len := PySem.W.mg_none_of X G z_len
    z_str := PySem.W.mg_none_of X G z_str
    z_zip := PySem.W.mg_none_of X G z_zip
    z_tuple := PySem.W.mg_none_of X G z_tuple
    z_enumerate := PySem.W.mg_none_of X G z_enumerate
    z_min := PySem.W.mg_none_of X G z_min
    z_max := PySem.W.mg_none_of X G z_max
    z_dict := PySem.W.mg_none_of X G z_dict
    z_sorted := PySem.W.mg_none_of X G z_sorted
    z_range := PySem.W.mg_none_of X G z_range
    z_list := PySem.W.mg_none_of X G z_list
    z_set := PySem.W.mg_none_of X G z_set
    z_sum := PySem.W.mg_none_of X G z_sum
    z_repr := PySem.W.mg_none_of X G z_repr
    v_MOST_INDEX := (.int (99))
    c_MOST_INDEX := DL.cst_i (PySem.W.mg_of X G g_MOST_INDEX)
    v_MOST_CELL := (.int (9999))
    c_MOST_CELL := DL.cst_i (PySem.W.mg_of X G g_MOST_CELL)
    v_ROUNDINGS := .ref w_ROUNDINGS
    c_ROUNDINGS := DL.cst_t (PySem.W.mg_of X G g_ROUNDINGS) (DL.is_tupK (vs := [(.str "down"), (.str "up"), (.str "near")]) lt_w_ROUNDINGS (by simp) (.cons ⟨_, rfl⟩ (.cons ⟨_, rfl⟩ (.cons ⟨_, rfl⟩ .nil))) fun R => (.cons (.str _) (.cons (.str _) (.cons (.str _) .nil))))
    a_FORMS := dd_FORMS
    e_FORMS := es_FORMS
    n_FORMS := nn_FORMS
    c_FORMS := DL.kd_mk (PySem.W.mg_of X G g_FORMS) ld_FORMS kl_FORMS lo_FORMS q_FORMS ⟨⟨_, (.str "cn"), x_FORMS_0, ⟨_, rfl⟩, fun _ => (.str _)⟩, ⟨⟨_, (.str "cc"), x_FORMS_1, ⟨_, rfl⟩, fun _ => (.str _)⟩, ⟨⟨_, (.str "ci"), x_FORMS_2, ⟨_, rfl⟩, fun _ => (.str _)⟩, ⟨⟨_, (.str "ci"), x_FORMS_3, ⟨_, rfl⟩, fun _ => (.str _)⟩, ⟨⟨_, (.str "ccc"), x_FORMS_4, ⟨_, rfl⟩, fun _ => (.str _)⟩, ⟨⟨_, (.str "ccc"), x_FORMS_5, ⟨_, rfl⟩, fun _ => (.str _)⟩, ⟨⟨_, (.str "ccc"), x_FORMS_6, ⟨_, rfl⟩, fun _ => (.str _)⟩, ⟨⟨_, (.str "ccc"), x_FORMS_7, ⟨_, rfl⟩, fun _ => (.str _)⟩, ⟨⟨_, (.str "cmc"), x_FORMS_8, ⟨_, rfl⟩, fun _ => (.str _)⟩, ⟨⟨_, (.str "ccpqw"), x_FORMS_9, ⟨_, rfl⟩, fun _ => (.str _)⟩, ⟨⟨_, (.str "ccc"), x_FORMS_10, ⟨_, rfl⟩, fun _ => (.str _)⟩, ⟨⟨_, (.str "ccc"), x_FORMS_11, ⟨_, rfl⟩, fun _ => (.str _)⟩, ⟨⟨_, (.str "t"), x_FORMS_12, ⟨_, rfl⟩, fun _ => (.str _)⟩, ⟨⟨_, (.str "ct"), x_FORMS_13, ⟨_, rfl⟩, fun _ => (.str _)⟩, ⟨⟨_, (.str "it"), x_FORMS_14, ⟨_, rfl⟩, fun _ => (.str _)⟩, ⟨⟨_, (.str "l"), x_FORMS_15, ⟨_, rfl⟩, fun _ => (.str _)⟩, ⟨⟨_, (.str "cs"), x_FORMS_16, ⟨_, rfl⟩, fun _ => (.str _)⟩, ⟨⟨_, (.str "i"), x_FORMS_17, ⟨_, rfl⟩, fun _ => (.str _)⟩, trivial⟩⟩⟩⟩⟩⟩⟩⟩⟩⟩⟩⟩⟩⟩⟩⟩⟩⟩
    v_MOST_ROWS := (.int (20000))
    c_MOST_ROWS := DL.cst_i (PySem.W.mg_of X G g_MOST_ROWS)
    v_SETTING := .ref w_SETTING
    c_SETTING := DL.cst_t (PySem.W.mg_of X G g_SETTING) (DL.is_tupK (vs := [(.str "put"), (.str "copy"), (.str "file"), (.str "told"), (.str "add"), (.str "take"), (.str "least"), (.str "most"), (.str "times"), (.str "share"), (.str "less"), (.str "same")]) lt_w_SETTING (by simp) (.cons ⟨_, rfl⟩ (.cons ⟨_, rfl⟩ (.cons ⟨_, rfl⟩ (.cons ⟨_, rfl⟩ (.cons ⟨_, rfl⟩ (.cons ⟨_, rfl⟩ (.cons ⟨_, rfl⟩ (.cons ⟨_, rfl⟩ (.cons ⟨_, rfl⟩ (.cons ⟨_, rfl⟩ (.cons ⟨_, rfl⟩ (.cons ⟨_, rfl⟩ .nil)))))))))))) fun R => (.cons (.str _) (.cons (.str _) (.cons (.str _) (.cons (.str _) (.cons (.str _) (.cons (.str _) (.cons (.str _) (.cons (.str _) (.cons (.str _) (.cons (.str _) (.cons (.str _) (.cons (.str _) .nil)))))))))))))
    v_JUMPING := .ref w_JUMPING
    c_JUMPING := DL.cst_t (PySem.W.mg_of X G g_JUMPING) (DL.is_tupK (vs := [(.str "go"), (.str "if"), (.str "bare")]) lt_w_JUMPING (by simp) (.cons ⟨_, rfl⟩ (.cons ⟨_, rfl⟩ (.cons ⟨_, rfl⟩ .nil))) fun R => (.cons (.str _) (.cons (.str _) (.cons (.str _) .nil))))
    v_RECKONING := .ref w_RECKONING
    c_RECKONING := DL.cst_t (PySem.W.mg_of X G g_RECKONING) (DL.is_tupK (vs := [(.str "copy"), (.str "add"), (.str "take"), (.str "least"), (.str "most"), (.str "times"), (.str "share"), (.str "less"), (.str "same")]) lt_w_RECKONING (by simp) (.cons ⟨_, rfl⟩ (.cons ⟨_, rfl⟩ (.cons ⟨_, rfl⟩ (.cons ⟨_, rfl⟩ (.cons ⟨_, rfl⟩ (.cons ⟨_, rfl⟩ (.cons ⟨_, rfl⟩ (.cons ⟨_, rfl⟩ (.cons ⟨_, rfl⟩ .nil))))))))) fun R => (.cons (.str _) (.cons (.str _) (.cons (.str _) (.cons (.str _) (.cons (.str _) (.cons (.str _) (.cons (.str _) (.cons (.str _) (.cons (.str _) .nil))))))))))
  }
  exact ⟨PySem.W.fnOf "law" "law" (defArgs s_law) (defBody s_law) (defScope s_law) .none kV31 dc31 pm31 an31 cd31 ct31, fun s v => .of_eq rfl, fun base _ _ => ok_law (P := P) (base := base) T⟩
end K18.L17
open PySem PySem.W PyProof.Rows
set_option maxHeartbeats 0 in
theorem PySem.Challenge.cw_everyfolk_k17_whole_what_is_known_folded_holds : PySem.Challenge.rw_everyfolk_k17_whole_what_is_known_folded.Holds := by
  w_on; o_law; k_head; (case hw => w_witness2)
  k_fill
  refine DL.walkDG (l := PySem.Challenge.rw_everyfolk_k17_whole_what_is_known_folded) (n := 63) (k := 8) (g := K18.L17.g_law) (x := "script") rfl (by decide) rfl ⟨rfl, by decide, by decide⟩ (fun w h Y => PySem.W.kIn_of Y) (fun ns hn P hp => ⟨ns, rfl, hn, hp⟩) ?F
  case F =>
    intro w mg fa h KX G hmg
    refine' K18.L17.all_mk KX G hmg ?a0 ?l0 ?c0 ?k0 ?a1 ?l1 ?c1 ?k1 ?a2 ?l2 ?c2 ?k2 ?a3 ?l3 ?c3 ?k3 ?a4 ?l4 ?c4 ?k4 ?a5 ?l5 ?c5 ?k5 ?a6 ?l6 ?c6 ?k6 ?a7 ?l7 ?c7 ?k7 ?a8 ?l8 ?c8 ?k8 ?a9 ?l9 ?c9 ?k9 ?a10 ?l10 ?c10 ?k10 ?a11 ?l11 ?c11 ?k11 ?a12 ?l12 ?c12 ?k12 ?a13 ?l13 ?c13 ?k13 ?a14 ?l14 ?c14 ?k14 ?a15 ?l15 ?c15 ?k15 ?a16 ?l16 ?c16 ?k16 ?a17 ?l17 ?c17 ?k17 ?a18 ?l18 ?c18 ?k18 ?a19 ?l19 ?c19 ?k19 ?a20 ?l20 ?c20 ?k20 ?a21 ?l21 ?c21 ?k21 ?a22 ?l22 ?c22 ?k22 ?a23 ?l23 ?c23 ?k23 ?a24 ?l24 ?c24 ?k24 ?a25 ?l25 ?c25 ?k25 ?a26 ?l26 ?c26 ?k26 ?a27 ?l27 ?c27 ?k27 ?a28 ?l28 ?c28 ?k28 ?a29 ?l29 ?c29 ?k29 ?a30 ?l30 ?c30 ?k30 ?a31 ?l31 ?c31 ?k31 ?z_isinstance ?z_bool ?z_int ?z_all ?z_len ?z_str ?z_zip ?z_tuple ?z_enumerate ?z_min ?z_max ?z_dict ?z_sorted ?z_range ?z_list ?z_set ?z_sum ?z_repr ?g_MOST_INDEX ?g_MOST_CELL ?g_ROUNDINGS ?lt_w_ROUNDINGS ?g_FORMS ?ld_FORMS ?kl_FORMS ?lo_FORMS ?q_FORMS ?x_FORMS_0 ?x_FORMS_1 ?x_FORMS_2 ?x_FORMS_3 ?x_FORMS_4 ?x_FORMS_5 ?x_FORMS_6 ?x_FORMS_7 ?x_FORMS_8 ?x_FORMS_9 ?x_FORMS_10 ?x_FORMS_11 ?x_FORMS_12 ?x_FORMS_13 ?x_FORMS_14 ?x_FORMS_15 ?x_FORMS_16 ?x_FORMS_17 ?g_MOST_ROWS ?g_SETTING ?lt_w_SETTING ?g_JUMPING ?lt_w_JUMPING ?g_RECKONING ?lt_w_RECKONING
    (case a0 => k_is); (case l0 => k_is); (case c0 => k_is); (case k0 => k_is); (case a1 => k_is); (case l1 => k_is); (case c1 => k_is); (case k1 => k_is); (case a2 => k_is); (case l2 => k_is); (case c2 => k_is); (case k2 => k_is); (case a3 => k_is); (case l3 => k_is); (case c3 => k_is); (case k3 => k_is); (case a4 => k_is); (case l4 => k_is); (case c4 => k_is); (case k4 => k_is); (case a5 => k_is); (case l5 => k_is); (case c5 => k_is); (case k5 => k_is); (case a6 => k_is); (case l6 => k_is); (case c6 => k_is); (case k6 => k_is); (case a7 => k_is); (case l7 => k_is); (case c7 => k_is); (case k7 => k_is); (case a8 => k_is); (case l8 => k_is); (case c8 => k_is); (case k8 => k_is); (case a9 => k_is); (case l9 => k_is); (case c9 => k_is); (case k9 => k_is); (case a10 => k_is); (case l10 => k_is); (case c10 => k_is); (case k10 => k_is); (case a11 => k_is); (case l11 => k_is); (case c11 => k_is); (case k11 => k_is); (case a12 => k_is); (case l12 => k_is); (case c12 => k_is); (case k12 => k_is); (case a13 => k_is); (case l13 => k_is); (case c13 => k_is); (case k13 => k_is); (case a14 => k_is); (case l14 => k_is); (case c14 => k_is); (case k14 => k_is); (case a15 => k_is); (case l15 => k_is); (case c15 => k_is); (case k15 => k_is); (case a16 => k_is); (case l16 => k_is); (case c16 => k_is); (case k16 => k_is); (case a17 => k_is); (case l17 => k_is); (case c17 => k_is); (case k17 => k_is); (case a18 => k_is); (case l18 => k_is); (case c18 => k_is); (case k18 => k_is); (case a19 => k_is); (case l19 => k_is); (case c19 => k_is); (case k19 => k_is); (case a20 => k_is); (case l20 => k_is); (case c20 => k_is); (case k20 => k_is); (case a21 => k_is); (case l21 => k_is); (case c21 => k_is); (case k21 => k_is); (case a22 => k_is); (case l22 => k_is); (case c22 => k_is); (case k22 => k_is); (case a23 => k_is); (case l23 => k_is); (case c23 => k_is); (case k23 => k_is); (case a24 => k_is); (case l24 => k_is); (case c24 => k_is); (case k24 => k_is); (case a25 => k_is); (case l25 => k_is); (case c25 => k_is); (case k25 => k_is); (case a26 => k_is); (case l26 => k_is); (case c26 => k_is); (case k26 => k_is); (case a27 => k_is); (case l27 => k_is); (case c27 => k_is); (case k27 => k_is); (case a28 => k_is); (case l28 => k_is); (case c28 => k_is); (case k28 => k_is); (case a29 => k_is); (case l29 => k_is); (case c29 => k_is); (case k29 => k_is); (case a30 => k_is); (case l30 => k_is); (case c30 => k_is); (case k30 => k_is); (case a31 => k_is); (case l31 => k_is); (case c31 => k_is); (case k31 => k_is); (case z_isinstance => k_is); (case z_bool => k_is); (case z_int => k_is); (case z_all => k_is); (case z_len => k_is); (case z_str => k_is); (case z_zip => k_is); (case z_tuple => k_is); (case z_enumerate => k_is); (case z_min => k_is); (case z_max => k_is); (case z_dict => k_is); (case z_sorted => k_is); (case z_range => k_is); (case z_list => k_is); (case z_set => k_is); (case z_sum => k_is); (case z_repr => k_is); (case g_MOST_INDEX => k_is); (case g_MOST_CELL => k_is); (case g_ROUNDINGS => k_is); (case lt_w_ROUNDINGS => k_is); (case g_FORMS => k_is); (case ld_FORMS => k_is); (case kl_FORMS => k_keys); (case lo_FORMS => decide); (case q_FORMS => rfl); (case x_FORMS_0 => k_is); (case x_FORMS_1 => k_is); (case x_FORMS_2 => k_is); (case x_FORMS_3 => k_is); (case x_FORMS_4 => k_is); (case x_FORMS_5 => k_is); (case x_FORMS_6 => k_is); (case x_FORMS_7 => k_is); (case x_FORMS_8 => k_is); (case x_FORMS_9 => k_is); (case x_FORMS_10 => k_is); (case x_FORMS_11 => k_is); (case x_FORMS_12 => k_is); (case x_FORMS_13 => k_is); (case x_FORMS_14 => k_is); (case x_FORMS_15 => k_is); (case x_FORMS_16 => k_is); (case x_FORMS_17 => k_is); (case g_MOST_ROWS => k_is); (case g_SETTING => k_is); (case lt_w_SETTING => k_is); (case g_JUMPING => k_is); (case lt_w_JUMPING => k_is); (case g_RECKONING => k_is); (case lt_w_RECKONING => k_is)
