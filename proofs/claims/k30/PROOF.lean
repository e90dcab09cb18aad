import PyProof.Rows.All
import Wide.All
import OpenK.AllK
import Wide.FinOn
import HandS.ForMost
import HandS.Flow
import HandS.Star
import HandS.IsInst
import HandS.Wide
import HandS.Conv
import HandS.Style
import PySem.Challenge.RW_undersums_k30_whole_sums_over_all_partin
set_option Elab.async false
set_option linter.all false
set_option maxRecDepth 100000
set_option maxHeartbeats 2000000
/-! DL: a data layer over the hand layer: values as trees of data, what is owned by name, weakest wishes. -/
namespace DL
open PySem PySem.Spec PyProof.Rows L2

/-- what a value is worth -/
inductive D where
  | non | bl (b : Bool) | int (i : Int) | str (x : Str) | ty (n : String)
  /-- an object by its address alone (owned by someone) -/
  | ptr (a : Addr)
  | lst (xs : List D) | tup (xs : List D)
  /-- a list that is read only (the script) -/
  | rol (xs : List D)
  | dK (kvs : List (Key × D)) | dT (kvs : List (List Key × D))
  | ins (C : Addr) (fs : List (Str × D))

mutual
inductive Is (K : PySem.W.Frag) (F : Hp) : V → D → Prop
  | non : Is K F .non .non
  | bl (b : Bool) : Is K F (.bl b) (.bl b)
  | int (i : Int) : Is K F (.int i) (.int i)
  | str (x : Str) : Is K F (.str x) (.str x)
  | ty (n : String) : Is K F (.ty n) (.ty n)
  | ptr (a : Addr) : Is K F (.ref a) (.ptr a)
  | lst {a : Addr} {xs : List V} {ds : List D} : F a = some (.lst xs) → IsL K F xs ds → Is K F (.ref a) (.lst ds)
  | tup {a : Addr} {xs : List V} {ds : List D} : SqT K F a xs → IsL K F xs ds → Is K F (.ref a) (.tup ds)
  | rol {a : Addr} {xs : List V} {ds : List D} : SqL K F a xs → IsL K F xs ds → Is K F (.ref a) (.rol ds)
  | dK {a : Addr} {xs : List (Key × V)} {ds : List (Key × D)} : Rd F a (.dK xs) → IsA K F Key xs ds → Is K F (.ref a) (.dK ds)
  | dT {a : Addr} {xs : List (List Key × V)} {ds : List (List Key × D)} : Rd F a (.dT xs) → IsA K F (List Key) xs ds → Is K F (.ref a) (.dT ds)
  | ins {a C dx : Addr} {xs : List (Str × V)} {ds : List (Str × D)} : F a = some (.ins C dx xs) → IsA K F Str xs ds → Is K F (.ref a) (.ins C ds)
inductive IsL (K : PySem.W.Frag) (F : Hp) : List V → List D → Prop
  | nil : IsL K F [] []
  | cons {v : V} {d : D} {vs : List V} {ds : List D} : Is K F v d → IsL K F vs ds → IsL K F (v :: vs) (d :: ds)
inductive IsA (K : PySem.W.Frag) (F : Hp) : (κ : Type) → List (κ × V) → List (κ × D) → Prop
  | nil {κ : Type} : IsA K F κ [] []
  | cons {κ : Type} {k : κ} {v : V} {d : D} {vs : List (κ × V)} {ds : List (κ × D)} : Is K F v d → IsA K F κ vs ds → IsA K F κ ((k, v) :: vs) ((k, d) :: ds)
end

/-- heaps grow -/
def Gr (F F' : Hp) : Prop := ∀ a o, F a = some o → F' a = some o
theorem Gr.refl (F : Hp) : Gr F F := fun _ _ h => h
theorem Gr.trans {F F1 F2 : Hp} (a : Gr F F1) (b : Gr F1 F2) : Gr F F2 := fun x o h => b x o (a x o h)
theorem Gr.new {F : Hp} {p : Addr} {o : HO} (h : F p = none) : Gr F (upd F p o) := fun a u e => by
  rw [upd_ne (ne_of_none e h)]
  exact e
theorem Gr.rd {F F' : Hp} {a : Addr} {u : HO} (e : Gr F F') (h : Rd F a u) : Rd F' a u := by
  rcases h with h | ⟨o, h⟩
  · exact .inl (e a _ h)
  · exact .inr ⟨o, e a _ h⟩
theorem Gr.sqt {K : PySem.W.Frag} {F F' : Hp} {a : Addr} {xs : List V} (e : Gr F F') (h : SqT K F a xs) : SqT K F' a xs := h.elim (fun z => .inl (e.rd z)) .inr
theorem Gr.sql {K : PySem.W.Frag} {F F' : Hp} {a : Addr} {xs : List V} (e : Gr F F') (h : SqL K F a xs) : SqL K F' a xs := h.elim (fun z => .inl (e.rd z)) .inr

section
variable {K : PySem.W.Frag} {F F' : Hp}
mutual
theorem is_mono (e : Gr F F') : ∀ (d : D) (v : V), Is K F v d → Is K F' v d
  | .non, _, h => by cases h; exact .non
  | .bl b, _, h => by cases h; exact .bl b
  | .int i, _, h => by cases h; exact .int i
  | .str x, _, h => by cases h; exact .str x
  | .ty n, _, h => by cases h; exact .ty n
  | .ptr a, _, h => by cases h; exact .ptr a
  | .lst ds, _, h => by
    cases h with
    | lst h1 h2 => exact .lst (e _ _ h1) (isl_mono e ds _ h2)
  | .tup ds, _, h => by
    cases h with
    | tup h1 h2 => exact .tup (e.sqt h1) (isl_mono e ds _ h2)
  | .rol ds, _, h => by
    cases h with
    | rol h1 h2 => exact .rol (e.sql h1) (isl_mono e ds _ h2)
  | .dK ds, _, h => by
    cases h with
    | dK h1 h2 => exact .dK (e.rd h1) (isk_mono e ds _ h2)
  | .dT ds, _, h => by
    cases h with
    | dT h1 h2 => exact .dT (e.rd h1) (ist_mono e ds _ h2)
  | .ins C ds, _, h => by
    cases h with
    | ins h1 h2 => exact .ins (e _ _ h1) (isf_mono e ds _ h2)
theorem isl_mono (e : Gr F F') : ∀ (ds : List D) (vs : List V), IsL K F vs ds → IsL K F' vs ds
  | [], _, h => by cases h; exact .nil
  | d :: ds, _, h => by
    cases h with
    | cons h1 h2 => exact .cons (is_mono e d _ h1) (isl_mono e ds _ h2)
theorem isk_mono (e : Gr F F') : ∀ (ds : List (Key × D)) (vs : List (Key × V)), IsA K F Key vs ds → IsA K F' Key vs ds
  | [], _, h => by cases h; exact .nil
  | (k, d) :: ds, _, h => by
    cases h with
    | cons h1 h2 => exact .cons (is_mono e d _ h1) (isk_mono e ds _ h2)
theorem ist_mono (e : Gr F F') : ∀ (ds : List (List Key × D)) (vs : List (List Key × V)), IsA K F (List Key) vs ds → IsA K F' (List Key) vs ds
  | [], _, h => by cases h; exact .nil
  | (k, d) :: ds, _, h => by
    cases h with
    | cons h1 h2 => exact .cons (is_mono e d _ h1) (ist_mono e ds _ h2)
theorem isf_mono (e : Gr F F') : ∀ (ds : List (Str × D)) (vs : List (Str × V)), IsA K F Str vs ds → IsA K F' Str vs ds
  | [], _, h => by cases h; exact .nil
  | (k, d) :: ds, _, h => by
    cases h with
    | cons h1 h2 => exact .cons (is_mono e d _ h1) (isf_mono e ds _ h2)
end
theorem Is.mono {v : V} {d : D} (h : Is K F v d) (e : Gr F F') : Is K F' v d := is_mono e d v h
theorem IsL.mono {v : List V} {d : List D} (h : IsL K F v d) (e : Gr F F') : IsL K F' v d := isl_mono e d v h
theorem IsA.mono {κ : Type} : ∀ {vs : List (κ × V)} {ds : List (κ × D)}, IsA K F κ vs ds → Gr F F' → IsA K F' κ vs ds
  | [], [], _, _ => .nil
  | (k, v) :: vs, (k', d) :: ds, h, e => by
    cases h with
    | cons h1 h2 => exact .cons (h1.mono e) (IsA.mono h2 e)
  | [], _ :: _, h, _ => by cases h
  | _ :: _, [], h, _ => by cases h
theorem IsL.length : ∀ {vs : List V} {ds : List D}, IsL K F vs ds → vs.length = ds.length
  | _, _, .nil => rfl
  | _, _, .cons _ t => by rw [List.length_cons, List.length_cons, IsL.length t]
theorem IsL.get : ∀ {vs : List V} {ds : List D} {i : Nat} {d : D}, IsL K F vs ds → ds[i]? = some d → ∃ v, vs[i]? = some v ∧ Is K F v d
  | _, _, _, _, .nil, e => by simp at e
  | _, _, 0, _, .cons r _, e => by
    have e' : _ = _ := Option.some.inj (by simpa using e)
    subst e'
    exact ⟨_, rfl, r⟩
  | _, _, i + 1, d, .cons _ t, e => by
    obtain ⟨u, h1, h2⟩ := IsL.get (i := i) (d := d) t (by simpa using e)
    exact ⟨u, by simpa using h1, h2⟩
theorem IsL.get' : ∀ {vs : List V} {ds : List D} {i : Nat} {v : V}, IsL K F vs ds → vs[i]? = some v → ∃ d, ds[i]? = some d ∧ Is K F v d
  | _, _, _, _, .nil, e => by simp at e
  | _, _, 0, _, .cons r _, e => by
    have e' : _ = _ := Option.some.inj (by simpa using e)
    subst e'
    exact ⟨_, rfl, r⟩
  | _, _, i + 1, d, .cons _ t, e => by
    obtain ⟨u, h1, h2⟩ := IsL.get' (i := i) t (by simpa using e)
    exact ⟨u, by simpa using h1, h2⟩
theorem IsL.append : ∀ {xs ys : List V} {ds es : List D}, IsL K F xs ds → IsL K F ys es → IsL K F (xs ++ ys) (ds ++ es)
  | _, _, _, _, .nil, s => s
  | _, _, _, _, .cons r t, s => .cons r (IsL.append t s)
theorem IsL.take : ∀ {xs : List V} {ds : List D} (n : Nat), IsL K F xs ds → IsL K F (xs.take n) (ds.take n)
  | _, _, 0, _ => .nil
  | _, _, _ + 1, .nil => .nil
  | _, _, n + 1, .cons r t => .cons r (IsL.take n t)
theorem IsL.drop : ∀ {xs : List V} {ds : List D} (n : Nat), IsL K F xs ds → IsL K F (xs.drop n) (ds.drop n)
  | _, _, 0, r => r
  | _, _, _ + 1, .nil => .nil
  | _, _, n + 1, .cons _ t => IsL.drop n t
theorem IsL.set {v : V} {d : D} (r : Is K F v d) : ∀ {xs : List V} {ds : List D} (i : Nat), IsL K F xs ds → IsL K F (xs.set i v) (ds.set i d)
  | _, _, _, .nil => .nil
  | _, _, 0, .cons _ t => .cons r t
  | _, _, i + 1, .cons q t => .cons q (IsL.set r i t)
theorem IsL.eraseIdx : ∀ {xs : List V} {ds : List D} (i : Nat), IsL K F xs ds → IsL K F (xs.eraseIdx i) (ds.eraseIdx i)
  | _, _, _, .nil => .nil
  | _, _, 0, .cons _ t => t
  | _, _, i + 1, .cons q t => .cons q (IsL.eraseIdx i t)
theorem IsL.dropLast : ∀ {xs : List V} {ds : List D}, IsL K F xs ds → IsL K F xs.dropLast ds.dropLast
  | _, _, .nil => .nil
  | _, _, .cons _ .nil => .nil
  | _, _, .cons q (.cons r t) => .cons q (IsL.dropLast (.cons r t))
theorem IsL.reverse : ∀ {xs : List V} {ds : List D}, IsL K F xs ds → IsL K F xs.reverse ds.reverse
  | _, _, .nil => .nil
  | _, _, .cons q t => by
    rw [List.reverse_cons, List.reverse_cons]
    exact (IsL.reverse t).append (.cons q .nil)
theorem isl_replicate {v : V} {d : D} (r : Is K F v d) : ∀ n : Nat, IsL K F (List.replicate n v) (List.replicate n d)
  | 0 => .nil
  | n + 1 => .cons r (isl_replicate r n)
theorem isl_ints : ∀ ns : List Int, IsL K F (ns.map V.int) (ns.map D.int)
  | [] => .nil
  | n :: ns => .cons (.int n) (isl_ints ns)
theorem isl_ints' : ∀ (ns : List Int) (vs : List V), IsL K F vs (ns.map D.int) → vs = ns.map V.int
  | [], _, h => by cases h; rfl
  | n :: ns, _, h => by
    cases h with
    | cons h1 h2 =>
      cases h1
      rw [isl_ints' ns _ h2]
      rfl
theorem isl_bls' : ∀ (ns : List Bool) (vs : List V), IsL K F vs (ns.map D.bl) → vs = ns.map V.bl
  | [], _, h => by cases h; rfl
  | n :: ns, _, h => by
    cases h with
    | cons h1 h2 =>
      cases h1
      rw [isl_bls' ns _ h2]
      rfl
theorem isl_strs' : ∀ (ns : List Str) (vs : List V), IsL K F vs (ns.map D.str) → vs = ns.map V.str
  | [], _, h => by cases h; rfl
  | n :: ns, _, h => by
    cases h with
    | cons h1 h2 =>
      cases h1
      rw [isl_strs' ns _ h2]
      rfl
end

/-! ### what is owned -/
inductive O where
  | lst (ds : List D) | dK (kvs : List (Key × D)) | dT (kvs : List (List Key × D)) | tup (ds : List D)
  | ins (C dx : Addr) (fs : List (Str × D))
inductive Own (K : PySem.W.Frag) (F : Hp) : HO → O → Prop
  | lst {vs ds} : IsL K F vs ds → Own K F (.lst vs) (.lst ds)
  | tup {vs ds} : IsL K F vs ds → Own K F (.tup vs) (.tup ds)
  | dK {vs ds} : IsA K F Key vs ds → Own K F (.dK vs) (.dK ds)
  | dT {vs ds} : IsA K F (List Key) vs ds → Own K F (.dT vs) (.dT ds)
  | ins {C dx vs ds} : IsA K F Str vs ds → Own K F (.ins C dx vs) (.ins C dx ds)
/-- what it is worth when it is let go -/
def O.d : O → D
  | .lst ds => .lst ds | .tup ds => .tup ds | .dK kvs => .dK kvs | .dT kvs => .dT kvs | .ins C _ fs => .ins C fs
theorem Own.mono {K : PySem.W.Frag} {F F' : Hp} {h : HO} {o : O} (w : Own K F h o) (e : Gr F F') : Own K F' h o := by
  cases w with
  | lst r => exact .lst (r.mono e)
  | tup r => exact .tup (r.mono e)
  | dK r => exact .dK (r.mono e)
  | dT r => exact .dT (r.mono e)
  | ins r => exact .ins (r.mono e)
theorem Own.is {K : PySem.W.Frag} {F : Hp} {h : HO} {o : O} {p : Addr} (w : Own K F h o) (e : F p = some h) : Is K F (.ref p) o.d := by
  cases w with
  | lst r => exact .lst e r
  | tup r => exact .tup (.inl (.inl e)) r
  | dK r => exact .dK (.inl e) r
  | dT r => exact .dT (.inl e) r
  | ins r => exact .ins e r

abbrev Ms := List (Addr × O)
abbrev Gm := List (Option D)
structure Rep (K : PySem.W.Frag) (F H : Hp) (M : Ms) : Prop where
  le : Gr F H
  nd : (M.map (·.1)).Nodup
  own : ∀ p ∈ M, F p.1 = none ∧ ∃ ho, H p.1 = some ho ∧ Own K F ho p.2
structure Ext (F H : Hp) (M : Ms) (F' H' : Hp) (M' : Ms) : Prop where
  f : Gr F F'
  h : ∀ a o, H a = some o → a ∉ M.map (·.1) → H' a = some o
  n : ∀ a, F' a ≠ none → F a ≠ none ∨ H a = none ∨ a ∈ M.map (·.1)
  m : ∀ a ∈ M'.map (·.1), H a = none ∨ a ∈ M.map (·.1)
structure RepS (K : PySem.W.Frag) (F : Hp) (σ : L2.St) (Γ : Gm) : Prop where
  len : σ.length = Γ.length
  at' : ∀ (i : Nat) (d : D), Γ[i]? = some (some d) → ∃ v, σ[i]? = some (some v) ∧ Is K F v d

section
variable {K : PySem.W.Frag} {F H F1 H1 F2 H2 : Hp} {M M1 M2 : Ms} {σ : L2.St} {Γ : Gm}
theorem Ext.refl : Ext F H M F H M := ⟨Gr.refl F, fun _ _ h _ => h, fun _ h => .inl h, fun _ h => .inr h⟩
theorem Ext.trans (x : Ext F H M F1 H1 M1) (y : Ext F1 H1 M1 F2 H2 M2) : Ext F H M F2 H2 M2 := by
  have back : ∀ a, H1 a = none → H a = none ∨ a ∈ M.map (·.1) := fun a e => by
    by_cases hm : a ∈ M.map (·.1)
    · exact .inr hm
    · cases q : H a with
      | none => exact .inl rfl
      | some o =>
        rw [x.h a o q hm] at e
        cases e
  refine ⟨x.f.trans y.f, fun a o e hm => y.h a o (x.h a o e hm) fun z => ?_, fun a e => ?_, fun a e => ?_⟩
  · rcases x.m a z with w | w
    · rw [e] at w; cases w
    · exact hm w
  · rcases y.n a e with z | z | z
    · exact x.n a z
    · exact .inr (back a z)
    · exact .inr (x.m a z)
  · rcases y.m a e with z | z
    · exact back a z
    · exact x.m a z
theorem RepS.mono (s : RepS K F σ Γ) (e : Gr F F1) : RepS K F1 σ Γ := ⟨s.len, fun i d h => let ⟨v, h1, h2⟩ := s.at' i d h; ⟨v, h1, h2.mono e⟩⟩
theorem RepS.set {v : V} {d : D} (s : RepS K F σ Γ) (i : Nat) (h : Is K F v d) : RepS K F (σ.set i (some v)) (Γ.set i (some d)) := by
  refine ⟨by rw [List.length_set, List.length_set]; exact s.len, fun j e hj => ?_⟩
  by_cases hij : i = j
  · subst hij
    by_cases hi : i < Γ.length
    · rw [List.getElem?_set_self hi] at hj
      have e' : d = e := Option.some.inj (Option.some.inj hj)
      subst e'
      exact ⟨v, by rw [List.getElem?_set_self (by rw [s.len]; exact hi)], h⟩
    · rw [List.getElem?_eq_none (by rw [List.length_set]; omega)] at hj
      cases hj
  · rw [List.getElem?_set_ne hij] at hj
    rw [List.getElem?_set_ne hij]
    exact s.at' j e hj
theorem RepS.unset (s : RepS K F σ Γ) (i : Nat) : RepS K F σ (Γ.set i none) := by
  refine ⟨by rw [List.length_set]; exact s.len, fun j e hj => ?_⟩
  by_cases hij : i = j
  · subst hij
    by_cases hi : i < Γ.length
    · rw [List.getElem?_set_self hi] at hj
      cases hj
    · rw [List.getElem?_eq_none (by rw [List.length_set]; omega)] at hj
      cases hj
  · rw [List.getElem?_set_ne hij] at hj
    exact s.at' j e hj
def wipeG (Γ : Gm) : List Nat → Gm
  | [] => Γ
  | v :: vs => (wipeG Γ vs).set v none
theorem RepS.wipe (s : RepS K F σ Γ) : ∀ vs : List Nat, RepS K F (wipe σ vs) (wipeG Γ vs)
  | [] => s
  | v :: vs => by
    have ih := RepS.wipe s vs
    unfold L2.wipe wipeG
    refine ⟨by rw [List.length_set, List.length_set]; exact ih.len, fun j e hj => ?_⟩
    by_cases hij : v = j
    · subst hij
      by_cases hi : v < (wipeG Γ vs).length
      · rw [List.getElem?_set_self hi] at hj
        cases hj
      · rw [List.getElem?_eq_none (by rw [List.length_set]; omega)] at hj
        cases hj
    · rw [List.getElem?_set_ne hij] at hj
      rw [List.getElem?_set_ne hij]
      exact ih.at' j e hj
/-- more becomes known of what no owned thing is -/
theorem Rep.put {p : Addr} {o : HO} (r : Rep K F H M) (e : H p = some o) (n : p ∉ M.map (·.1)) (hf : F p = none) : Rep K (upd F p o) H M := by
  have g : Gr F (upd F p o) := Gr.new hf
  refine ⟨fun a u h => ?_, r.nd, fun q hq => ?_⟩
  · by_cases ha : a = p
    · subst ha
      rw [upd_same] at h
      rw [← h]
      exact e
    · rw [upd_ne ha] at h
      exact r.le a u h
  · obtain ⟨h1, ho, h2, h3⟩ := r.own q hq
    have hne : q.1 ≠ p := fun z => n (z ▸ List.mem_map_of_mem hq)
    exact ⟨by rw [upd_ne hne]; exact h1, ho, h2, h3.mono g⟩
end
end DL


set_option Elab.async false
set_option linter.all false
set_option maxRecDepth 100000
set_option maxHeartbeats 2000000
namespace DL
open PySem PySem.Spec PyProof.Rows L2 StX

section
variable {K : PySem.W.Frag} {F H F1 H1 F2 H2 F' H' : Hp} {M M1 M2 M' A B : Ms} {σ : L2.St} {Γ : Gm} {p : Addr} {o : O} {ho : HO} {v : V} {d : D}

/-! ### owned things -/
theorem mem_fst {p : Addr} {o : O} {M : Ms} (h : (p, o) ∈ M) : p ∈ M.map (·.1) := List.mem_map_of_mem h
theorem nd_mem : ∀ {M : Ms} {p : Addr} {o o' : O}, (M.map (·.1)).Nodup → (p, o) ∈ M → (p, o') ∈ M → o = o'
  | [], _, _, _, _, h, _ => by simp at h
  | (q, u) :: M, p, o, o', nd, h, h' => by
    rw [List.map_cons, List.nodup_cons] at nd
    rcases List.mem_cons.mp h with e | e
    · rcases List.mem_cons.mp h' with e' | e'
      · rw [Prod.mk.injEq] at e e'
        exact e.2.trans e'.2.symm
      · rw [Prod.mk.injEq] at e
        exact absurd (mem_fst e') (e.1 ▸ nd.1)
    · rcases List.mem_cons.mp h' with e' | e'
      · rw [Prod.mk.injEq] at e'
        exact absurd (mem_fst e) (e'.1 ▸ nd.1)
      · exact nd_mem nd.2 e e'
theorem Rep.sub (r : Rep K F H M) (s : List.Sublist M' M) : Rep K F H M' := ⟨r.le, r.nd.sublist (s.map _), fun q hq => r.own q (s.subset hq)⟩
theorem Rep.fresh (r : Rep K F H M) {p : Addr} (e : H p = none) : F p = none ∧ p ∉ M.map (·.1) := by
  refine ⟨?_, fun z => ?_⟩
  · cases q : F p with
    | none => rfl
    | some u => rw [r.le p u q] at e; cases e
  · obtain ⟨q, hq, rfl⟩ := List.mem_map.mp z
    obtain ⟨_, ho, h, _⟩ := r.own q hq
    rw [h] at e; cases e
theorem Rep.notF (r : Rep K F H M) {p : Addr} (h : p ∈ M.map (·.1)) : F p = none := by
  obtain ⟨q, hq, rfl⟩ := List.mem_map.mp h
  exact (r.own q hq).1
theorem Rep.isSome (r : Rep K F H M) {p : Addr} (h : p ∈ M.map (·.1)) : H p ≠ none := by
  obtain ⟨q, hq, rfl⟩ := List.mem_map.mp h
  obtain ⟨_, ho, h, _⟩ := r.own q hq
  rw [h]
  exact fun z => nomatch z
/-- a new object -/
theorem Rep.new (r : Rep K F H M) (e : H p = none) (w : Own K F ho o) : Rep K F (upd H p ho) ((p, o) :: M) ∧ Ext F H M F (upd H p ho) ((p, o) :: M) := by
  obtain ⟨f, n⟩ := r.fresh e
  have ne : ∀ a u, H a = some u → a ≠ p := fun a u h z => by rw [z, e] at h; cases h
  refine ⟨⟨fun a u h => ?_, ?_, fun q hq => ?_⟩, ⟨Gr.refl F, fun a u h _ => ?_, fun a h => .inl h, fun a h => ?_⟩⟩
  · rw [upd_ne (ne a u (r.le a u h))]
    exact r.le a u h
  · rw [List.map_cons, List.nodup_cons]
    exact ⟨n, r.nd⟩
  · rcases List.mem_cons.mp hq with h | h
    · subst h
      exact ⟨f, ho, upd_same, w⟩
    · obtain ⟨h1, u, h2, h3⟩ := r.own q h
      exact ⟨h1, u, by rw [upd_ne (ne _ _ h2)]; exact h2, h3⟩
  · rw [upd_ne (ne a u h)]
    exact h
  · rw [List.map_cons, List.mem_cons] at h
    rcases h with h | h
    · subst h
      exact .inl e
    · exact .inr h
/-- an owned thing is written -/
theorem Rep.write {j : Nat} {o' : O} {ho' : HO} (r : Rep K F H M) (e : M[j]? = some (p, o)) (w : Own K F ho' o') : Rep K F (upd H p ho') (M.set j (p, o')) ∧ Ext F H M F (upd H p ho') (M.set j (p, o')) := by
  have hm : (p, o) ∈ M := List.mem_of_getElem? e
  have hj : j < M.length := (List.getElem?_eq_some_iff.mp e).1
  have hj' : M[j] = (p, o) := (List.getElem?_eq_some_iff.mp e).2
  have same : (M.set j (p, o')).map (·.1) = M.map (·.1) := by
    rw [List.map_set]
    refine List.ext_getElem? fun i => ?_
    by_cases hi : j = i
    · subst hi
      rw [List.getElem?_set_self (by simpa using hj), List.getElem?_map, e]
      rfl
    · rw [List.getElem?_set_ne hi]
  have fp : F p = none := r.notF (mem_fst hm)
  refine ⟨⟨fun a u h => ?_, by rw [same]; exact r.nd, fun q hq => ?_⟩, ⟨Gr.refl F, fun a u h hn => ?_, fun a h => .inl h, fun a h => .inr (by rw [same] at h; exact h)⟩⟩
  · rw [upd_ne (fun z => by rw [z, fp] at h; cases h)]
    exact r.le a u h
  · obtain ⟨i, hi⟩ := List.getElem?_of_mem hq
    by_cases hij : j = i
    · subst hij
      rw [List.getElem?_set_self hj] at hi
      cases hi
      exact ⟨fp, ho', upd_same, w⟩
    · rw [List.getElem?_set_ne hij] at hi
      have hqm : q ∈ M := List.mem_of_getElem? hi
      obtain ⟨h1, u, h2, h3⟩ := r.own q hqm
      have hne : q.1 ≠ p := fun z => by
        have h4 : (M.map (·.1))[i]? = some p := by rw [List.getElem?_map, hi, ← z]; rfl
        have h5 : (M.map (·.1))[j]? = some p := by rw [List.getElem?_map, e]; rfl
        exact hij (nd_ix r.nd h5 h4)
      exact ⟨h1, u, by rw [upd_ne hne]; exact h2, h3⟩
  · rw [upd_ne (fun z => hn (by rw [z]; exact mem_fst hm))]
    exact h
/-- an owned thing is let go -/
theorem Rep.letgo {j : Nat} (r : Rep K F H M) (e : M[j]? = some (p, o)) : ∃ F', Rep K F' H (M.eraseIdx j) ∧ Ext F H M F' H (M.eraseIdx j) ∧ Is K F' (.ref p) o.d := by
  have hm : (p, o) ∈ M := List.mem_of_getElem? e
  obtain ⟨f, ho, h1, h2⟩ := r.own _ hm
  have g : Gr F (upd F p ho) := Gr.new f
  have sl := List.eraseIdx_sublist M j
  have hn : p ∉ (M.eraseIdx j).map (·.1) := fun z => by
    obtain ⟨q, hq, hqp⟩ := List.mem_map.mp z
    obtain ⟨i, hi, hij⟩ := List.mem_eraseIdx_iff_getElem?.mp hq
    have h4 : (M.map (·.1))[i]? = some p := by rw [List.getElem?_map, hij, ← hqp]; rfl
    have h5 : (M.map (·.1))[j]? = some p := by rw [List.getElem?_map, e]; rfl
    exact hi (nd_ix r.nd h4 h5)
  refine ⟨upd F p ho, (r.sub sl).put h1 hn f, ⟨g, fun a u h _ => h, fun a h => ?_, fun a h => .inr ((sl.map _).subset h)⟩, (h2.mono g).is upd_same⟩
  by_cases ha : a = p
  · subst ha
    exact .inr (.inr (mem_fst hm))
  · rw [upd_ne ha] at h
    exact .inl h
/-- what stands beside is kept -/
theorem Rep.frame (r : Rep K F H (A ++ M)) (x : Ext F H M F' H' M') (r' : Rep K F' H' M') : Rep K F' H' (A ++ M') ∧ Ext F H (A ++ M) F' H' (A ++ M') := by
  have nd := r.nd
  rw [List.map_append, List.nodup_append] at nd
  have disj : ∀ a, a ∈ A.map (·.1) → a ∉ M.map (·.1) := fun a ha hb => nd.2.2 a ha a hb rfl
  have mA : ∀ q ∈ A, q ∈ A ++ M := fun q h => List.mem_append_left _ h
  have sA : ∀ a, a ∈ A.map (·.1) → H a ≠ none := fun a ha => r.isSome (by rw [List.map_append]; exact List.mem_append_left _ ha)
  refine ⟨⟨r'.le, ?_, fun q hq => ?_⟩, ⟨x.f, fun a u h hn => x.h a u h fun z => hn (by rw [List.map_append]; exact List.mem_append_right _ z), fun a h => ?_, fun a h => ?_⟩⟩
  · rw [List.map_append, List.nodup_append]
    refine ⟨nd.1, r'.nd, fun a ha b hb e => ?_⟩
    subst e
    rcases x.m a hb with z | z
    · exact sA a ha z
    · exact disj a ha z
  · rcases List.mem_append.mp hq with h | h
    · have ha : q.1 ∈ A.map (·.1) := List.mem_map_of_mem h
      obtain ⟨h1, u, h2, h3⟩ := r.own q (mA q h)
      refine ⟨?_, u, x.h _ _ h2 (disj _ ha), h3.mono x.f⟩
      cases e : F' q.1 with
      | none => rfl
      | some w =>
        rcases x.n q.1 (by rw [e]; exact fun z => nomatch z) with z | z | z
        · exact absurd h1 z
        · rw [h2] at z; cases z
        · exact absurd z (disj _ ha)
    · exact r'.own q h
  · rcases x.n a h with z | z | z
    · exact .inl z
    · exact .inr (.inl z)
    · exact .inr (.inr (by rw [List.map_append]; exact List.mem_append_right _ z))
  · rw [List.map_append, List.mem_append] at h
    rcases h with h | h
    · exact .inr (by rw [List.map_append]; exact List.mem_append_left _ h)
    · rcases x.m a h with z | z
      · exact .inl z
      · exact .inr (by rw [List.map_append]; exact List.mem_append_right _ z)
theorem Rep.frame1 {q : Addr × O} (r : Rep K F H (q :: M)) (x : Ext F H M F' H' M') (r' : Rep K F' H' M') : Rep K F' H' (q :: M') ∧ Ext F H (q :: M) F' H' (q :: M') := Rep.frame (A := [q]) r x r'
end

/-! ### wishes -/
/-- a new object, by what is wanted of it -/
abbrev NP (Φ : O → Ms → Prop) : D → Ms → Prop := fun d M' => ∃ p o M'', d = .ptr p ∧ M' = (p, o) :: M'' ∧ Φ o M''
section
variable (K : PySem.W.Frag)
def Post (F H : Hp) (M : Ms) (Φ : D → Ms → Prop) (Q : VK) : Prop :=
  ∀ v F' H' d M', Ext F H M F' H' M' → Rep K F' H' M' → Is K F' v d → Φ d M' → Q v H'
def EV (t : TE) (Γ : Gm) (M : Ms) (Φ : D → Ms → Prop) : Prop :=
  ∀ (σ : L2.St) (F H : Hp), RepS K F σ Γ → Rep K F H M → ∀ Q : VK, Post K F H M Φ Q → t σ H Q
/-- a new object comes -/
abbrev EN (t : TE) (Γ : Gm) (M : Ms) (Φ : O → Ms → Prop) : Prop := EV K t Γ M (NP Φ)
def ET (t : TT) (Γ : Gm) (M : Ms) (Φ : Bool → Ms → Prop) : Prop :=
  ∀ (σ : L2.St) (F H : Hp), RepS K F σ Γ → Rep K F H M → ∀ Q : Bool → Hp → Prop, (∀ b F' H' M', Ext F H M F' H' M' → Rep K F' H' M' → Φ b M' → Q b H') → t σ H Q
def EA (t : TA) (Γ : Gm) (M : Ms) (Φ : List D → Ms → Prop) : Prop :=
  ∀ (σ : L2.St) (F H : Hp), RepS K F σ Γ → Rep K F H M → ∀ Q : List V → Hp → Prop, (∀ vs F' H' ds M', Ext F H M F' H' M' → Rep K F' H' M' → IsL K F' vs ds → Φ ds M' → Q vs H') → t σ H Q
def EO (t : TO) (Γ : Gm) (M : Ms) (Φ : Option Int → Ms → Prop) : Prop :=
  ∀ (σ : L2.St) (F H : Hp), RepS K F σ Γ → Rep K F H M → ∀ Q : Option Int → Hp → Prop, (∀ b F' H' M', Ext F H M F' H' M' → Rep K F' H' M' → Φ b M' → Q b H') → t σ H Q
/-- by values -/
def R2' (r : R2) (x y : D) (M : Ms) (Φ : D → Ms → Prop) : Prop :=
  ∀ (F H : Hp), Rep K F H M → ∀ u v, Is K F u x → Is K F v y → ∀ Q : VK, Post K F H M Φ Q → r u v H Q
def R1' (r : V → Hp → VK → Prop) (x : D) (M : Ms) (Φ : D → Ms → Prop) : Prop :=
  ∀ (F H : Hp), Rep K F H M → ∀ u, Is K F u x → ∀ Q : VK, Post K F H M Φ Q → r u H Q
def RC' (r : List V → Hp → VK → Prop) (xs : List D) (M : Ms) (Φ : D → Ms → Prop) : Prop :=
  ∀ (F H : Hp), Rep K F H M → ∀ us, IsL K F us xs → ∀ Q : VK, Post K F H M Φ Q → r us H Q
def RM' (r : V → List V → Hp → VK → Prop) (x : D) (xs : List D) (M : Ms) (Φ : D → Ms → Prop) : Prop :=
  ∀ (F H : Hp), Rep K F H M → ∀ u us, Is K F u x → IsL K F us xs → ∀ Q : VK, Post K F H M Φ Q → r u us H Q
def RS' (r : V → Option Int → Option Int → Hp → VK → Prop) (x : D) (lo hi : Option Int) (M : Ms) (Φ : D → Ms → Prop) : Prop :=
  ∀ (F H : Hp), Rep K F H M → ∀ u, Is K F u x → ∀ Q : VK, Post K F H M Φ Q → r u lo hi H Q
end
/-- what is wanted behind a statement -/
structure DE where
  nx : Gm → Ms → Prop
  rt : D → Ms → Prop
  bk : Gm → Ms → Prop := fun _ _ => False
  ct : Gm → Ms → Prop := fun _ _ => False
def ES (K : PySem.W.Frag) (t : TS) (Γ : Gm) (M : Ms) (E : DE) : Prop :=
  ∀ (σ : L2.St) (F H : Hp), RepS K F σ Γ → Rep K F H M → ∀ De : Ends,
    (∀ σ' F' H' Γ' M', Ext F H M F' H' M' → RepS K F' σ' Γ' → Rep K F' H' M' → E.nx Γ' M' → De.nx σ' H') → Post K F H M E.rt De.rt →
    (∀ σ' F' H' Γ' M', Ext F H M F' H' M' → RepS K F' σ' Γ' → Rep K F' H' M' → E.bk Γ' M' → De.bk σ' H') →
    (∀ σ' F' H' Γ' M', Ext F H M F' H' M' → RepS K F' σ' Γ' → Rep K F' H' M' → E.ct Γ' M' → De.ct σ' H') → t De σ H

section
variable {K : PySem.W.Frag} {F H F1 H1 F2 H2 F' H' : Hp} {M M1 M2 M' A B : Ms} {σ : L2.St} {Γ : Gm} {Φ Ψ : D → Ms → Prop} {Q : VK} {ta tb tc te : TE} {t u : TT} {r : R2} {d x y : D} {v : V}
theorem Post.here (q : Post K F H M Φ Q) (r : Rep K F H M) (i : Is K F v d) (h : Φ d M) : Q v H := q v F H d M .refl r i h
theorem Post.trans (q : Post K F H M Φ Q) (x : Ext F H M F1 H1 M1) : Post K F1 H1 M1 Φ Q := fun v F' H' d M' y r i h => q v F' H' d M' (x.trans y) r i h
theorem EV.mono (h : EV K ta Γ M Φ) (i : ∀ d M', Φ d M' → Ψ d M') : EV K ta Γ M Ψ := fun σ F H S R Q q => h σ F H S R Q fun v F' H' d M' x r s w => q v F' H' d M' x r s (i d M' w)

theorem ev_var {i : Nat} (h : Γ[i]? = some (some d)) (q : Φ d M) : EV K (tVar i) Γ M Φ := fun σ F H S R Q k => by
  obtain ⟨v, h1, h2⟩ := S.at' i d h
  exact ⟨v, h1, k.here R h2 q⟩
/-- scalars -/
def sc : V → D
  | .non => .non | .bl b => .bl b | .int i => .int i | .str x => .str x | .ty n => .ty n | .ref a => .ptr a | _ => .non
def isSc : V → Bool
  | .byt _ => false | .flt _ => false | _ => true
theorem is_sc {v : V} (h : isSc v = true) : Is K F v (sc v) := by
  cases v <;> first | exact .non | exact .bl _ | exact .int _ | exact .str _ | exact .ty _ | exact .ptr _ | cases h
theorem ev_c {v : V} (h : isSc v = true := by rfl) (q : Φ (sc v) M) : EV K (tC v) Γ M Φ := fun σ F H S R Q k => k.here R (is_sc h) q
theorem ev_int {i : Int} (q : Φ (.int i) M) : EV K (tC (.int i)) Γ M Φ := ev_c rfl q
theorem ev_bl {i : Bool} (q : Φ (.bl i) M) : EV K (tC (.bl i)) Γ M Φ := ev_c rfl q
theorem ev_str {i : Str} (q : Φ (.str i) M) : EV K (tC (.str i)) Γ M Φ := ev_c rfl q
theorem ev_non (q : Φ .non M) : EV K (tC .non) Γ M Φ := ev_c rfl q
theorem ev_ty {n : String} (q : Φ (.ty n) M) : EV K (tC (.ty n)) Γ M Φ := ev_c rfl q
theorem ev_op (h : EV K ta Γ M fun x M1 => EV K tb Γ M1 fun y M2 => R2' K r x y M2 Φ) : EV K (tOp r ta tb) Γ M Φ := fun σ F H S R Q q =>
  h σ F H S R _ fun v F1 H1 d M1 x1 r1 i1 h1 => h1 σ F1 H1 (S.mono x1.f) r1 _ fun w F2 H2 e M2 x2 r2 i2 h2 => h2 F2 H2 r2 v w (i1.mono x2.f) i2 Q (q.trans (x1.trans x2))
theorem ev_un {r : V → Hp → VK → Prop} (h : EV K ta Γ M fun x M1 => R1' K r x M1 Φ) : EV K (tUn r ta) Γ M Φ := fun σ F H S R Q q =>
  h σ F H S R _ fun v F1 H1 d M1 x1 r1 i1 h1 => h1 F1 H1 r1 v i1 Q (q.trans x1)
theorem ea_nil {Φ : List D → Ms → Prop} (q : Φ [] M) : EA K tNil Γ M Φ := fun σ F H S R Q k => k [] F H [] M .refl R .nil q
theorem ea_cons {tr : TA} {Φ : List D → Ms → Prop} (h : EV K ta Γ M fun x M1 => EA K tr Γ M1 fun xs M2 => Φ (x :: xs) M2) : EA K (tCons ta tr) Γ M Φ := fun σ F H S R Q q =>
  h σ F H S R _ fun v F1 H1 d M1 x1 r1 i1 h1 => h1 σ F1 H1 (S.mono x1.f) r1 _ fun vs F2 H2 ds M2 x2 r2 i2 h2 => q (v :: vs) F2 H2 (d :: ds) M2 (x1.trans x2) r2 (.cons (i1.mono x2.f) i2) h2

/-! ### what reads as a list, a tuple -/
inductive LR (M : Ms) : D → List D → Prop
  | lst (ds : List D) : LR M (.lst ds) ds
  | own {p : Addr} {ds : List D} : (p, O.lst ds) ∈ M → LR M (.ptr p) ds
theorem LR.at {ds : List D} (l : LR M x ds) (r : Rep K F H M) (i : Is K F v x) : ∃ a vs, v = .ref a ∧ H a = some (.lst vs) ∧ IsL K F vs ds := by
  cases l with
  | lst =>
    cases i with
    | lst h1 h2 => exact ⟨_, _, rfl, r.le _ _ h1, h2⟩
  | own hm =>
    cases i
    obtain ⟨_, ho, h1, h2⟩ := r.own _ hm
    cases h2 with
    | lst h2 => exact ⟨_, _, rfl, h1, h2⟩
inductive LQ (M : Ms) : D → List D → Prop
  | of {x : D} {ds : List D} : LR M x ds → LQ M x ds
  | rol (ds : List D) : LQ M (.rol ds) ds
theorem LQ.at {ds : List D} (l : LQ M x ds) (r : Rep K F H M) (i : Is K F v x) : ∃ a vs, v = .ref a ∧ SqL K H a vs ∧ IsL K F vs ds := by
  cases l with
  | of l =>
    obtain ⟨a, vs, h1, h2, h3⟩ := l.at r i
    exact ⟨a, vs, h1, .inl (.inl h2), h3⟩
  | rol =>
    cases i with
    | rol h1 h2 => exact ⟨_, _, rfl, r.le |>.sql h1, h2⟩
/-- a list or a tuple that is read -/
inductive SQ (M : Ms) : D → List D → Prop
  | l {x : D} {ds : List D} : LQ M x ds → SQ M x ds
  | t (ds : List D) : SQ M (.tup ds) ds
theorem SQ.at {ds : List D} (l : SQ M x ds) (r : Rep K F H M) (i : Is K F v x) : ∃ a vs, v = .ref a ∧ (SqL K H a vs ∨ SqT K H a vs) ∧ IsL K F vs ds := by
  cases l with
  | l l =>
    obtain ⟨a, vs, h1, h2, h3⟩ := l.at r i
    exact ⟨a, vs, h1, .inl h2, h3⟩
  | t =>
    cases i with
    | tup h1 h2 => exact ⟨_, _, rfl, .inr (r.le |>.sqt h1), h2⟩
theorem SQ.lst (ds : List D) : SQ M (.lst ds) ds := .l (.of (.lst ds))
theorem SQ.own {p : Addr} {ds : List D} (h : (p, O.lst ds) ∈ M) : SQ M (.ptr p) ds := .l (.of (.own h))
theorem LQ.lst (ds : List D) : LQ M (.lst ds) ds := .of (.lst ds)
theorem LQ.own {p : Addr} {ds : List D} (h : (p, O.lst ds) ∈ M) : LQ M (.ptr p) ds := .of (.own h)
theorem ea_star {tr : TA} {Φ : List D → Ms → Prop} (h : EV K ta Γ M fun x M1 => ∃ ds, SQ M1 x ds ∧ EA K tr Γ M1 fun xs M2 => Φ (ds ++ xs) M2) : EA K (tStar K ta tr) Γ M Φ := fun σ F H S R Q q =>
  h σ F H S R _ fun v F1 H1 d M1 x1 r1 i1 ⟨ds, l, h1⟩ => by
    obtain ⟨a, ws, e1, e2, e3⟩ := l.at r1 i1
    exact ⟨a, ws, e1, e2.symm, h1 σ F1 H1 (S.mono x1.f) r1 _ fun vs F2 H2 es M2 x2 r2 i2 h2 => q _ F2 H2 _ M2 (x1.trans x2) r2 ((e3.mono x2.f).append i2) h2⟩

/-! ### new objects -/
theorem Post.frz (q : Post K F H M Φ Q) : Post K F H M (NP fun o M' => Φ o.d M') Q := fun v F' H' d M' x r i ⟨p, o, M2, e1, e2, e3⟩ => by
  subst e1 e2
  cases i
  obtain ⟨F3, r3, x3, i3⟩ := r.letgo (j := 0) rfl
  exact q _ F3 H' _ M2 (x.trans x3) r3 i3 e3
theorem Post.own (q : Post K F H M Φ Q) : Post K F H M (NP fun o M' => ∀ p, Φ (.ptr p) ((p, o) :: M')) Q := fun v F' H' d M' x r i ⟨p, o, M2, e1, e2, e3⟩ => by
  subst e1 e2
  exact q v F' H' _ _ x r i (e3 p)
theorem ev_frz (h : EN K te Γ M fun o M' => Φ o.d M') : EV K te Γ M Φ := fun σ F H S R Q q => h σ F H S R Q q.frz
theorem ev_own (h : EN K te Γ M fun o M' => ∀ p, Φ (.ptr p) ((p, o) :: M')) : EV K te Γ M Φ := fun σ F H S R Q q => h σ F H S R Q q.own
/-- the wish for a new object, met -/
theorem Post.made {Φ : O → Ms → Prop} {p : Addr} {ho : HO} {o : O} (q : Post K F H M (NP Φ) Q) (r : Rep K F H M) (e : H p = none) (w : Own K F ho o) (h : Φ o M) : Q (.ref p) (upd H p ho) := by
  obtain ⟨r2, x2⟩ := r.new e w
  exact q _ F _ (.ptr p) _ x2 r2 (.ptr p) ⟨p, o, M, rfl, rfl, h⟩
theorem sz_of {n : Nat} (h : n ≤ 100000) : n ≤ sizeLine := Nat.le_trans h (by decide)
theorem sz_lt {n : Nat} (h : n < 100000) : n < sizeLine := Nat.lt_of_lt_of_le h (by decide)
theorem en_lst {ta : TA} {Φ : O → Ms → Prop} (h : EA K ta Γ M fun ds M1 => ds.length ≤ 100000 ∧ Φ (.lst ds) M1) : EN K (tLst ta) Γ M Φ := fun σ F H S R Q q =>
  h σ F H S R _ fun vs F1 H1 ds M1 x1 r1 i1 ⟨h1, h2⟩ => ⟨by rw [i1.length]; exact sz_of h1, fun p hp => (q.trans x1).made r1 hp (.lst i1) h2⟩
theorem en_tup {ta : TA} {Φ : O → Ms → Prop} (h : EA K ta Γ M fun ds M1 => ds.length ≤ 100000 ∧ Φ (.tup ds) M1) : EN K (tTup ta) Γ M Φ := fun σ F H S R Q q =>
  h σ F H S R _ fun vs F1 H1 ds M1 x1 r1 i1 ⟨h1, h2⟩ => ⟨by rw [i1.length]; exact sz_of h1, fun p hp => (q.trans x1).made r1 hp (.tup i1) h2⟩

/-! ### calls of built-ins, methods, defs -/
theorem ev_cb {r : List V → Hp → VK → Prop} {ta : TA} (h : EA K ta Γ M fun xs M1 => RC' K r xs M1 Φ) : EV K (tCB r ta) Γ M Φ := fun σ F H S R Q q =>
  h σ F H S R _ fun vs F1 H1 ds M1 x1 r1 i1 h1 => h1 F1 H1 r1 vs i1 Q (q.trans x1)
/-- the type that a method asks of its object -/
def DTy (K : PySem.W.Frag) (T : String) (x : D) (M : Ms) : Prop := ∀ F H, Rep K F H M → ∀ v, Is K F v x → tyV K T v H
theorem ev_bm {T : String} {r : V → List V → Hp → VK → Prop} {ta : TE} {tr : TA} (h : EV K ta Γ M fun x M1 => DTy K T x M1 ∧ EA K tr Γ M1 fun xs M2 => RM' K r x xs M2 Φ) : EV K (tBM K T r ta tr) Γ M Φ := fun σ F H S R Q q =>
  h σ F H S R _ fun v F1 H1 d M1 x1 r1 i1 ⟨h0, h1⟩ => ⟨h0 F1 H1 r1 v i1, h1 σ F1 H1 (S.mono x1.f) r1 _ fun vs F2 H2 ds M2 x2 r2 i2 h2 => h2 F2 H2 r2 v vs (i1.mono x2.f) i2 Q (q.trans (x1.trans x2))⟩
theorem ev_bm0 {T : String} {r : V → List V → Hp → VK → Prop} {ta : TE} (h : EV K ta Γ M fun x M1 => DTy K T x M1 ∧ RM' K r x [] M1 Φ) : EV K (tBM0 K T r ta) Γ M Φ := fun σ F H S R Q q =>
  h σ F H S R _ fun v F1 H1 d M1 x1 r1 i1 ⟨h0, h1⟩ => ⟨h0 F1 H1 r1 v i1, h1 F1 H1 r1 v [] i1 .nil Q (q.trans x1)⟩
/-- a def's promise upon data: the arguments, what it owns meanwhile, the wish -/
abbrev SpD := List D → Ms → (D → Ms → Prop) → Prop
def spOf (K : PySem.W.Frag) (S : SpD) : Sp := fun vs H Q _ => ∃ F M ds Φ, Rep K F H M ∧ IsL K F vs ds ∧ S ds M Φ ∧ Post K F H M Φ Q
theorem ev_call {S : SpD} {E : XK} {ta : TA} (h : EA K ta Γ M fun ds M1 => S ds M1 Φ) : EV K (tCall (spOf K S) [] E ta) Γ M Φ := fun σ F H S' R Q q =>
  h σ F H S' R _ fun vs F1 H1 ds M1 x1 r1 i1 h1 => ⟨F1, M1, ds, _, r1, by rw [List.append_nil]; exact i1, h1, q.trans x1⟩
/-- .. with a part of what is owned set aside -/
theorem ev_callF {S : SpD} {E : XK} {ta : TA} (h : EA K ta Γ M fun ds M1 => ∃ A B, M1 = A ++ B ∧ S ds B fun d B' => Φ d (A ++ B')) : EV K (tCall (spOf K S) [] E ta) Γ M Φ := fun σ F H S' R Q q =>
  h σ F H S' R _ fun vs F1 H1 ds M1 x1 r1 i1 ⟨A, B, e, h1⟩ => by
    subst e
    refine ⟨F1, B, ds, _, r1.sub (List.sublist_append_right A B), by rw [List.append_nil]; exact i1, h1, fun v F2 H2 d A2 x2 r2 i2 h2 => ?_⟩
    obtain ⟨r3, x3⟩ := r1.frame x2 r2
    exact q v F2 H2 d _ (x1.trans x3) r3 i2 h2

/-! ### tests -/
theorem et_test {Φ' : Bool → Ms → Prop} (h : EV K ta Γ M fun d M1 => ∃ b, d = .bl b ∧ Φ' b M1) : ET K (tTest ta) Γ M Φ' := fun σ F H S R Q q =>
  h σ F H S R _ fun v F1 H1 d M1 x1 r1 i1 ⟨b, e, h1⟩ => by
    subst e
    cases i1
    exact ⟨b, rfl, q b F1 H1 M1 x1 r1 h1⟩
theorem et_B {Φ' : Bool → Ms → Prop} (h : EV K ta Γ M fun d M1 => ∃ b, d = .bl b ∧ Φ' b M1) : ET K (tB ta) Γ M Φ' := fun σ F H S R Q q =>
  h σ F H S R _ fun v F1 H1 d M1 x1 r1 i1 ⟨b, e, h1⟩ => by
    subst e
    cases i1
    exact ⟨b, rfl, q b F1 H1 M1 x1 r1 h1⟩
theorem et_and {Φ : Bool → Ms → Prop} (h : ET K t Γ M fun b M1 => if b = true then ET K u Γ M1 Φ else Φ false M1) : ET K (tAnd t u) Γ M Φ := fun σ F H S R Q q =>
  h σ F H S R _ fun b F1 H1 M1 x1 r1 h1 => by
    cases b with
    | true => exact h1 σ F1 H1 (S.mono x1.f) r1 Q fun c F2 H2 M2 x2 r2 h2 => q c F2 H2 M2 (x1.trans x2) r2 h2
    | false => exact q false F1 H1 M1 x1 r1 h1
theorem et_or {Φ : Bool → Ms → Prop} (h : ET K t Γ M fun b M1 => if b = true then Φ true M1 else ET K u Γ M1 Φ) : ET K (tOr t u) Γ M Φ := fun σ F H S R Q q =>
  h σ F H S R _ fun b F1 H1 M1 x1 r1 h1 => by
    cases b with
    | false => exact h1 σ F1 H1 (S.mono x1.f) r1 Q fun c F2 H2 M2 x2 r2 h2 => q c F2 H2 M2 (x1.trans x2) r2 h2
    | true => exact q true F1 H1 M1 x1 r1 h1
theorem et_not {Φ : Bool → Ms → Prop} (h : ET K t Γ M fun b M1 => Φ (!b) M1) : ET K (tNot t) Γ M Φ := fun σ F H S R Q q =>
  h σ F H S R _ fun b F1 H1 M1 x1 r1 h1 => q (!b) F1 H1 M1 x1 r1 h1
theorem et_yes {Φ : Bool → Ms → Prop} (h : Φ true M) : ET K tYes Γ M Φ := fun σ F H S R Q q => q true F H M .refl R h
theorem ev_andV (h : EV K ta Γ M fun d M1 => ∃ b, d = .bl b ∧ if b = true then EV K tb Γ M1 Φ else Φ (.bl false) M1) : EV K (tAndV ta tb) Γ M Φ := fun σ F H S R Q q =>
  h σ F H S R _ fun v F1 H1 d M1 x1 r1 i1 ⟨b, e, h1⟩ => by
    subst e
    cases i1
    refine ⟨b, rfl, ?_⟩
    cases b with
    | true => exact h1 σ F1 H1 (S.mono x1.f) r1 Q (q.trans x1)
    | false => exact q _ F1 H1 _ M1 x1 r1 (.bl false) h1
theorem ev_orV (h : EV K ta Γ M fun d M1 => ∃ b, d = .bl b ∧ if b = true then Φ (.bl true) M1 else EV K tb Γ M1 Φ) : EV K (tOrV ta tb) Γ M Φ := fun σ F H S R Q q =>
  h σ F H S R _ fun v F1 H1 d M1 x1 r1 i1 ⟨b, e, h1⟩ => by
    subst e
    cases i1
    refine ⟨b, rfl, ?_⟩
    cases b with
    | false => exact h1 σ F1 H1 (S.mono x1.f) r1 Q (q.trans x1)
    | true => exact q _ F1 H1 _ M1 x1 r1 (.bl true) h1
theorem ev_notV (h : EV K ta Γ M fun d M1 => ∃ b, d = .bl b ∧ Φ (.bl (!b)) M1) : EV K (tNotV ta) Γ M Φ := fun σ F H S R Q q =>
  h σ F H S R _ fun v F1 H1 d M1 x1 r1 i1 ⟨b, e, h1⟩ => by
    subst e
    cases i1
    exact ⟨b, rfl, q _ F1 H1 _ M1 x1 r1 (.bl _) h1⟩
theorem ev_ifx (h : ET K t Γ M fun b M1 => if b = true then EV K ta Γ M1 Φ else EV K tb Γ M1 Φ) : EV K (tIf t ta tb) Γ M Φ := fun σ F H S R Q q =>
  h σ F H S R _ fun b F1 H1 M1 x1 r1 h1 => by
    cases b with
    | true => exact h1 σ F1 H1 (S.mono x1.f) r1 Q (q.trans x1)
    | false => exact h1 σ F1 H1 (S.mono x1.f) r1 Q (q.trans x1)
theorem ev_chain {r r' : R2} (h : EV K ta Γ M fun x M1 => EV K tb Γ M1 fun y M2 => R2' K r x y M2 fun z M3 => ∃ k, z = .bl k ∧ if k = true then EV K tc Γ M3 fun w M4 => R2' K r' y w M4 Φ else Φ (.bl false) M3) : EV K (tChain r r' ta tb tc) Γ M Φ := fun σ F H S R Q q =>
  h σ F H S R _ fun v F1 H1 d M1 x1 r1 i1 h1 => h1 σ F1 H1 (S.mono x1.f) r1 _ fun w F2 H2 e M2 x2 r2 i2 h2 => h2 F2 H2 r2 v w (i1.mono x2.f) i2 _ fun z F3 H3 f M3 x3 r3 i3 ⟨k, e3, h3⟩ => by
    subst e3
    cases i3
    refine ⟨k, rfl, ?_⟩
    have x123 := (x1.trans x2).trans x3
    cases k with
    | true => exact h3 σ F3 H3 (S.mono x123.f) r3 _ fun w2 F4 H4 e4 M4 x4 r4 i4 h4 => h4 F4 H4 r4 w w2 (i2.mono (x3.f.trans x4.f)) i4 Q (q.trans (x123.trans x4))
    | false => exact q _ F3 H3 _ M3 x123 r3 (.bl false) h3
end
end DL


set_option Elab.async false
set_option linter.all false
set_option maxRecDepth 100000
set_option maxHeartbeats 2000000
namespace DL
open PySem PySem.Spec PyProof.Rows L2 StX

section
variable {K : PySem.W.Frag} {F H F1 H1 F2 H2 F' H' : Hp} {M M1 M2 M' A B : Ms} {σ : L2.St} {Γ Γ' : Gm} {Φ Ψ : D → Ms → Prop} {Q : VK} {ta tb tc te : TE} {t u : TT} {ts tu tz : TS} {r : R2} {d x y : D} {v : V} {E E' : DE}

/-! ### statements -/
theorem es_next (h : E.nx Γ M) : ES K tNext Γ M E := fun σ F H S R De n _ _ _ => n σ F H Γ M .refl S R h
theorem es_break (h : E.bk Γ M) : ES K tBreak Γ M E := fun σ F H S R De _ _ b _ => b σ F H Γ M .refl S R h
theorem es_cont (h : E.ct Γ M) : ES K tCont Γ M E := fun σ F H S R De _ _ _ c => c σ F H Γ M .refl S R h
theorem es_never (h : False) : ES K tNever Γ M E := h.elim
theorem es_seq (h : ES K ts Γ M { E with nx := fun Γ1 M1 => ES K tu Γ1 M1 E }) : ES K (tSeq ts tu) Γ M E := fun σ F H S R De n rt b c =>
  h σ F H S R { De with nx := tu De } (fun σ' F' H' Γ' M' x s r q => q σ' F' H' s r De (fun σ2 F2 H2 Γ2 M2 x2 s2 r2 q2 => n σ2 F2 H2 Γ2 M2 (x.trans x2) s2 r2 q2) (rt.trans x)
    (fun σ2 F2 H2 Γ2 M2 x2 s2 r2 q2 => b σ2 F2 H2 Γ2 M2 (x.trans x2) s2 r2 q2) fun σ2 F2 H2 Γ2 M2 x2 s2 r2 q2 => c σ2 F2 H2 Γ2 M2 (x.trans x2) s2 r2 q2) rt b c
theorem es_drop (h : EV K te Γ M fun _ M1 => E.nx Γ M1) : ES K (tDrop te) Γ M E := fun σ F H S R De n _ _ _ =>
  h σ F H S R _ fun v F1 H1 d M1 x r i q => n σ F1 H1 Γ M1 x (S.mono x.f) r q
theorem es_ret (h : EV K te Γ M E.rt) : ES K (tRet te) Γ M E := fun σ F H S R De _ rt _ _ => h σ F H S R _ rt
theorem es_retN (h : E.rt .non M) : ES K tRetN Γ M E := fun σ F H S R De _ rt _ _ => rt.here R .non h
theorem es_if (h : ET K t Γ M fun b M1 => if b = true then ES K ts Γ M1 E else ES K tu Γ M1 E) : ES K (tIfS t ts tu) Γ M E := fun σ F H S R De n rt b c =>
  h σ F H S R _ fun k F1 H1 M1 x r q => by
    have go : ∀ {w : TS}, ES K w Γ M1 E → w De σ H1 := fun {w} q => q σ F1 H1 (S.mono x.f) r De (fun σ2 F2 H2 Γ2 M2 x2 s2 r2 q2 => n σ2 F2 H2 Γ2 M2 (x.trans x2) s2 r2 q2) (rt.trans x)
      (fun σ2 F2 H2 Γ2 M2 x2 s2 r2 q2 => b σ2 F2 H2 Γ2 M2 (x.trans x2) s2 r2 q2) fun σ2 F2 H2 Γ2 M2 x2 s2 r2 q2 => c σ2 F2 H2 Γ2 M2 (x.trans x2) s2 r2 q2
    cases k with
    | true => exact go q
    | false => exact go q
/-- a target takes a value -/
def EG (K : PySem.W.Frag) (g : TG) (own : List Nat) (d : D) (Γ : Gm) (M : Ms) (Ψ : Gm → Ms → Prop) : Prop :=
  ∀ (σ : L2.St) (F H : Hp) (v : V), RepS K F σ Γ → Rep K F H M → Is K F v d → ∀ Q : L2.St → Hp → Prop,
    (∀ σ' F' H' Γ' M', Ext F H M F' H' M' → RepS K F' σ' Γ' → Rep K F' H' M' → (σ'.length = σ.length ∧ ∀ j, j ∉ own → σ'[j]? = σ[j]?) → Ψ Γ' M' → Q σ' H') → g v σ H Q
theorem eg_name {own : List Nat} {i : Nat} {Ψ : Gm → Ms → Prop} (hi : i ∈ own) (h : Ψ (Γ.set i (some d)) M) : EG K (gName i) own d Γ M Ψ := fun σ F H v S R i' Q q =>
  q _ F H _ M .refl (S.set i i') R ⟨List.length_set, fun j hj => List.getElem?_set_ne (fun e => hj (by rw [← e]; exact hi))⟩ h
theorem eg_name' {i : Nat} {Ψ : Gm → Ms → Prop} (h : Ψ (Γ.set i (some d)) M) : EG K (gName i) [i] d Γ M Ψ := eg_name (List.mem_singleton.mpr rfl) h
/-- several names of a tuple -/
def EGs (K : PySem.W.Frag) (g : TGs) (own : List Nat) (ds : List D) (Γ : Gm) (M : Ms) (Ψ : Gm → Ms → Prop) : Prop :=
  ∀ (σ : L2.St) (F H : Hp) (vs : List V), RepS K F σ Γ → Rep K F H M → IsL K F vs ds → ∀ Q : L2.St → Hp → Prop,
    (∀ σ' F' H' Γ' M', Ext F H M F' H' M' → RepS K F' σ' Γ' → Rep K F' H' M' → (σ'.length = σ.length ∧ ∀ j, j ∉ own → σ'[j]? = σ[j]?) → Ψ Γ' M' → Q σ' H') → g vs σ H Q
theorem egs_nil {own : List Nat} {Ψ : Gm → Ms → Prop} (h : Ψ Γ M) : EGs K gNil own [] Γ M Ψ := fun σ F H vs S R i' Q q => by
  cases i'
  exact ⟨rfl, q σ F H Γ M .refl S R ⟨rfl, fun _ _ => rfl⟩ h⟩
theorem egs_cons {own : List Nat} {g : TG} {gs : TGs} {ds : List D} {Ψ : Gm → Ms → Prop} (h : EG K g own d Γ M fun Γ1 M1 => EGs K gs own ds Γ1 M1 Ψ) : EGs K (gCons g gs) own (d :: ds) Γ M Ψ := fun σ F H vs S R i' Q q => by
  cases i' with
  | cons i1 i2 =>
    refine ⟨_, _, rfl, h σ F H _ S R i1 _ fun σ1 F1 H1 Γ1 M1 x1 s1 r1 e1 w1 => w1 σ1 F1 H1 _ s1 r1 (i2.mono x1.f) Q fun σ2 F2 H2 Γ2 M2 x2 s2 r2 e2 w2 => q σ2 F2 H2 Γ2 M2 (x1.trans x2) s2 r2 ⟨e2.1.trans e1.1, fun j hj => (e2.2 j hj).trans (e1.2 j hj)⟩ w2⟩
theorem eg_tup {own : List Nat} {n : Nat} {gs : TGs} {ds : List D} {Ψ : Gm → Ms → Prop} (e : d = .tup ds) (hn : ds.length = n) (h : EGs K gs own ds Γ M Ψ) : EG K (gTup K n gs) own d Γ M Ψ := fun σ F H v S R i' Q q => by
  subst e
  cases i' with
  | tup h1 h2 => exact ⟨_, _, rfl, R.le.sqt h1, by rw [h2.length]; exact hn, h σ F H _ S R h2 Q q⟩
theorem es_asg {g : TG} {own : List Nat} (h : EV K te Γ M fun d M1 => EG K g own d Γ M1 E.nx) : ES K (tAsg te g) Γ M E := fun σ F H S R De n _ _ _ =>
  h σ F H S R _ fun v F1 H1 d M1 x r i q => q σ F1 H1 v (S.mono x.f) r i _ fun σ2 F2 H2 Γ2 M2 x2 s2 r2 _ w2 => n σ2 F2 H2 Γ2 M2 (x.trans x2) s2 r2 w2
theorem es_set {i : Nat} (h : EV K te Γ M fun d M1 => E.nx (Γ.set i (some d)) M1) : ES K (tAsg te (gName i)) Γ M E := es_asg (own := [i]) (h.mono fun _ _ q => eg_name' q)
theorem es_par {i j : Nat} {tl : TA} (h : EA K tl Γ M fun ds M1 => ∃ a b, ds = [a, b] ∧ E.nx ((Γ.set i (some a)).set j (some b)) M1) : ES K (tPar i j tl) Γ M E := fun σ F H S R De n _ _ _ =>
  h σ F H S R _ fun vs F1 H1 ds M1 x r i1 ⟨a, b, e, q⟩ => by
    subst e
    cases i1 with
    | cons i1 i2 =>
      cases i2 with
      | cons i2 i3 =>
        cases i3
        exact ⟨_, _, rfl, n _ F1 H1 _ M1 x (((S.mono x.f).set i i1).set j i2) r q⟩
/-- x op= e, two ints -/
theorem es_augI {i : Nat} {f : Int → Int → Int} {a : Int} (h0 : Γ[i]? = some (some (.int a))) (h : EV K te Γ M fun d M1 => ∃ b, d = .int b ∧ E.nx (Γ.set i (some (.int (f a b)))) M1) : ES K (tAug i te (ipI f)) Γ M E := fun σ F H S R De n _ _ _ => by
  obtain ⟨v, h1, h2⟩ := S.at' i _ h0
  cases h2
  refine ⟨_, h1, h σ F H S R _ fun v F1 H1 d M1 x r i1 ⟨b, e, q⟩ => ?_⟩
  subst e
  cases i1
  exact ⟨_, _, rfl, rfl, n _ F1 H1 _ M1 x ((S.mono x.f).set i (.int _)) r q⟩
/-- an owned thing is let go between two statements -/
theorem es_letgo (i : Nat) (j : Nat) {p : Addr} {o : O} (h0 : Γ[i]? = some (some (.ptr p))) (hj : M[j]? = some (p, o)) (h : ES K ts (Γ.set i (some o.d)) (M.eraseIdx j) E) : ES K ts Γ M E := fun σ F H S R De n rt b c => by
  obtain ⟨F1, r1, x1, i1⟩ := R.letgo hj
  obtain ⟨v, h1, h2⟩ := S.at' i _ h0
  cases h2
  have s1 : RepS K F1 σ (Γ.set i (some o.d)) := by
    have s2 := (S.mono x1.f).set i i1
    have hl := (List.getElem?_eq_some_iff.mp h1)
    have e : σ.set i (some (.ref p)) = σ := by
      rw [← hl.2]
      exact List.set_getElem_self hl.1
    rw [e] at s2
    exact s2
  exact h σ F1 H s1 r1 De (fun σ2 F2 H2 Γ2 M2 x2 s2 r2 q2 => n σ2 F2 H2 Γ2 M2 (x1.trans x2) s2 r2 q2) (rt.trans x1)
      (fun σ2 F2 H2 Γ2 M2 x2 s2 r2 q2 => b σ2 F2 H2 Γ2 M2 (x1.trans x2) s2 r2 q2) fun σ2 F2 H2 Γ2 M2 x2 s2 r2 q2 => c σ2 F2 H2 Γ2 M2 (x1.trans x2) s2 r2 q2
/-- a name that is read as a value and let go -/
theorem ev_letgo {i : Nat} (j : Nat) {p : Addr} {o : O} (h0 : Γ[i]? = some (some (.ptr p))) (hj : M[j]? = some (p, o)) (h : Φ o.d (M.eraseIdx j)) : EV K (tVar i) Γ M Φ := fun σ F H S R Q q => by
  obtain ⟨F1, r1, x1, i1⟩ := R.letgo hj
  obtain ⟨v, h1, h2⟩ := S.at' i _ h0
  cases h2
  exact ⟨_, h1, q _ F1 H _ _ x1 r1 i1 h⟩

/-! ### what is walked -/
structure JOk (K : PySem.W.Frag) (F : Hp) (J : It) (xs : List D) : Prop where
  stop : ∀ F1 H1 M1, Gr F F1 → Rep K F1 H1 M1 → J.stop xs.length H1
  item : ∀ F1 H1 M1 i d, Gr F F1 → Rep K F1 H1 M1 → xs[i]? = some d → J.go i H1 ∧ ∀ v H2, J.yld i H1 v H2 → ∃ F2, Ext F1 H1 M1 F2 H2 M1 ∧ Rep K F2 H2 M1 ∧ Is K F2 v d
def EI (K : PySem.W.Frag) (wi : TI) (Γ : Gm) (M : Ms) (Φ : List D → Ms → Prop) : Prop :=
  ∀ (σ : L2.St) (F H : Hp), RepS K F σ Γ → Rep K F H M → ∀ R : It → Hp → Prop, (∀ J F' H' xs M', Ext F H M F' H' M' → Rep K F' H' M' → JOk K F' J xs → Φ xs M' → R J H') → wi σ H R
theorem es_for {wi : TI} {g : TG} {own : List Nat} (h : EI K wi Γ M fun xs M1 => ∃ I : Nat → Gm → Ms → Prop, I 0 Γ M1 ∧
      (∀ i d Γ' M', xs[i]? = some d → I i Γ' M' → EG K g own d Γ' M' fun Γ2 M2 => ES K ts Γ2 M2 { nx := I (i + 1), ct := I (i + 1), bk := E.nx, rt := E.rt }) ∧ ∀ Γ' M', I xs.length Γ' M' → E.nx Γ' M') : ES K (tFor wi g ts) Γ M E := fun σ F H S R De n rt _ _ => by
  refine h σ F H S R _ fun J F1 H1 xs M1 x1 r1 j ⟨I, h0, hs, hd⟩ => ?_
  refine ⟨fun i m σ' H' => m = xs.length - i ∧ i ≤ xs.length ∧ ∃ F' Γ' M', Ext F1 H1 M1 F' H' M' ∧ RepS K F' σ' Γ' ∧ Rep K F' H' M' ∧ I i Γ' M', ⟨xs.length, by omega, Nat.zero_le _, F1, Γ, M1, .refl, S.mono x1.f, r1, h0⟩, ?_⟩
  rintro i m σ' H' ⟨rfl, hi, F', Γ', M', x', s', r', i'⟩
  by_cases hlt : i < xs.length
  · have hx : xs[i]? = some xs[i] := List.getElem?_eq_getElem hlt
    obtain ⟨go, yl⟩ := j.item F' H' M' i _ x'.f r' hx
    refine .inr ⟨go, fun σ2 H2 => ∃ F2 Γ2 M2, Ext F1 H1 M1 F2 H2 M2 ∧ RepS K F2 σ2 Γ2 ∧ Rep K F2 H2 M2 ∧ I (i + 1) Γ2 M2, fun σ2 H2 ⟨F2, Γ2, M2, w⟩ => ⟨xs.length - (i + 1), by omega, rfl, hlt, F2, Γ2, M2, w⟩, fun v H2 y => ?_⟩
    obtain ⟨F2, x2, r2, i2⟩ := yl v H2 y
    refine hs i _ Γ' M' hx i' σ' F2 H2 v (s'.mono x2.f) r2 i2 _ fun σ3 F3 H3 Γ3 M3 x3 s3 r3 _ w3 => ?_
    have x123 := (x'.trans x2).trans x3
    refine w3 σ3 F3 H3 s3 r3 _ (fun σ4 F4 H4 Γ4 M4 x4 s4 r4 q4 => ⟨F4, Γ4, M4, x123.trans x4, s4, r4, q4⟩) ((rt.trans x1).trans x123) (fun σ4 F4 H4 Γ4 M4 x4 s4 r4 q4 => n σ4 F4 H4 Γ4 M4 ((x1.trans x123).trans x4) s4 r4 q4) fun σ4 F4 H4 Γ4 M4 x4 s4 r4 q4 => ⟨F4, Γ4, M4, x123.trans x4, s4, r4, q4⟩
  · have e : i = xs.length := by omega
    subst e
    exact .inl ⟨j.stop F' H' M' x'.f r', n σ' F' H' Γ' M' (x1.trans x') s' r' (hd Γ' M' i')⟩
theorem es_while (I : Nat → Gm → Ms → Prop) (m0 : Nat) (h0 : I m0 Γ M)
    (hs : ∀ m Γ' M', I m Γ' M' → ET K t Γ' M' fun b M2 => if b = true then ES K ts Γ' M2 { nx := fun Γ3 M3 => ∃ m', m' < m ∧ I m' Γ3 M3, ct := fun Γ3 M3 => ∃ m', m' < m ∧ I m' Γ3 M3, bk := E.nx, rt := E.rt } else E.nx Γ' M2) : ES K (tWhile t ts) Γ M E := fun σ F H S R De n rt _ _ => by
  refine ⟨fun m σ' H' => ∃ F' Γ' M', Ext F H M F' H' M' ∧ RepS K F' σ' Γ' ∧ Rep K F' H' M' ∧ I m Γ' M', ⟨m0, F, Γ, M, .refl, S, R, h0⟩, ?_⟩
  rintro m σ' H' ⟨F', Γ', M', x', s', r', i'⟩
  refine hs m Γ' M' i' σ' F' H' s' r' _ fun b F2 H2 M2 x2 r2 q2 => ?_
  cases b with
  | true =>
    show ∃ N : L2.St → Hp → Prop, (∀ σ' H', N σ' H' → ∃ m', m' < m ∧ ∃ F' Γ' M', Ext F H M F' H' M' ∧ RepS K F' σ' Γ' ∧ Rep K F' H' M' ∧ I m' Γ' M') ∧ ts { De with nx := N, ct := N, bk := De.nx } σ' H2
    have x12 := x'.trans x2
    refine ⟨fun σ3 H3 => ∃ m', m' < m ∧ ∃ F3 Γ3 M3, Ext F H M F3 H3 M3 ∧ RepS K F3 σ3 Γ3 ∧ Rep K F3 H3 M3 ∧ I m' Γ3 M3, fun σ3 H3 w => w, ?_⟩
    exact q2 σ' F2 H2 (s'.mono x2.f) r2 _ (fun σ4 F4 H4 Γ4 M4 x4 s4 r4 ⟨m', hm, q4⟩ => ⟨m', hm, F4, Γ4, M4, x12.trans x4, s4, r4, q4⟩) (rt.trans x12) (fun σ4 F4 H4 Γ4 M4 x4 s4 r4 q4 => n σ4 F4 H4 Γ4 M4 (x12.trans x4) s4 r4 q4)
      fun σ4 F4 H4 Γ4 M4 x4 s4 r4 ⟨m', hm, q4⟩ => ⟨m', hm, F4, Γ4, M4, x12.trans x4, s4, r4, q4⟩
  | false => exact n σ' F2 H2 Γ' M2 (x'.trans x2) (s'.mono x2.f) r2 q2

/-! ### comprehensions -/
theorem wipe_at (σ : L2.St) : ∀ (vs : List Nat) (i : Nat), (wipe σ vs)[i]? = if i ∈ vs ∧ i < σ.length then some none else σ[i]?
  | [], i => by simp [wipe]
  | v :: vs, i => by
    unfold L2.wipe
    by_cases hv : v = i
    · subst hv
      by_cases hl : v < (wipe σ vs).length
      · rw [List.getElem?_set_self hl]
        rw [wipe_length] at hl
        simp [hl]
      · rw [List.getElem?_eq_none (by rw [List.length_set]; omega)]
        rw [wipe_length] at hl
        rw [if_neg (by omega), List.getElem?_eq_none (by omega)]
    · rw [List.getElem?_set_ne hv, wipe_at σ vs i]
      have : i ∈ v :: vs ↔ i ∈ vs := by
        rw [List.mem_cons]
        exact ⟨fun h => h.elim (fun e => absurd e.symm hv) id, .inr⟩
      simp only [this]
theorem wipe_back {σ σ2 : L2.St} {vs : List Nat} (hl : σ2.length = σ.length) (h : ∀ j, j ∉ vs → σ2[j]? = (wipe σ vs)[j]?) : wipe σ2 vs = wipe σ vs := by
  refine List.ext_getElem? fun i => ?_
  rw [wipe_at σ2 vs i]
  by_cases hi : i ∈ vs
  · rw [wipe_at σ vs i, hl]
    by_cases hlt : i < σ.length
    · rw [if_pos ⟨hi, hlt⟩, if_pos ⟨hi, hlt⟩]
    · rw [if_neg (fun z => hlt z.2), if_neg (fun z => hlt z.2), List.getElem?_eq_none (by omega), List.getElem?_eq_none (by omega)]
  · rw [if_neg (fun z => hi z.1)]
    exact h i hi
theorem en_lc {wi : TI} {g : TG} {vs : List Nat} {Φ : O → Ms → Prop} (h : EI K wi Γ M fun xs M1 => xs.length ≤ 100000 ∧ ∃ I : Nat → List D → Ms → Prop, I 0 [] M1 ∧
      (∀ i d acc M', xs[i]? = some d → I i acc M' → EG K g vs d (wipeG Γ vs) M' fun Γ2 M2 => ET K t Γ2 M2 fun b M3 => if b = true then EV K te Γ2 M3 fun y M4 => I (i + 1) (acc ++ [y]) M4 else I (i + 1) acc M3) ∧
      ∀ acc M', I xs.length acc M' → Φ (.lst acc) M') : EN K (tLc wi g t te vs) Γ M Φ := fun σ F H S R Q q => by
  refine h σ F H S R _ fun J F1 H1 xs M1 x1 r1 j ⟨hz, I, h0, hs, hd⟩ Dl hD => ?_
  obtain ⟨rN, xN⟩ := r1.new hD (Own.lst (K := K) (F := F1) .nil)
  have s1 : RepS K F1 (wipe σ vs) (wipeG Γ vs) := (S.mono x1.f).wipe vs
  refine ⟨fun i m H' => m = xs.length - i ∧ i ≤ xs.length ∧ ∃ F' M' acc, Ext F1 H1 M1 F' H' ((Dl, .lst acc) :: M') ∧ Rep K F' H' ((Dl, .lst acc) :: M') ∧ acc.length ≤ i ∧ I i acc M', ⟨xs.length, by omega, Nat.zero_le _, F1, M1, [], xN, rN, Nat.le_refl _, h0⟩, ?_⟩
  rintro i m H' ⟨rfl, hi, F', M', acc, x', r', hl, i'⟩
  by_cases hlt : i < xs.length
  · have hx : xs[i]? = some xs[i] := List.getElem?_eq_getElem hlt
    obtain ⟨go, yl⟩ := j.item F' H' _ i _ x'.f r' hx
    refine .inr ⟨go, fun H2 => ∃ F2 M2 acc, Ext F1 H1 M1 F2 H2 ((Dl, .lst acc) :: M2) ∧ Rep K F2 H2 ((Dl, .lst acc) :: M2) ∧ acc.length ≤ i + 1 ∧ I (i + 1) acc M2, fun H2 ⟨F2, M2, acc, w⟩ => ⟨xs.length - (i + 1), by omega, rfl, hlt, F2, M2, acc, w⟩, fun v H2 y => ?_⟩
    obtain ⟨F2, x2, r2, i2⟩ := yl v H2 y
    have sub2 : List.Sublist M' ((Dl, O.lst acc) :: M') := List.sublist_cons_self _ _
    refine hs i _ acc M' hx i' (wipe σ vs) F2 H2 v (s1.mono (x'.trans x2).f) (r2.sub sub2) i2 _ fun σ3 F3 H3 Γ3 M3 x3 s3 r3 e3 w3 => ?_
    obtain ⟨r3', x3'⟩ := r2.frame1 x3 r3
    refine ⟨wipe_back (e3.1.trans (wipe_length σ vs)) e3.2, ?_⟩
    refine w3 σ3 F3 H3 s3 r3 _ fun b F4 H4 M4 x4 r4 w4 => ?_
    obtain ⟨r4', x4'⟩ := r3'.frame1 x4 r4
    have x1234 := ((x'.trans x2).trans x3').trans x4'
    cases b with
    | false => exact ⟨F4, M4, acc, x1234, r4', by omega, w4⟩
    | true =>
      refine w4 σ3 F4 H4 (s3.mono x4.f) r4 _ fun yv F5 H5 yd M5 x5 r5 i5 w5 => ?_
      obtain ⟨r5', x5'⟩ := r4'.frame1 x5 r5
      obtain ⟨_, ho, hh, ow⟩ := r5'.own (Dl, O.lst acc) List.mem_cons_self
      cases ow with
      | @lst vacc _ ow =>
        obtain ⟨r6, x6⟩ := r5'.write (j := 0) rfl (Own.lst (ow.append (.cons i5 .nil)))
        refine ⟨vacc, hh, by rw [ow.length]; exact sz_lt (by omega), F5, M5, acc ++ [yd], (x1234.trans x5').trans x6, r6, by rw [List.length_append]; simp; omega, w5⟩
  · have e : i = xs.length := by omega
    subst e
    refine .inl ⟨j.stop F' H' _ x'.f r', q _ F' H' (.ptr Dl) _ (x1.trans x') r' (.ptr Dl) ⟨Dl, .lst acc, M', rfl, rfl, hd acc M' i'⟩⟩
end
end DL


set_option Elab.async false
set_option linter.all false
set_option maxRecDepth 100000
set_option maxHeartbeats 2000000
namespace DL
open PySem PySem.Spec PyProof.Rows L2 StX

section
variable {K : PySem.W.Frag} {F H F1 H1 F2 H2 F' H' : Hp} {M M1 M2 M' A B : Ms} {σ : L2.St} {Γ Γ' : Gm} {Φ Ψ : D → Ms → Prop} {Q : VK} {ta tb tc te : TE} {t u : TT} {ts tu tz : TS} {r r' : R2} {d x y : D} {v : V} {E E' : DE}

/-! ### sources of walks -/
theorem ei_list {tl : TE} {Ψ : List D → Ms → Prop} (h : EV K tl Γ M fun x M1 => ∃ ds, (x = .lst ds ∨ x = .rol ds) ∧ Ψ ds M1) : EI K (iList K tl) Γ M Ψ := fun σ F H S R Rw q =>
  h σ F H S R _ fun v F1 H1 d M1 x1 r1 i1 ⟨ds, e, h1⟩ => by
    have key : ∃ a xs, v = .ref a ∧ SqL K F1 a xs ∧ IsL K F1 xs ds := by
      rcases e with e | e
      · subst e
        cases i1 with
        | lst h1 h2 => exact ⟨_, _, rfl, .inl (.inl h1), h2⟩
      · subst e
        cases i1 with
        | rol h1 h2 => exact ⟨_, _, rfl, h1, h2⟩
    obtain ⟨a, xs, e1, e2, e3⟩ := key
    refine ⟨a, e1, ⟨xs, r1.le.sql e2⟩, q _ F1 H1 ds M1 x1 r1 ⟨fun F2 H2 M2 g r2 => ⟨xs, (g.trans r2.le).sql e2, Nat.le_of_eq e3.length⟩, fun F2 H2 M2 i d g r2 hx => ?_⟩ h1⟩
    obtain ⟨w, hw, iw⟩ := e3.get hx
    refine ⟨⟨xs, w, (g.trans r2.le).sql e2, hw⟩, fun v' H3 y => ?_⟩
    obtain ⟨rfl, y⟩ := y
    have := y xs ((g.trans r2.le).sql e2)
    rw [hw] at this
    cases this
    exact ⟨F2, .refl, r2, iw.mono g⟩
theorem ei_tup {tl : TE} {Ψ : List D → Ms → Prop} (h : EV K tl Γ M fun x M1 => ∃ ds, x = .tup ds ∧ Ψ ds M1) : EI K (iTup K tl) Γ M Ψ := fun σ F H S R Rw q =>
  h σ F H S R _ fun v F1 H1 d M1 x1 r1 i1 ⟨ds, e, h1⟩ => by
    subst e
    cases i1 with
    | @tup a xs _ e2 e3 =>
      refine ⟨a, rfl, ⟨xs, r1.le.sqt e2⟩, q _ F1 H1 ds M1 x1 r1 ⟨fun F2 H2 M2 g r2 => ⟨xs, (g.trans r2.le).sqt e2, Nat.le_of_eq e3.length⟩, fun F2 H2 M2 i d g r2 hx => ?_⟩ h1⟩
      obtain ⟨w, hw, iw⟩ := e3.get hx
      refine ⟨⟨xs, w, (g.trans r2.le).sqt e2, hw⟩, fun v' H3 y => ?_⟩
      obtain ⟨rfl, y⟩ := y
      have := y xs ((g.trans r2.le).sqt e2)
      rw [hw] at this
      cases this
      exact ⟨F2, .refl, r2, iw.mono g⟩
/-- lo, lo + 1, .. -/
def rngD (lo : Int) (n : Nat) : List D := (List.range n).map fun i : Nat => .int (lo + (i : Int))
theorem rngD_length (lo : Int) (n : Nat) : (rngD lo n).length = n := by
  unfold rngD
  rw [List.length_map, List.length_range]
theorem rngD_get {lo : Int} {n i : Nat} {d : D} (h : (rngD lo n)[i]? = some d) : i < n ∧ d = .int (lo + (i : Int)) := by
  unfold rngD at h
  rw [List.getElem?_map] at h
  by_cases hi : i < n
  · rw [List.getElem?_range hi] at h
    exact ⟨hi, (Option.some.inj h).symm⟩
  · rw [List.getElem?_eq_none (by rw [List.length_range]; omega)] at h
    cases h
theorem jok_rng (lo : Int) (n : Nat) : JOk K F (Itr lo n) (rngD lo n) := by
  refine ⟨fun F1 H1 M1 _ _ => ?_, fun F1 H1 M1 i d g r hx => ?_⟩
  · show n ≤ (rngD lo n).length
    rw [rngD_length]
    exact Nat.le_refl _
  · obtain ⟨hi, rfl⟩ := rngD_get hx
    refine ⟨hi, fun v H2 y => ?_⟩
    obtain ⟨rfl, rfl⟩ := y
    exact ⟨F1, .refl, r, .int _⟩
theorem ei_rng1 {tl : TA} {Ψ : List D → Ms → Prop} (h : EA K tl Γ M fun xs M1 => ∃ n : Int, xs = [.int n] ∧ -1000000000 ≤ n ∧ n ≤ 1000000000 ∧ Ψ (rngD 0 n.toNat) M1) : EI K (iRng1 tl) Γ M Ψ := fun σ F H S R Rw q =>
  h σ F H S R _ fun vs F1 H1 ds M1 x1 r1 i1 ⟨n, e, h1, h2, h3⟩ => by
    subst e
    have e := isl_ints' [n] vs i1
    subst e
    exact ⟨n, rfl, by omega, by omega, q _ F1 H1 _ M1 x1 r1 (jok_rng 0 _) h3⟩
theorem ei_rng2 {tl : TA} {Ψ : List D → Ms → Prop} (h : EA K tl Γ M fun xs M1 => ∃ a n : Int, xs = [.int a, .int n] ∧ (-1000000000 ≤ a ∧ a ≤ 1000000000 ∧ -1000000000 ≤ n ∧ n ≤ 1000000000) ∧ Ψ (rngD a (n - a).toNat) M1) : EI K (iRng2 tl) Γ M Ψ := fun σ F H S R Rw q =>
  h σ F H S R _ fun vs F1 H1 ds M1 x1 r1 i1 ⟨a, n, e, h1, h3⟩ => by
    subst e
    have e := isl_ints' [a, n] vs i1
    subst e
    exact ⟨a, n, rfl, ⟨by omega, by omega, by omega, by omega⟩, q _ F1 H1 _ M1 x1 r1 (jok_rng a _) h3⟩
/-- a pair made on the way -/
theorem Rep.pair {T : Addr} {v w : V} {x y : D} (r : Rep K F H M) (nT : H T = none) (i1 : Is K F v x) (i2 : Is K F w y) : ∃ F2, Ext F H M F2 (upd H T (.tup [v, w])) M ∧ Rep K F2 (upd H T (.tup [v, w])) M ∧ Is K F2 (.ref T) (.tup [x, y]) := by
  obtain ⟨r3, x3⟩ := r.new nT (Own.tup (.cons i1 (.cons i2 .nil)))
  obtain ⟨F4, r4, x4, i4⟩ := r3.letgo (j := 0) rfl
  exact ⟨F4, x3.trans x4, r4, i4⟩
/-- pairs (i, item) -/
def enumD (ds : List D) : List D := (List.range ds.length).map fun i : Nat => .tup [.int (i : Int), ds.getD i .non]
theorem enumD_length (ds : List D) : (enumD ds).length = ds.length := by
  unfold enumD
  rw [List.length_map, List.length_range]
theorem enumD_get {ds : List D} {i : Nat} {d : D} (h : (enumD ds)[i]? = some d) : ∃ x, ds[i]? = some x ∧ d = .tup [.int (i : Int), x] := by
  unfold enumD at h
  rw [List.getElem?_map] at h
  by_cases hi : i < ds.length
  · rw [List.getElem?_range hi] at h
    refine ⟨ds[i], List.getElem?_eq_getElem hi, ?_⟩
    have e : d = .tup [.int (i : Int), ds.getD i .non] := (Option.some.inj h).symm
    rw [List.getD_eq_getElem?_getD, List.getElem?_eq_getElem hi] at e
    exact e
  · rw [List.getElem?_eq_none (by rw [List.length_range]; omega)] at h
    cases h
theorem ei_enum {tl : TA} {Ψ : List D → Ms → Prop} (h : EA K tl Γ M fun xs M1 => ∃ x ds, xs = [x] ∧ (x = .lst ds ∨ x = .rol ds) ∧ Ψ (enumD ds) M1) : EI K (iEnum K tl) Γ M Ψ := fun σ F H S R Rw q =>
  h σ F H S R _ fun vs F1 H1 es M1 x1 r1 i1 ⟨x, ds, e0, e, h1⟩ => by
    subst e0
    cases i1 with
    | @cons v _ _ _ i1 i2 =>
    cases i2
    have key : ∃ a xs, v = .ref a ∧ SqL K F1 a xs ∧ IsL K F1 xs ds := by
      rcases e with e | e
      · subst e
        cases i1 with
        | lst h1 h2 => exact ⟨_, _, rfl, .inl (.inl h1), h2⟩
      · subst e
        cases i1 with
        | rol h1 h2 => exact ⟨_, _, rfl, h1, h2⟩
    obtain ⟨a, xs, e1, e2, e3⟩ := key
    subst e1
    refine ⟨a, xs, rfl, r1.le.sql e2, q _ F1 H1 (enumD ds) M1 x1 r1 ⟨fun F2 H2 M2 g r2 => ⟨xs, (g.trans r2.le).sql e2, Nat.le_of_eq (by rw [enumD_length]; exact e3.length)⟩, fun F2 H2 M2 i d g r2 hx => ?_⟩ h1⟩
    obtain ⟨x, hx2, rfl⟩ := enumD_get hx
    obtain ⟨w, hw, iw⟩ := e3.get hx2
    refine ⟨⟨xs, w, (g.trans r2.le).sql e2, hw⟩, fun v' H3 y => ?_⟩
    obtain ⟨T, w', rfl, nT, rfl, y⟩ := y
    have := y xs ((g.trans r2.le).sql e2)
    rw [hw] at this
    cases this
    exact r2.pair nT (.int (i : Int)) (iw.mono g)
/-- pairs of two lists' items, as long as the shorter one -/
def zipD : List D → List D → List D
  | x :: xs, y :: ys => .tup [x, y] :: zipD xs ys
  | _, _ => []
theorem zipD_length : ∀ xs ys : List D, (zipD xs ys).length = min xs.length ys.length
  | [], ys => by simp [zipD]
  | x :: xs, [] => by simp [zipD]
  | x :: xs, y :: ys => by
    simp only [zipD, List.length_cons, zipD_length xs ys]
    omega
theorem zipD_get : ∀ {xs ys : List D} {i : Nat} {d : D}, (zipD xs ys)[i]? = some d → ∃ x y, xs[i]? = some x ∧ ys[i]? = some y ∧ d = .tup [x, y]
  | [], _, _, _, h => by simp [zipD] at h
  | _ :: _, [], _, _, h => by simp [zipD] at h
  | x :: xs, y :: ys, 0, d, h => ⟨x, y, rfl, rfl, by simpa [zipD] using h.symm⟩
  | x :: xs, y :: ys, i + 1, d, h => by
    have h' : (zipD xs ys)[i]? = some d := by simpa [zipD] using h
    obtain ⟨a, b, h1, h2, h3⟩ := zipD_get h'
    exact ⟨a, b, by simpa using h1, by simpa using h2, h3⟩
theorem ei_zip {tl : TA} {Ψ : List D → Ms → Prop} (h : EA K tl Γ M fun zs M1 => ∃ x y xs ys, zs = [x, y] ∧ (x = .lst xs ∨ x = .rol xs) ∧ (y = .lst ys ∨ y = .rol ys) ∧ Ψ (zipD xs ys) M1) : EI K (iZip K tl) Γ M Ψ := fun σ F H S R Rw q =>
  h σ F H S R _ fun vs F1 H1 es M1 x1 r1 i1 ⟨x, y, xs, ys, e0, e, e', h1⟩ => by
    subst e0
    cases i1 with
    | @cons v _ _ _ i1 i2 =>
    cases i2 with
    | @cons w _ _ _ i2 i3 =>
    cases i3
    have key : ∀ {v : V} {x : D} {ds : List D}, (x = .lst ds ∨ x = .rol ds) → Is K F1 v x → ∃ a xs, v = .ref a ∧ SqL K F1 a xs ∧ IsL K F1 xs ds := by
      intro v x ds e i1
      rcases e with e | e
      · subst e
        cases i1 with
        | lst h1 h2 => exact ⟨_, _, rfl, .inl (.inl h1), h2⟩
      · subst e
        cases i1 with
        | rol h1 h2 => exact ⟨_, _, rfl, h1, h2⟩
    obtain ⟨a, us, e1, e2, e3⟩ := key e i1
    obtain ⟨b, ws, f1, f2, f3⟩ := key e' i2
    subst e1 f1
    refine ⟨a, b, us, ws, rfl, r1.le.sql e2, r1.le.sql f2, q _ F1 H1 (zipD xs ys) M1 x1 r1 ⟨fun F2 H2 M2 g r2 => ⟨us, ws, (g.trans r2.le).sql e2, (g.trans r2.le).sql f2, ?_⟩, fun F2 H2 M2 i d g r2 hx => ?_⟩ h1⟩
    · rw [zipD_length, e3.length, f3.length]
      omega
    · obtain ⟨x, y, hx2, hy, rfl⟩ := zipD_get hx
      obtain ⟨w1, hw1, iw1⟩ := e3.get hx2
      obtain ⟨w2, hw2, iw2⟩ := f3.get hy
      refine ⟨⟨us, ws, w1, w2, (g.trans r2.le).sql e2, (g.trans r2.le).sql f2, hw1, hw2⟩, fun v' H3 z => ?_⟩
      obtain ⟨T, u1, u2, rfl, nT, rfl, z1, z2⟩ := z
      have k1 := z1 us ((g.trans r2.le).sql e2)
      have k2 := z2 ws ((g.trans r2.le).sql f2)
      rw [hw1] at k1
      rw [hw2] at k2
      cases k1
      cases k2
      exact r2.pair nT (iw1.mono g) (iw2.mono g)

/-! ### operators -/
theorem OpR.or {X : Cx} {f : Value → Value → Sem Value} {r r' : R2} (h : OpR X f r) (h' : OpR X f r') : OpR X f (fun x y H Q => r x y H Q ∨ r' x y H Q) := by
  intro pins s σ H x y v u Q I rx ry q
  rcases q with q | q
  · exact h pins s σ H x y v u Q I rx ry q
  · exact h' pins s σ H x y v u Q I rx ry q
theorem r2_inl (h : R2' K r x y M Φ) : R2' K (fun x y H Q => r x y H Q ∨ r' x y H Q) x y M Φ := fun F H R u v i1 i2 Q q => .inl (h F H R u v i1 i2 Q q)
theorem r2_inr (h : R2' K r' x y M Φ) : R2' K (fun x y H Q => r x y H Q ∨ r' x y H Q) x y M Φ := fun F H R u v i1 i2 Q q => .inr (h F H R u v i1 i2 Q q)
theorem r2_I0 {g : Int → Int → V} (i j : Int) (hx : x = .int i) (hy : y = .int j) (hs : isSc (g i j) = true) (h : Φ (sc (g i j)) M) : R2' K (rI0 g) x y M Φ := fun F H R u v i1 i2 Q q => by
  subst hx hy
  cases i1
  cases i2
  exact ⟨i, j, rfl, rfl, q.here R (is_sc hs) h⟩
theorem r2_I {C : Int → Int → Prop} {g : Int → Int → V} (i j : Int) (hx : x = .int i) (hy : y = .int j) (hc : C i j) (hs : isSc (g i j) = true) (h : Φ (sc (g i j)) M) : R2' K (rI C g) x y M Φ := fun F H R u v i1 i2 Q q => by
  subst hx hy
  cases i1
  cases i2
  exact ⟨i, j, rfl, rfl, hc, q.here R (is_sc hs) h⟩
/-- + of whatever can be added -/
def rStr : R2 := fun x y H Q => ∃ i j, x = .str i ∧ y = .str j ∧ i.length + j.length ≤ sizeLine ∧ Q (.str (i ++ j)) H
def rAdd (K : PySem.W.Frag) : R2 := fun x y H Q => rI0 (fun i j => .int (i + j)) x y H Q ∨ (rCat x y H Q ∨ (rStr x y H Q ∨ rCatT K x y H Q))
theorem op_addA {X : Cx} : OpR X (binaryOp .Add) (rAdd X.K) := op_add.or (op_cat.or (OpR.or op_add_str op_catT))
def rMulA : R2 := fun x y H Q => rI CMul (fun i j => .int (i * j)) x y H Q ∨ (rI CMulW (fun i j => .int (i * j)) x y H Q ∨ rRep x y H Q)
theorem op_mulA {X : Cx} : OpR X (binaryOp .Mult) rMulA := op_mul.or (op_mulW.or op_rep)
def rEqA (K : PySem.W.Frag) : R2 := fun x y H Q => rEq x y H Q ∨ rEqD K x y H Q
def rNeA (K : PySem.W.Frag) : R2 := fun x y H Q => rNe x y H Q ∨ rNeD K x y H Q
theorem op_eqA {X : Cx} (hu : X.A.units + 64 < cLine) : OpR X (compareOp .Eq) (rEqA X.K) := op_eq.or (op_eqD hu)
theorem op_neA {X : Cx} (hu : X.A.units + 64 < cLine) : OpR X (compareOp .NotEq) (rNeA X.K) := op_ne.or (op_neD hu)

theorem r2_add (i j : Int) (hx : x = .int i) (hy : y = .int j) (h : Φ (.int (i + j)) M) : R2' K (rAdd K) x y M Φ := r2_inl (r2_I0 i j hx hy rfl h)
theorem r2_mul (i j : Int) (hx : x = .int i) (hy : y = .int j) (hc : CMul i j) (h : Φ (.int (i * j)) M) : R2' K rMulA x y M Φ := r2_inl (r2_I i j hx hy hc rfl h)
theorem r2_mulW (i j : Int) (hx : x = .int i) (hy : y = .int j) (hc : CMulW i j) (h : Φ (.int (i * j)) M) : R2' K rMulA x y M Φ := r2_inr (r2_inl (r2_I i j hx hy hc rfl h))
theorem r2_sub (i j : Int) (hx : x = .int i) (hy : y = .int j) (h : Φ (.int (i - j)) M) : R2' K (rI0 fun i j => .int (i - j)) x y M Φ := r2_I0 i j hx hy rfl h
theorem r2_mod (i j : Int) (hx : x = .int i) (hy : y = .int j) (hc : 0 < j) (h : Φ (.int (i % j)) M) : R2' K (rI (fun _ j => 0 < j) fun i j => .int (i % j)) x y M Φ := r2_I i j hx hy hc rfl h
theorem r2_fdiv (i j : Int) (hx : x = .int i) (hy : y = .int j) (hc : CDiv i j) (h : Φ (.int (i / j)) M) : R2' K (rI CDiv fun i j => .int (i / j)) x y M Φ := r2_I i j hx hy hc rfl h
theorem r2_pow (i j : Int) (hx : x = .int i) (hy : y = .int j) (hc : CPow i j) (h : Φ (.int (i ^ j.toNat)) M) : R2' K (rI CPow fun i j => .int (i ^ j.toNat)) x y M Φ := r2_I i j hx hy hc rfl h
theorem r2_lt (i j : Int) (hx : x = .int i) (hy : y = .int j) (h : Φ (.bl (decide (i < j))) M) : R2' K (rI0 fun i j => .bl (decide (i < j))) x y M Φ := r2_I0 i j hx hy rfl h
theorem r2_le (i j : Int) (hx : x = .int i) (hy : y = .int j) (h : Φ (.bl (decide (i ≤ j))) M) : R2' K (rI0 fun i j => .bl (decide (i ≤ j))) x y M Φ := r2_I0 i j hx hy rfl h
theorem r2_gt (i j : Int) (hx : x = .int i) (hy : y = .int j) (h : Φ (.bl (decide (j < i))) M) : R2' K (rI0 fun i j => .bl (decide (j < i))) x y M Φ := r2_I0 i j hx hy rfl h
theorem r2_ge (i j : Int) (hx : x = .int i) (hy : y = .int j) (h : Φ (.bl (decide (j ≤ i))) M) : R2' K (rI0 fun i j => .bl (decide (j ≤ i))) x y M Φ := r2_I0 i j hx hy rfl h
theorem r2_eqI (i j : Int) (hx : x = .int i) (hy : y = .int j) (h : Φ (.bl (decide (i = j))) M) : R2' K (rEqA K) x y M Φ := r2_inl fun F H R u v i1 i2 Q q => by
  subst hx hy
  cases i1
  cases i2
  have e : decide (V.int i = V.int j) = decide (i = j) := by simp
  exact ⟨rfl, by rw [e]; exact q.here R (.bl _) h⟩
theorem r2_neI (i j : Int) (hx : x = .int i) (hy : y = .int j) (h : Φ (.bl (!decide (i = j))) M) : R2' K (rNeA K) x y M Φ := r2_inl fun F H R u v i1 i2 Q q => by
  subst hx hy
  cases i1
  cases i2
  have e : decide (V.int i = V.int j) = decide (i = j) := by simp
  exact ⟨rfl, by rw [e]; exact q.here R (.bl _) h⟩
theorem r2_eqB (i j : Bool) (hx : x = .bl i) (hy : y = .bl j) (h : Φ (.bl (decide (i = j))) M) : R2' K (rEqA K) x y M Φ := r2_inl fun F H R u v i1 i2 Q q => by
  subst hx hy
  cases i1
  cases i2
  have e : decide (V.bl i = V.bl j) = decide (i = j) := by simp
  exact ⟨rfl, by rw [e]; exact q.here R (.bl _) h⟩
theorem r2_neB (i j : Bool) (hx : x = .bl i) (hy : y = .bl j) (h : Φ (.bl (!decide (i = j))) M) : R2' K (rNeA K) x y M Φ := r2_inl fun F H R u v i1 i2 Q q => by
  subst hx hy
  cases i1
  cases i2
  have e : decide (V.bl i = V.bl j) = decide (i = j) := by simp
  exact ⟨rfl, by rw [e]; exact q.here R (.bl _) h⟩
theorem r2_eqS (i j : Str) (hx : x = .str i) (hy : y = .str j) (h : Φ (.bl (decide (i = j))) M) : R2' K (rEqA K) x y M Φ := r2_inl fun F H R u v i1 i2 Q q => by
  subst hx hy
  cases i1
  cases i2
  have e : decide (V.str i = V.str j) = decide (i = j) := by simp
  exact ⟨rfl, by rw [e]; exact q.here R (.bl _) h⟩
theorem r2_neS (i j : Str) (hx : x = .str i) (hy : y = .str j) (h : Φ (.bl (!decide (i = j))) M) : R2' K (rNeA K) x y M Φ := r2_inl fun F H R u v i1 i2 Q q => by
  subst hx hy
  cases i1
  cases i2
  have e : decide (V.str i = V.str j) = decide (i = j) := by simp
  exact ⟨rfl, by rw [e]; exact q.here R (.bl _) h⟩
theorem r1_neg (i : Int) (hx : x = .int i) (h : Φ (.int (-i)) M) : R1' K (rU fun i => .int (-i)) x M Φ := fun F H R u i1 Q q => by
  subst hx
  cases i1
  exact ⟨i, rfl, q.here R (.int _) h⟩

/-! ### == at depth -/
mutual
def D.py : D → PyData
  | .bl b => .bool b | .int i => .int i | .str x => .str x | .lst xs => .list (pyL xs) | .tup xs => .tuple (pyL xs) | .rol xs => .list (pyL xs)
  | .non => .none | .ty _ => .none | .ptr _ => .none | .dK _ => .none | .dT _ => .none | .ins _ _ => .none
def pyL : List D → List PyData
  | [] => []
  | d :: ds => d.py :: pyL ds
end
mutual
def D.plain : D → Bool
  | .bl _ => true | .int _ => true | .str _ => true | .non => true | .lst xs => plainL xs | .tup xs => plainL xs | .rol xs => plainL xs
  | .ty _ => false | .ptr _ => false | .dK _ => false | .dT _ => false | .ins _ _ => false
def plainL : List D → Bool
  | [] => true
  | d :: ds => d.plain && plainL ds
end
mutual
theorem is_dp : ∀ (d : D) (v : V), d.plain = true → Is K F v d → Dp K F v d.py
  | .non, _, _, h => by cases h; exact .non
  | .bl b, _, _, h => by cases h; exact .bl b
  | .int i, _, _, h => by cases h; exact .int i
  | .str x, _, _, h => by cases h; exact .str x
  | .ty _, _, h, _ => by cases h
  | .ptr _, _, h, _ => by cases h
  | .dK _, _, h, _ => by cases h
  | .dT _, _, h, _ => by cases h
  | .ins _ _, _, h, _ => by cases h
  | .lst ds, _, hp, h => by
    cases h with
    | lst h1 h2 => exact .lst (.inl (.inl h1)) (isl_dp ds _ hp h2)
  | .tup ds, _, hp, h => by
    cases h with
    | tup h1 h2 => exact .tup h1 (isl_dp ds _ hp h2)
  | .rol ds, _, hp, h => by
    cases h with
    | rol h1 h2 => exact .lst h1 (isl_dp ds _ hp h2)
theorem isl_dp : ∀ (ds : List D) (vs : List V), plainL ds = true → IsL K F vs ds → DpAll K F vs (pyL ds)
  | [], _, _, h => by cases h; exact .nil
  | d :: ds, _, hp, h => by
    have hp' : (d.plain && plainL ds) = true := hp
    rw [Bool.and_eq_true] at hp'
    cases h with
    | cons h1 h2 => exact .cons (is_dp d _ hp'.1 h1) (isl_dp ds _ hp'.2 h2)
end
/-- what reads as plain data -/
inductive PR (M : Ms) : D → PyData → Prop
  | of {d : D} : d.plain = true → PR M d d.py
  | own {p : Addr} {ds : List D} : (p, O.lst ds) ∈ M → plainL ds = true → PR M (.ptr p) (.list (pyL ds))
mutual
theorem dp_mono (g : Gr F F') : ∀ (d : PyData) (v : V), Dp K F v d → Dp K F' v d
  | .none, _, h => by cases h; exact .non
  | .bool b, _, h => by cases h; exact .bl b
  | .int i, _, h => by cases h; exact .int i
  | .str x, _, h => by cases h; exact .str x
  | .list ds, _, h => by
    cases h with
    | lst h1 h2 => exact .lst (g.sql h1) (dpa_mono g ds _ h2)
  | .tuple ds, _, h => by
    cases h with
    | tup h1 h2 => exact .tup (g.sqt h1) (dpa_mono g ds _ h2)
  | .dict _, _, h => by cases h
theorem dpa_mono (g : Gr F F') : ∀ (ds : List PyData) (vs : List V), DpAll K F vs ds → DpAll K F' vs ds
  | [], _, h => by cases h; exact .nil
  | d :: ds, _, h => by
    cases h with
    | cons h1 h2 => exact .cons (dp_mono g d _ h1) (dpa_mono g ds _ h2)
end
theorem PR.dp {p : PyData} (l : PR M x p) (r : Rep K F H M) (i : Is K F v x) : Dp K H v p := by
  cases l with
  | of h => exact dp_mono r.le _ _ (is_dp x v h i)
  | own hm hp =>
    cases i
    obtain ⟨_, ho, h1, h2⟩ := r.own _ hm
    cases h2 with
    | lst h2 => exact .lst (.inl (.inl h1)) (dpa_mono r.le _ _ (isl_dp _ _ hp h2))
theorem r2_eqD {p q : PyData} (hx : PR M x p) (hy : PR M y q) (sp : SeqAt.shaped p = true) (sq : SeqAt.shaped q = true) (h : Φ (.bl (PyData.eqv p q)) M) : R2' K (rEqA K) x y M Φ := r2_inr fun F H R u v i1 i2 Q k =>
  ⟨p, q, hx.dp R i1, hy.dp R i2, sp, sq, k.here R (.bl _) h⟩
theorem r2_neD {p q : PyData} (hx : PR M x p) (hy : PR M y q) (sp : SeqAt.shaped p = true) (sq : SeqAt.shaped q = true) (h : Φ (.bl (!PyData.eqv p q)) M) : R2' K (rNeA K) x y M Φ := r2_inr fun F H R u v i1 i2 Q k =>
  ⟨p, q, hx.dp R i1, hy.dp R i2, sp, sq, k.here R (.bl _) h⟩
theorem pyL_ints : ∀ ns : List Int, pyL (ns.map D.int) = ns.map PyData.int
  | [] => rfl
  | n :: ns => by rw [List.map_cons, List.map_cons, pyL, pyL_ints ns]; rfl
theorem plainL_ints : ∀ ns : List Int, plainL (ns.map D.int) = true
  | [] => rfl
  | n :: ns => by rw [List.map_cons, plainL, plainL_ints ns]; rfl
theorem shaped_ints (ns : List Int) : SeqAt.shaped (.list (ns.map PyData.int)) = true := by
  have h1 : ∀ ns : List Int, PyData.canLayAll0 (ns.map PyData.int) = true := fun ns => by
    induction ns with
    | nil => rfl
    | cons n ns ih => rw [List.map_cons, PyData.canLayAll0, ih]; rfl
  have h2 : ∀ ns : List Int, PyData.depthAll (ns.map PyData.int) = 0 := fun ns => by
    induction ns with
    | nil => rfl
    | cons n ns ih => rw [List.map_cons, PyData.depthAll, ih]; rfl
  unfold SeqAt.shaped
  rw [PyData.canLay0, h1, PyData.depth, h2]
  rfl
theorem eqv_ints : ∀ ns ms : List Int, PyData.eqvAll (ns.map PyData.int) (ms.map PyData.int) = decide (ns = ms)
  | [], [] => rfl
  | [], _ :: _ => rfl
  | _ :: _, [] => rfl
  | n :: ns, m :: ms => by
    rw [List.map_cons, List.map_cons, PyData.eqvAll, eqv_ints ns ms, PyData.eqv, Bool.eq_iff_iff]
    simp
/-- two lists of ints, however they are held -/
inductive RI (M : Ms) : D → List Int → Prop
  | lst (ns : List Int) : RI M (.lst (ns.map .int)) ns
  | nil : RI M (.lst []) []
  | own {p : Addr} {ns : List Int} : (p, O.lst (ns.map .int)) ∈ M → RI M (.ptr p) ns
theorem RI.pr {ns : List Int} (h : RI M x ns) : PR M x (.list (ns.map PyData.int)) := by
  cases h with
  | lst =>
    have h := PR.of (M := M) (d := .lst (ns.map .int)) (plainL_ints ns)
    rw [D.py, pyL_ints] at h
    exact h
  | nil => exact PR.of (M := M) (d := .lst []) rfl
  | own hm =>
    have h := PR.own hm (plainL_ints ns)
    rw [pyL_ints] at h
    exact h
theorem r2_neLI (ns ms : List Int) (hx : RI M x ns) (hy : RI M y ms) (h : Φ (.bl (!decide (ns = ms))) M) : R2' K (rNeA K) x y M Φ :=
  r2_neD hx.pr hy.pr (shaped_ints _) (shaped_ints _) (by rw [PyData.eqv, eqv_ints]; exact h)
theorem r2_eqLI (ns ms : List Int) (hx : RI M x ns) (hy : RI M y ms) (h : Φ (.bl (decide (ns = ms))) M) : R2' K (rEqA K) x y M Φ :=
  r2_eqD hx.pr hy.pr (shaped_ints _) (shaped_ints _) (by rw [PyData.eqv, eqv_ints]; exact h)
end
end DL


set_option Elab.async false
set_option linter.all false
set_option maxRecDepth 100000
set_option maxHeartbeats 2000000
namespace DL
open PySem PySem.Spec PyProof.Rows L2 StX

section
variable {K : PySem.W.Frag} {F H F1 H1 F2 H2 F' H' : Hp} {M M1 M2 M' A B : Ms} {σ : L2.St} {Γ Γ' : Gm} {Φ Ψ : D → Ms → Prop} {Q : VK} {ta tb tc te : TE} {t u : TT} {ts tu tz : TS} {r r' : R2} {d x y : D} {v : V} {E E' : DE}

theorem r2_frz (h : R2' K r x y M (NP fun o M' => Φ o.d M')) : R2' K r x y M Φ := fun F H R u v i1 i2 Q q => h F H R u v i1 i2 Q q.frz
theorem r2_own (h : R2' K r x y M (NP fun o M' => ∀ p, Φ (.ptr p) ((p, o) :: M'))) : R2' K r x y M Φ := fun F H R u v i1 i2 Q q => h F H R u v i1 i2 Q q.own
theorem rc_frz {r : List V → Hp → VK → Prop} {xs : List D} (h : RC' K r xs M (NP fun o M' => Φ o.d M')) : RC' K r xs M Φ := fun F H R u i1 Q q => h F H R u i1 Q q.frz
theorem rc_own {r : List V → Hp → VK → Prop} {xs : List D} (h : RC' K r xs M (NP fun o M' => ∀ p, Φ (.ptr p) ((p, o) :: M'))) : RC' K r xs M Φ := fun F H R u i1 Q q => h F H R u i1 Q q.own
theorem rs_frz {r : V → Option Int → Option Int → Hp → VK → Prop} {lo hi : Option Int} (h : RS' K r x lo hi M (NP fun o M' => Φ o.d M')) : RS' K r x lo hi M Φ := fun F H R u i1 Q q => h F H R u i1 Q q.frz
theorem rs_own {r : V → Option Int → Option Int → Hp → VK → Prop} {lo hi : Option Int} (h : RS' K r x lo hi M (NP fun o M' => ∀ p, Φ (.ptr p) ((p, o) :: M'))) : RS' K r x lo hi M Φ := fun F H R u i1 Q q => h F H R u i1 Q q.own

/-! ### places -/
theorem isl_atI {vs : List V} {ds : List D} {i : Int} {d : D} (h : IsL K F vs ds) (e : atI ds i = some d) : ∃ v, atI vs i = some v ∧ Is K F v d := by
  unfold atI at e ⊢
  rw [← h.length] at e
  cases k : ixN vs.length i with
  | none => rw [k] at e; cases e
  | some j =>
    rw [k] at e
    obtain ⟨v, h1, h2⟩ := h.get (show ds[j]? = some d from e)
    exact ⟨v, h1, h2⟩
theorem r2_ixL {ds : List D} (i : Int) (hx : LQ M x ds) (hy : y = .int i) (he : atI ds i = some d) (h : Φ d M) : R2' K (rIx K) x y M Φ := fun F H R u v i1 i2 Q q => by
  subst hy
  cases i2
  obtain ⟨a, vs, rfl, e1, e2⟩ := hx.at R i1
  obtain ⟨w, hw, iw⟩ := isl_atI e2 he
  exact .inl ⟨a, vs, i, w, rfl, rfl, e1, hw, q.here R iw h⟩
theorem r2_ixT {ds : List D} (i : Int) (hx : x = .tup ds) (hy : y = .int i) (he : atI ds i = some d) (h : Φ d M) : R2' K (rIx K) x y M Φ := fun F H R u v i1 i2 Q q => by
  subst hx hy
  cases i2
  cases i1 with
  | tup e1 e2 =>
    obtain ⟨w, hw, iw⟩ := isl_atI e2 he
    exact .inr (.inl ⟨_, _, i, w, rfl, rfl, R.le.sqt e1, hw, q.here R iw h⟩)
theorem r2_ixS (z : Str) (i : Int) (c : Nat) (hx : x = .str z) (hy : y = .int i) (hz : z.length ≤ 100000) (he : atI z.cps.toList i = some c) (h : Φ (.str ⟨#[c]⟩) M) : R2' K (rIx K) x y M Φ := fun F H R u v i1 i2 Q q => by
  subst hx hy
  cases i1
  cases i2
  exact .inr (.inr ⟨z, i, c, rfl, rfl, sz_of hz, he, q.here R (.str _) h⟩)
theorem atI_ints {ns : List Int} {k : Nat} {n : Int} (e : ns[k]? = some n) : atI (ns.map D.int) (k : Int) = some (.int n) := atI_nat (by rw [List.getElem?_map, e]; rfl)
theorem atI_of {ds : List D} {i : Int} {k : Nat} {d : D} (e : i = (k : Int)) (h : ds[k]? = some d) : atI ds i = some d := by
  rw [e]
  exact atI_nat h

/-! ### slices -/
def cutD (xs : List D) (lo hi : Option Int) : List D := (xs.drop (HT.sIx xs.length 0 lo)).take (HT.sIx xs.length xs.length hi - HT.sIx xs.length 0 lo)
theorem isl_cut {vs : List V} {ds : List D} (h : IsL K F vs ds) (lo hi : Option Int) : IsL K F (cutV vs lo hi) (cutD ds lo hi) := by
  unfold cutV cutD
  rw [h.length]
  exact (h.drop _).take _
theorem eo_none {Φ : Option Int → Ms → Prop} (h : Φ none M) : EO K tNoPart Γ M Φ := fun σ F H S R Q q => q none F H M .refl R h
theorem eo_some {Φ : Option Int → Ms → Prop} (h : EV K ta Γ M fun d M1 => ∃ i, d = .int i ∧ Φ (some i) M1) : EO K (tPart ta) Γ M Φ := fun σ F H S R Q q =>
  h σ F H S R _ fun v F1 H1 d M1 x1 r1 i1 ⟨i, e, h1⟩ => by
    subst e
    cases i1
    exact ⟨i, rfl, q (some i) F1 H1 M1 x1 r1 h1⟩
theorem ev_sl {r : V → Option Int → Option Int → Hp → VK → Prop} {tl th : TO} (h : EV K te Γ M fun x M1 => EO K tl Γ M1 fun lo M2 => EO K th Γ M2 fun hi M3 => RS' K r x lo hi M3 Φ) : EV K (tSl r te tl th) Γ M Φ := fun σ F H S R Q q =>
  h σ F H S R _ fun v F1 H1 d M1 x1 r1 i1 h1 => h1 σ F1 H1 (S.mono x1.f) r1 _ fun lo F2 H2 M2 x2 r2 h2 => h2 σ F2 H2 (S.mono (x1.trans x2).f) r2 _ fun hi F3 H3 M3 x3 r3 h3 =>
    h3 F3 H3 r3 v (i1.mono (x2.trans x3).f) Q (q.trans ((x1.trans x2).trans x3))
/-- slices of lists, tuples, texts -/
def rSlA (K : PySem.W.Frag) : V → Option Int → Option Int → Hp → VK → Prop := fun x lo hi H Q => rSlL K x lo hi H Q ∨ (rSlT K x lo hi H Q ∨ rSlS x lo hi H Q)
theorem SlR.or {X : Cx} {r r' : V → Option Int → Option Int → Hp → VK → Prop} (h : SlR X r) (h' : SlR X r') : SlR X (fun x lo hi H Q => r x lo hi H Q ∨ r' x lo hi H Q) := by
  intro pins s σ H x v vl vu lo hi sl Q I rx hs pl pu q
  rcases q with q | q
  · exact h pins s σ H x v vl vu lo hi sl Q I rx hs pl pu q
  · exact h' pins s σ H x v vl vu lo hi sl Q I rx hs pl pu q
theorem sl_any {X : Cx} : SlR X (rSlA X.K) := sl_list.or (sl_tup.or sl_str)
theorem rs_list {ds : List D} {lo hi : Option Int} {Φ : O → Ms → Prop} (hx : LQ M x ds) (h : Φ (.lst (cutD ds lo hi)) M) : RS' K (rSlA K) x lo hi M (NP Φ) := fun F H R u i1 Q q => by
  obtain ⟨a, vs, rfl, e1, e2⟩ := hx.at R i1
  exact .inl ⟨a, vs, rfl, e1, fun p hp => q.made R hp (.lst (isl_cut e2 lo hi)) h⟩
theorem rs_str (z : Str) {lo hi : Option Int} (hx : x = .str z) (hz : z.length ≤ 100000) (h : Φ (.str (cutS z lo hi)) M) : RS' K (rSlA K) x lo hi M Φ := fun F H R u i1 Q q => by
  subst hx
  cases i1
  exact .inr (.inr ⟨z, rfl, sz_of hz, q.here R (.str _) h⟩)
theorem cutD_from {ds : List D} {k : Nat} (h : k ≤ ds.length) : cutD ds (some (k : Int)) none = ds.drop k := by
  unfold cutD
  rw [HT.sIx_nat, HT.sIx_none, Nat.min_eq_left h]
  exact List.take_of_length_le (by rw [List.length_drop]; exact Nat.le_refl _)
theorem cutD_to {ds : List D} {k : Nat} (h : k ≤ ds.length) : cutD ds none (some (k : Int)) = ds.take k := by
  unfold cutD
  rw [HT.sIx_nat, HT.sIx_none, Nat.min_eq_left h, Nat.sub_zero, List.drop_zero]

/-! ### lists put together -/
theorem r2_cat {xs ys : List D} {Φ : O → Ms → Prop} (hx : LR M x xs) (hy : LR M y ys) (hz : xs.length + ys.length ≤ 100000) (h : Φ (.lst (xs ++ ys)) M) : R2' K (rAdd K) x y M (NP Φ) := r2_inr (r2_inl fun F H R u v i1 i2 Q q => by
  obtain ⟨a, us, rfl, e1, e2⟩ := hx.at R i1
  obtain ⟨b, vs, rfl, f1, f2⟩ := hy.at R i2
  exact ⟨a, b, us, vs, rfl, rfl, e1, f1, by rw [e2.length, f2.length]; exact sz_of hz, fun p hp => q.made R hp (.lst (e2.append f2)) h⟩)
theorem r2_addS (i j : Str) (hx : x = .str i) (hy : y = .str j) (hz : i.length + j.length ≤ 100000) (h : Φ (.str (i ++ j)) M) : R2' K (rAdd K) x y M Φ := r2_inr (r2_inr (r2_inl fun F H R u v i1 i2 Q q => by
  subst hx hy
  cases i1
  cases i2
  exact ⟨i, j, rfl, rfl, sz_of hz, q.here R (.str _) h⟩))
theorem isl_rep {vs : List V} {ds : List D} (h : IsL K F vs ds) : ∀ n : Nat, IsL K F (List.replicate n vs).flatten (List.replicate n ds).flatten
  | 0 => .nil
  | n + 1 => by
    rw [List.replicate_succ, List.replicate_succ, List.flatten_cons, List.flatten_cons]
    exact h.append (isl_rep h n)
theorem r2_rep {xs : List D} (k : Int) {Φ : O → Ms → Prop} (hx : LR M x xs) (hy : y = .int k) (hk : -1000000000 ≤ k ∧ k ≤ 1000000000) (hz : xs.length * k.toNat ≤ 100000) (h : Φ (.lst (List.replicate k.toNat xs).flatten) M) : R2' K rMulA x y M (NP Φ) := r2_inr (r2_inr fun F H R u v i1 i2 Q q => by
  subst hy
  cases i2
  obtain ⟨a, us, rfl, e1, e2⟩ := hx.at R i1
  exact ⟨a, k, us, rfl, rfl, e1, by omega, by omega, by rw [e2.length]; exact sz_of hz, fun p hp => q.made R hp (.lst (isl_rep e2 _)) h⟩)

/-! ### built-in functions of lists -/
/-- how long a thing is -/
inductive LN (M : Ms) : D → Nat → Prop
  | sq {d : D} {ds : List D} : SQ M d ds → LN M d ds.length
  | str (z : Str) : z.length ≤ 100000 → LN M (.str z) z.length
theorem rc_len (x : D) (n : Nat) {xs : List D} (e : xs = [x]) (l : LN M x n) (h : Φ (.int (n : Int)) M) : RC' K (fun xs H Q => ∃ x n, xs = [x] ∧ LenV K x H n ∧ Q (.int n) H) xs M Φ := fun F H R us i1 Q q => by
  subst e
  cases i1 with
  | @cons v _ _ _ i1 i2 =>
    cases i2
    refine ⟨v, n, rfl, ?_, q.here R (.int _) h⟩
    cases l with
    | sq l =>
      obtain ⟨a, vs, rfl, e1, e2⟩ := l.at R i1
      rcases e1 with e1 | e1
      · exact .inl ⟨vs, e1, e2.length.symm⟩
      · exact .inr ⟨vs, e1, e2.length.symm⟩
    | str z hz =>
      cases i1
      exact ⟨sz_of hz, rfl⟩
/-- a list of ints that is read -/
theorem LQ.ints {ns : List Int} (l : LQ M x (ns.map .int)) (r : Rep K F H M) (i : Is K F v x) : ∃ a, v = .ref a ∧ SqL K H a (ns.map V.int) := by
  obtain ⟨a, vs, e1, e2, e3⟩ := l.at r i
  rw [isl_ints' ns vs e3] at e2
  exact ⟨a, e1, e2⟩
theorem rc_sum (x : D) (ns : List Int) {xs : List D} (e : xs = [x]) (l : LQ M x (ns.map .int)) (h : Φ (.int ns.sum) M) : RC' K (rSum K) xs M Φ := fun F H R us i1 Q q => by
  subst e
  cases i1 with
  | @cons v _ _ _ i1 i2 =>
    cases i2
    obtain ⟨a, rfl, e1⟩ := l.ints R i1
    exact ⟨a, ns, rfl, e1, q.here R (.int _) h⟩
theorem rc_all (x : D) (bs : List Bool) {xs : List D} (e : xs = [x]) (l : LQ M x (bs.map .bl)) (h : Φ (.bl (bs.all id)) M) : RC' K (rAll K) xs M Φ := fun F H R us i1 Q q => by
  subst e
  cases i1 with
  | @cons v _ _ _ i1 i2 =>
    cases i2
    obtain ⟨a, vs, rfl, e1, e2⟩ := l.at R i1
    rw [isl_bls' bs vs e2] at e1
    exact ⟨a, bs, rfl, e1, q.here R (.bl _) h⟩
theorem rc_max (x : D) (ns : List Int) {xs : List D} (e : xs = [x]) (l : LQ M x (ns.map .int)) (hn : ns ≠ []) (h : ∀ m, m ∈ ns → (∀ y, y ∈ ns → y ≤ m) → Φ (.int m) M) : RC' K (rMax K) xs M Φ := fun F H R us i1 Q q => by
  subst e
  cases i1 with
  | @cons v _ _ _ i1 i2 =>
    cases i2
    obtain ⟨a, rfl, e1⟩ := l.ints R i1
    exact ⟨a, ns, rfl, e1, List.length_pos_iff.mpr hn, fun m h1 h2 => q.here R (.int _) (h m h1 h2)⟩
theorem rc_min (x : D) (ns : List Int) {xs : List D} (e : xs = [x]) (l : LQ M x (ns.map .int)) (hn : ns ≠ []) (h : ∀ m, m ∈ ns → (∀ y, y ∈ ns → m ≤ y) → Φ (.int m) M) : RC' K (rMin K) xs M Φ := fun F H R us i1 Q q => by
  subst e
  cases i1 with
  | @cons v _ _ _ i1 i2 =>
    cases i2
    obtain ⟨a, rfl, e1⟩ := l.ints R i1
    exact ⟨a, ns, rfl, e1, List.length_pos_iff.mpr hn, fun m h1 h2 => q.here R (.int _) (h m h1 h2)⟩
theorem rc_max2 (i j : Int) {xs : List D} (e : xs = [.int i, .int j]) (h : Φ (.int (if j > i then j else i)) M) : RC' K (fun xs H Q => ∃ i j, xs = [.int i, .int j] ∧ Q (.int (if j > i then j else i)) H) xs M Φ := fun F H R us i1 Q q => by
  subst e
  rw [isl_ints' [i, j] us i1]
  exact ⟨i, j, rfl, q.here R (.int _) h⟩
theorem rc_min2 (i j : Int) {xs : List D} (e : xs = [.int i, .int j]) (h : Φ (.int (if j < i then j else i)) M) : RC' K (fun xs H Q => ∃ i j, xs = [.int i, .int j] ∧ Q (.int (if j < i then j else i)) H) xs M Φ := fun F H R us i1 Q q => by
  subst e
  rw [isl_ints' [i, j] us i1]
  exact ⟨i, j, rfl, q.here R (.int _) h⟩
theorem rc_abs (i : Int) {xs : List D} (e : xs = [.int i]) (h : Φ (.int (if i < 0 then -i else i)) M) : RC' K (fun xs H Q => ∃ i, xs = [.int i] ∧ Q (.int (if i < 0 then -i else i)) H) xs M Φ := fun F H R us i1 Q q => by
  subst e
  rw [isl_ints' [i] us i1]
  exact ⟨i, rfl, q.here R (.int _) h⟩
theorem rc_intI (i : Int) {xs : List D} (e : xs = [.int i]) (h : Φ (.int i) M) : RC' K (fun xs H Q => (∃ i, xs = [.int i] ∧ Q (.int i) H) ∨ ∃ k, xs = [.bl k] ∧ Q (.int (if k then 1 else 0)) H) xs M Φ := fun F H R us i1 Q q => by
  subst e
  rw [isl_ints' [i] us i1]
  exact .inl ⟨i, rfl, q.here R (.int _) h⟩
theorem rc_intB (i : Bool) {xs : List D} (e : xs = [.bl i]) (h : Φ (.int (if i then 1 else 0)) M) : RC' K (fun xs H Q => (∃ i, xs = [.int i] ∧ Q (.int i) H) ∨ ∃ k, xs = [.bl k] ∧ Q (.int (if k then 1 else 0)) H) xs M Φ := fun F H R us i1 Q q => by
  subst e
  rw [isl_bls' [i] us i1]
  exact .inr ⟨i, rfl, q.here R (.int _) h⟩
theorem rc_list {ds : List D} (x : D) {xs : List D} {Φ : O → Ms → Prop} (e : xs = [x]) (l : SQ M x ds) (h : Φ (.lst ds) M) : RC' K (fun xs H Q => ∃ p ys, xs = [.ref p] ∧ (SqL K H p ys ∨ SqT K H p ys) ∧ ∀ l, H l = none → Q (.ref l) (upd H l (.lst ys))) xs M (NP Φ) := fun F H R us i1 Q q => by
  subst e
  cases i1 with
  | @cons v _ _ _ i1 i2 =>
    cases i2
    obtain ⟨a, vs, rfl, e1, e2⟩ := l.at R i1
    exact ⟨a, vs, rfl, e1, fun p hp => q.made R hp (.lst e2) h⟩
/-- list(range(..)) -/
theorem isl_rg (a b : Int) : IsL K F (rgV a b) (rngD a (b - a).toNat) := by
  unfold rgV rngD
  generalize (b - a).toNat = n
  have : ∀ l : List Nat, IsL K F (l.map fun i => V.int (a + (i : Nat))) (l.map fun i : Nat => D.int (a + (i : Int))) := fun l => by
    induction l with
    | nil => exact .nil
    | cons n l ih => exact .cons (.int _) ih
  exact this _
theorem en_listRg1 {Φ : O → Ms → Prop} (h : EV K ta Γ M fun d M1 => ∃ n, d = .int n ∧ 0 ≤ n ∧ n ≤ 100000 ∧ Φ (.lst (rngD 0 n.toNat)) M1) : EN K (tLstRg (tRg1 ta)) Γ M Φ := fun σ F H S R Q q =>
  h σ F H S R _ fun v F1 H1 d M1 x1 r1 i1 ⟨n, e, h1, h2, h3⟩ => by
    subst e
    cases i1
    refine ⟨n, rfl, ⟨by omega, by omega, by omega, by omega, by omega⟩, fun p hp => (q.trans x1).made r1 hp (.lst (isl_rg 0 n)) ?_⟩
    rw [Int.sub_zero]
    exact h3
theorem en_listRg2 {Φ : O → Ms → Prop} (h : EV K ta Γ M fun d M1 => EV K tb Γ M1 fun e M2 => ∃ a b, d = .int a ∧ e = .int b ∧ (0 ≤ a ∧ a ≤ 100000 ∧ 0 ≤ b ∧ b ≤ 100000) ∧ Φ (.lst (rngD a (b - a).toNat)) M2) : EN K (tLstRg (tRg2 ta tb)) Γ M Φ := fun σ F H S R Q q =>
  h σ F H S R _ fun v F1 H1 d M1 x1 r1 i1 h1 => h1 σ F1 H1 (S.mono x1.f) r1 _ fun w F2 H2 e M2 x2 r2 i2 ⟨a, b, e1, e2, hb, h2⟩ => by
    subst e1 e2
    cases i1
    cases i2
    exact ⟨a, b, rfl, rfl, ⟨by omega, by omega, by omega, by omega, by omega⟩, fun p hp => (q.trans (x1.trans x2)).made r2 hp (.lst (isl_rg a b)) h2⟩

/-! ### what an owned list does -/
theorem dty_own {p : Addr} {ds : List D} (h : (p, O.lst ds) ∈ M) : DTy K "list" (.ptr p) M := fun F H R v i => by
  cases i
  obtain ⟨_, ho, h1, h2⟩ := R.own _ h
  cases h2 with
  | lst h2 => exact .inl ⟨rfl, _, .inl (.inl h1)⟩
theorem rm_append {p : Addr} {ds : List D} (j : Nat) (y : D) {xs : List D} (hx : x = .ptr p) (e : xs = [y]) (hm : M[j]? = some (p, .lst ds)) (hz : ds.length < 100000) (h : Φ .non (M.set j (p, .lst (ds ++ [y])))) : RM' K rAppend x xs M Φ := fun F H R u us i1 i2 Q q => by
  subst hx e
  cases i1
  cases i2 with
  | @cons v _ _ _ i2 i3 =>
    cases i3
    obtain ⟨_, ho, h1, h2⟩ := R.own _ (List.mem_of_getElem? hm)
    cases h2 with
    | @lst vs _ h2 =>
      obtain ⟨r2, x2⟩ := R.write hm (.lst (h2.append (.cons i2 .nil)))
      exact ⟨p, vs, v, rfl, rfl, h1, by rw [h2.length]; exact sz_lt hz, q _ F _ .non _ x2 r2 .non h⟩
theorem rm_pop0 {p : Addr} {d : D} {ds : List D} (j : Nat) {xs : List D} (hx : x = .ptr p) (e : xs = [.int 0]) (hm : M[j]? = some (p, .lst (d :: ds))) (h : Φ d (M.set j (p, .lst ds))) : RM' K rPopAt x xs M Φ := fun F H R u us i1 i2 Q q => by
  subst hx e
  cases i1
  rw [isl_ints' [0] us i2]
  obtain ⟨_, ho, h1, h2⟩ := R.own _ (List.mem_of_getElem? hm)
  cases h2 with
  | lst h2 =>
    cases h2 with
    | @cons v _ vs _ i3 h2 =>
      obtain ⟨r2, x2⟩ := R.write hm (.lst h2)
      exact ⟨p, v :: vs, 0, 0, v, rfl, rfl, h1, by decide, by decide, seqIndex_of (by decide) (by rw [List.length_cons]; omega), rfl, q _ F _ _ _ x2 r2 i3 h⟩
theorem rm_popAt {p : Addr} {d : D} {ds : List D} (j : Nat) (k : Nat) {xs : List D} (hx : x = .ptr p) (e : xs = [.int (k : Int)]) (hm : M[j]? = some (p, .lst ds)) (hd : ds[k]? = some d) (hk : k ≤ 1000000000) (h : Φ d (M.set j (p, .lst (ds.eraseIdx k)))) : RM' K rPopAt x xs M Φ := fun F H R u us i1 i2 Q q => by
  subst hx e
  cases i1
  rw [isl_ints' [(k : Int)] us i2]
  obtain ⟨_, ho, h1, h2⟩ := R.own _ (List.mem_of_getElem? hm)
  cases h2 with
  | @lst vs _ h2 =>
    obtain ⟨v, hv, iv⟩ := h2.get hd
    obtain ⟨r2, x2⟩ := R.write hm (.lst (h2.eraseIdx k))
    have hlt : k < vs.length := (List.getElem?_eq_some_iff.mp hv).1
    exact ⟨p, vs, (k : Int), k, v, rfl, rfl, h1, by omega, by omega, by rw [seqIndex_of (by omega) (by omega)]; simp, hv, q _ F _ _ _ x2 r2 iv h⟩
theorem eg_setL {own : List Nat} {Ψ : Gm → Ms → Prop} (h : EV K ta Γ M fun o M1 => EV K tb Γ M1 fun i M2 => ∃ (j k : Nat) (p : Addr) (ds : List D), o = .ptr p ∧ i = .int (k : Int) ∧ M2[j]? = some (p, .lst ds) ∧ k < ds.length ∧ Ψ Γ (M2.set j (p, .lst (ds.set k d)))) : EG K (gSub ta tb rSetL) own d Γ M Ψ := fun σ F H v S R i0 Q q =>
  h σ F H S R _ fun o F1 H1 od M1 x1 r1 i1 h1 => h1 σ F1 H1 (S.mono x1.f) r1 _ fun i F2 H2 ie M2 x2 r2 i2 ⟨j, k, p, ds, e1, e2, hm, hk, hq⟩ => by
    subst e1 e2
    cases i1
    cases i2
    obtain ⟨_, ho, h1, h2⟩ := r2.own _ (List.mem_of_getElem? hm)
    cases h2 with
    | @lst vs _ h2 =>
      have x12 := x1.trans x2
      obtain ⟨r3, x3⟩ := r2.write hm (.lst (h2.set (i0.mono x12.f) k))
      refine ⟨p, vs, (k : Int), k, rfl, rfl, h1, ?_, q σ F2 _ Γ _ (x12.trans x3) (S.mono x12.f) r3 ⟨rfl, fun _ _ => rfl⟩ hq⟩
      unfold ixN
      rw [h2.length, if_pos (by omega), if_pos (by omega)]
      simp
end

/-! ### xs[i] op= e -/
/-- xs[i], i from 0 on -/
def rGetL (K : PySem.W.Frag) : V → V → Hp → VK → Prop := fun o i H Q => ∃ (p : Addr) (xs : List V) (k : Nat) (v : V), o = .ref p ∧ i = .int (k : Int) ∧ k < 1000000000 ∧ SqL K H p xs ∧ xs[k]? = some v ∧ Q v H
theorem pget_list {X : Cx} : PGet X (rGetL X.K) := fun pins s σ H o i ov iv Q I ro ri h => by
  obtain ⟨p, xs, k, v, rfl, rfl, hk, hS, hx, q⟩ := h
  cases ro
  obtain ⟨t, rfl⟩ := ri
  obtain ⟨its, r, pl, hz⟩ := I.list hS
  obtain ⟨w, ew, rw'⟩ := r.get hx
  exact wpAny_getItem_list pl.isList (by omega) (by omega) (by simpa using ew) ⟨v, H, I, rw', q⟩
section
variable {K : PySem.W.Frag} {M : Ms} {Γ : Gm} {E : DE} {ta tb te : TE}
theorem es_augL {f : Int → Int → Int} (h : EV K ta Γ M fun o M1 => EV K tb Γ M1 fun i M2 => ∃ (j k : Nat) (p : Addr) (ds : List D) (a : Int), o = .ptr p ∧ i = .int (k : Int) ∧ M2[j]? = some (p, .lst ds) ∧ k < 1000000000 ∧ ds[k]? = some (.int a) ∧
      EV K te Γ M2 fun e M3 => ∃ b ds', e = .int b ∧ M3[j]? = some (p, .lst ds') ∧ k < ds'.length ∧ E.nx Γ (M3.set j (p, .lst (ds'.set k (.int (f a b)))))) : ES K (tAugS ta tb te (rGetL K) (ipI f) rSetL) Γ M E := fun σ F H S R De n _ _ _ =>
  h σ F H S R _ fun o F1 H1 od M1 x1 r1 i1 h1 => h1 σ F1 H1 (S.mono x1.f) r1 _ fun i F2 H2 ie M2 x2 r2 i2 ⟨j, k, p, ds, a, e1, e2, hm, hk, hd, h2⟩ => by
    subst e1 e2
    cases i1
    cases i2
    obtain ⟨_, ho, g1, g2⟩ := r2.own _ (List.mem_of_getElem? hm)
    cases g2 with
    | @lst vs _ g2 =>
      obtain ⟨v, hv, iv⟩ := g2.get hd
      cases iv
      have x12 := x1.trans x2
      refine ⟨p, vs, k, .int a, rfl, rfl, hk, .inl (.inl g1), hv, h2 σ F2 H2 (S.mono x12.f) r2 _ fun w F3 H3 d3 M3 x3 r3 i3 ⟨b, ds', e3, hm3, hk3, q⟩ => ?_⟩
      subst e3
      cases i3
      refine ⟨a, b, rfl, rfl, ?_⟩
      obtain ⟨_, ho, f1, f2⟩ := r3.own _ (List.mem_of_getElem? hm3)
      cases f2 with
      | @lst us _ f2 =>
        obtain ⟨r4, x4⟩ := r3.write hm3 (.lst (f2.set (.int (f a b)) k))
        refine ⟨p, us, (k : Int), k, rfl, rfl, f1, ?_, n σ F3 _ Γ _ ((x12.trans x3).trans x4) (S.mono (x12.trans x3).f) r4 q⟩
        unfold ixN
        rw [f2.length, if_pos (by omega), if_pos (by omega)]
        simp
end

/-! ### isinstance -/
/-- a thing's type by its name -/
inductive TN (M : Ms) : D → String → Prop
  | non : TN M .non "NoneType" | bl (b : Bool) : TN M (.bl b) "bool" | int (i : Int) : TN M (.int i) "int" | str (x : Str) : TN M (.str x) "str"
  | lst (ds : List D) : TN M (.lst ds) "list" | rol (ds : List D) : TN M (.rol ds) "list" | tup (ds : List D) : TN M (.tup ds) "tuple" | dK (ds : List (Key × D)) : TN M (.dK ds) "dict"
  | oL {p : Addr} {ds : List D} : (p, O.lst ds) ∈ M → TN M (.ptr p) "list"
  | oK {p : Addr} {ds : List (Key × D)} : (p, O.dK ds) ∈ M → TN M (.ptr p) "dict"
  | oT {p : Addr} {ds : List (List Key × D)} : (p, O.dT ds) ∈ M → TN M (.ptr p) "dict"
section
variable {K : PySem.W.Frag} {F H : Hp} {M : Ms} {Φ : D → Ms → Prop} {x : D} {v : V} {n : String}
theorem TN.cons {q : Addr × O} (t : TN M x n) : TN (q :: M) x n := by
  cases t with
  | non => exact .non
  | bl b => exact .bl b
  | int b => exact .int b
  | str b => exact .str b
  | lst b => exact .lst b
  | rol b => exact .rol b
  | tup b => exact .tup b
  | dK b => exact .dK b
  | oL h => exact .oL (List.mem_cons_of_mem _ h)
  | oK h => exact .oK (List.mem_cons_of_mem _ h)
  | oT h => exact .oT (List.mem_cons_of_mem _ h)
theorem TN.ty (t : TN M x n) (r : Rep K F H M) (i : Is K F v x) : TyX K H v (.type n) := by
  cases t with
  | non => cases i; exact .base .non
  | bl b => cases i; exact .base (.bl b)
  | int b => cases i; exact .base (.int b)
  | str b => cases i; exact .base (.str b)
  | lst ds =>
    cases i with
    | lst h1 _ => exact .base (.lst (r.le _ _ h1))
  | rol ds =>
    cases i with
    | rol h1 _ =>
      rcases h1 with (h1 | ⟨o, h1⟩) | ⟨o, its, n, h1, h2, _⟩
      · exact .base (.lst (r.le _ _ h1))
      · exact .base (.frz (r.le _ _ h1))
      · exact .kList h1 h2
  | tup ds =>
    cases i with
    | tup h1 _ =>
      rcases h1 with (h1 | ⟨o, h1⟩) | ⟨o, its, n, h1, h2, _⟩
      · exact .base (.tup (r.le _ _ h1))
      · exact .fTuple (r.le _ _ h1)
      · exact .kTuple h1 h2
  | dK ds =>
    cases i with
    | dK h1 _ =>
      rcases h1 with h1 | ⟨o, h1⟩
      · exact .base (.dK (r.le _ _ h1))
      · exact .fDict (r.le _ _ h1)
  | oL h =>
    cases i
    obtain ⟨_, ho, h1, h2⟩ := r.own _ h
    cases h2
    exact .base (.lst h1)
  | oK h =>
    cases i
    obtain ⟨_, ho, h1, h2⟩ := r.own _ h
    cases h2
    exact .base (.dK h1)
  | oT h =>
    cases i
    obtain ⟨_, ho, h1, h2⟩ := r.own _ h
    cases h2
    exact .base (.dT h1)
theorem rc_isi (x : D) (n m : String) (b : Bool) {xs : List D} (e : xs = [x, .ty m]) (t : TN M x n) (hb : kitB n m = some b) (h : Φ (.bl b) M) : RC' K (rIsi K) xs M Φ := fun F H R us i1 Q q => by
  subst e
  cases i1 with
  | @cons v _ _ _ i1 i2 =>
    cases i2 with
    | @cons w _ _ _ i2 i3 =>
      cases i3
      cases i2
      exact ⟨v, .ty m, .type n, .type m, b, rfl, .ty m, t.ty R i1, kit_ty hb, q.here R (.bl b) h⟩
/-- one of several built-in types -/
def kitBs (n : String) : List String → Option Bool
  | [] => some false
  | m :: ms => match kitB n m with
    | some true => some true
    | some false => kitBs n ms
    | none => none
theorem kitBs_any {n : String} : ∀ {ms : List String} {b : Bool}, kitBs n ms = some b → PySem.W.kitAny K (.type n) (ms.map Value.type) = some b
  | [], b, h => by
    have : false = b := Option.some.inj h
    subst this
    rfl
  | m :: ms, b, h => by
    unfold kitBs at h
    cases k : kitB n m with
    | none => rw [k] at h; cases h
    | some c =>
      rw [k] at h
      cases c with
      | true =>
        have : true = b := Option.some.inj h
        exact kitAny_cons (kit_ty k) (fun z => nomatch z) fun _ => this.symm
      | false => exact kitAny_cons (kit_ty k) (fun _ => kitBs_any h) fun z => nomatch z
theorem isl_tys : ∀ (ns : List String) (vs : List V), IsL K F vs (ns.map D.ty) → Paired ClsV vs (ns.map Value.type)
  | [], _, h => by cases h; exact .nil
  | n :: ns, _, h => by
    cases h with
    | cons h1 h2 =>
      cases h1
      exact .cons (.ty n) (isl_tys ns _ h2)
theorem rc_isiT {p : Addr} (x : D) (n : String) (ms : List String) (b : Bool) (M0 : Ms) {xs : List D} (e : xs = [x, .ptr p]) (hM : M = (p, .tup (ms.map .ty)) :: M0) (t : TN M x n) (hb : kitBs n ms = some b) (h : Φ (.bl b) M0) : RC' K (rIsiT K) xs M Φ := fun F H R us i1 Q q => by
  subst e hM
  cases i1 with
  | @cons v _ _ _ i1 i2 =>
    cases i2 with
    | @cons w _ _ _ i2 i3 =>
      cases i3
      cases i2
      obtain ⟨_, ho, h1, h2⟩ := R.own (p, O.tup (ms.map .ty)) List.mem_cons_self
      cases h2 with
      | @tup vs _ h2 =>
        obtain ⟨F3, r3, x3, i3⟩ := R.letgo (j := 0) rfl
        exact ⟨v, p, vs, .type n, ms.map Value.type, b, rfl, h1, isl_tys ms vs h2, t.ty R i1, kitBs_any hb, q _ F3 H _ M0 x3 r3 (.bl b) h⟩
end
/-- isinstance of either form -/
def rIsiA (K : PySem.W.Frag) : List V → Hp → VK → Prop := fun xs H Q => rIsi K xs H Q ∨ rIsiT K xs H Q
theorem call_isiA {X : Cx} : CallR X (.builtin "isinstance") (rIsiA X.K) := by
  intro pins s σ H xs us Q I r h
  rcases h with h | h
  · exact call_isi pins s σ H xs us Q I r h
  · exact call_isiT pins s σ H xs us Q I r h
theorem rc_inl {K : PySem.W.Frag} {M : Ms} {Φ : D → Ms → Prop} {r r' : List V → Hp → VK → Prop} {xs : List D} (h : RC' K r xs M Φ) : RC' K (fun xs H Q => r xs H Q ∨ r' xs H Q) xs M Φ := fun F H R u i1 Q q => .inl (h F H R u i1 Q q)
theorem rc_inr {K : PySem.W.Frag} {M : Ms} {Φ : D → Ms → Prop} {r r' : List V → Hp → VK → Prop} {xs : List D} (h : RC' K r' xs M Φ) : RC' K (fun xs H Q => r xs H Q ∨ r' xs H Q) xs M Φ := fun F H R u i1 Q q => .inr (h F H R u i1 Q q)
end DL


set_option Elab.async false
set_option linter.all false
set_option maxRecDepth 100000
set_option maxHeartbeats 2000000
namespace DL
open PySem PySem.Spec PyProof.Rows L2 StX

def startG (N : List Str) (ds : List D) : Gm := ds.map some ++ List.replicate (N.length - ds.length) none
theorem repS_start {K : PySem.W.Frag} {F : Hp} {N : List Str} {vs : List V} {ds : List D} (h : IsL K F vs ds) : RepS K F (L2.start N vs) (startG N ds) := by
  have hl := h.length
  refine ⟨?_, fun i d e => ?_⟩
  · unfold L2.start startG
    simp only [List.length_append, List.length_map, List.length_replicate, hl]
  · unfold startG at e
    by_cases hi : i < ds.length
    · rw [List.getElem?_append_left (by simpa using hi), List.getElem?_map] at e
      cases k : ds[i]? with
      | none => rw [k] at e; cases e
      | some d' =>
        rw [k] at e
        have e' : d' = d := Option.some.inj (Option.some.inj e)
        subst e'
        obtain ⟨v, h1, h2⟩ := h.get k
        refine ⟨v, ?_, h2⟩
        unfold L2.start
        rw [List.getElem?_append_left (by rw [List.length_map, hl]; exact hi), List.getElem?_map, h1]
        rfl
    · rw [List.getElem?_append_right (by simpa using hi)] at e
      have := List.mem_of_getElem? e
      rw [List.mem_replicate] at this
      cases this.2
section
variable {P : Program} {w : World} {K : PySem.W.Frag} {mg : Str → Option Value} {base : Heap}
theorem def_ok {x qual : Str} {st : Stmt} {f : Addr} {fd : FuncData} {N ps : List Str} {k : Nat} {S : SpD} (F : Fun K x qual st f fd) (Sc : FnScope N ps (defScope st)) (len : ∀ ds M Φ, S ds M Φ → ds.length = ps.length)
    (hbody : ∀ (cdv : Value) (A : Around) (outer : List Env) (s : Shared) (H : Hp) (E : XK), Room k (A.deeper (envOfC qual (defScope st) s.heap.objs.size f cdv)) →
      ∃ t, PSs (cxOf CX0 P w K mg base N qual (defScope st) f cdv A outer s H E).nox (defBody st) t ∧ ∀ ds M Φ, S ds M Φ → ES K t (startG N ds) M ⟨fun _ M' => Φ .non M', Φ, fun _ _ => False, fun _ _ => False⟩) : FnOk P w K mg base CX0 (k + 1) f fd ps (spOf K S) := by
  refine F.ok Sc (fun vs H Q E h => ?_) (fun cdv A outer s H vs Q E hr h => ?_)
  · obtain ⟨F0, M, ds, Φ, _, i, hS, _⟩ := h
    rw [i.length]
    exact len ds M Φ hS
  · obtain ⟨F0, M, ds, Φ, r, i, hS, q⟩ := h
    obtain ⟨t, ht, hE⟩ := hbody cdv A outer s H E hr
    exact ⟨t, ht, hE ds M Φ hS _ F0 H (repS_start i) r _ (fun σ' F' H' Γ' M' x s r n => q _ F' H' _ M' x r .non n) q (fun _ _ _ _ _ _ _ _ z => z.elim) fun _ _ _ _ _ _ _ _ z => z.elim⟩
end
/-- a list of ints -/
abbrev LI (ns : List Int) : D := .lst (ns.map .int)
theorem dite_bl {p : Prop} [Decidable p] {A B : Prop} (h1 : p → A) (h2 : ¬ p → B) : if decide p = true then A else B := by
  by_cases h : p
  · rw [if_pos (decide_eq_true h)]
    exact h1 h
  · rw [if_neg (by rw [decide_eq_false h]; exact Bool.false_ne_true)]
    exact h2 h
theorem ndite_bl {p : Prop} [Decidable p] {A B : Prop} (h1 : ¬ p → A) (h2 : p → B) : if (!decide p) = true then A else B := by
  by_cases h : p
  · rw [if_neg (by rw [decide_eq_true h]; exact Bool.false_ne_true)]
    exact h2 h
  · rw [if_pos (by rw [decide_eq_false h]; rfl)]
    exact h1 h
end DL


set_option Elab.async false
set_option linter.all false
set_option maxRecDepth 100000
set_option maxHeartbeats 2000000
namespace DL
open PySem PySem.Spec PyProof.Rows L2 StX

theorem iteNT {A B : Prop} (h : B) : if (!true) = true then A else B := iteF h
theorem iteNF {A B : Prop} (h : A) : if (!false) = true then A else B := iteT h
/-- less is known -/
inductive GLe : Gm → Gm → Prop
  | nil : GLe [] []
  | n {x : Option D} {a b : Gm} : GLe a b → GLe (none :: a) (x :: b)
  | s {d : D} {a b : Gm} : GLe a b → GLe (some d :: a) (some d :: b)
theorem GLe.refl : ∀ Γ : Gm, GLe Γ Γ
  | [] => .nil
  | none :: r => .n (GLe.refl r)
  | some _ :: r => .s (GLe.refl r)
theorem GLe.at : ∀ {a b : Gm} {i : Nat} {d : D}, GLe a b → a[i]? = some (some d) → b[i]? = some (some d)
  | _, _, _, _, .nil, h => by simp at h
  | _, _, 0, _, .n _, h => by simp at h
  | _, _, i + 1, d, .n r, h => by
    have := GLe.at (i := i) (d := d) r (by simpa using h)
    simpa using this
  | _, _, 0, _, .s _, h => h
  | _, _, i + 1, d, .s r, h => by
    have := GLe.at (i := i) (d := d) r (by simpa using h)
    simpa using this
theorem GLe.length : ∀ {a b : Gm}, GLe a b → a.length = b.length
  | _, _, .nil => rfl
  | _, _, .n r => by rw [List.length_cons, List.length_cons, GLe.length r]
  | _, _, .s r => by rw [List.length_cons, List.length_cons, GLe.length r]
section
variable {K : PySem.W.Frag} {F H F1 H1 F2 H2 F' H' : Hp} {M M1 M2 M' A B : Ms} {σ : L2.St} {Γ Γ' : Gm} {Φ Ψ : D → Ms → Prop} {Q : VK} {ta tb tc te : TE} {t u : TT} {ts tu tz : TS} {r r' : R2} {d x y : D} {v : V} {E E' : DE}
theorem RepS.less (s : RepS K F σ Γ) (g : GLe Γ' Γ) : RepS K F σ Γ' := ⟨s.len.trans g.length.symm, fun i d h => s.at' i d (g.at h)⟩
theorem es_forget (Γ' : Gm) (g : GLe Γ' Γ) (h : ES K ts Γ' M E) : ES K ts Γ M E := fun σ F H S R De n rt b c => h σ F H (S.less g) R De n rt b c
theorem es_mono (h : ES K ts Γ M E) (n : ∀ Γ' M', E.nx Γ' M' → ∃ Γ0, GLe Γ0 Γ' ∧ E'.nx Γ0 M') (rt : ∀ d M', E.rt d M' → E'.rt d M') (bk : ∀ Γ' M', E.bk Γ' M' → ∃ Γ0, GLe Γ0 Γ' ∧ E'.bk Γ0 M') (ct : ∀ Γ' M', E.ct Γ' M' → ∃ Γ0, GLe Γ0 Γ' ∧ E'.ct Γ0 M') : ES K ts Γ M E' := fun σ F H S R De n' rt' b' c' =>
  h σ F H S R De (fun σ1 F1 H1 Γ1 M1 x s r q => let ⟨Γ0, g, w⟩ := n Γ1 M1 q; n' σ1 F1 H1 Γ0 M1 x (s.less g) r w) (fun v F1 H1 d M1 x r i q => rt' v F1 H1 d M1 x r i (rt d M1 q))
    (fun σ1 F1 H1 Γ1 M1 x s r q => let ⟨Γ0, g, w⟩ := bk Γ1 M1 q; b' σ1 F1 H1 Γ0 M1 x (s.less g) r w) fun σ1 F1 H1 Γ1 M1 x s r q => let ⟨Γ0, g, w⟩ := ct Γ1 M1 q; c' σ1 F1 H1 Γ0 M1 x (s.less g) r w
/-- a for, by what is known at each turn -/
theorem es_forG {wi : TI} {g : TG} {own : List Nat} (h : EI K wi Γ M fun xs M1 => ∃ C : Nat → Gm → Ms → Prop, (∃ Γ0, GLe Γ0 Γ ∧ C 0 Γ0 M1) ∧
      (∀ (i : Nat) (d : D) (Γ' : Gm) (M' : Ms), xs[i]? = some d → C i Γ' M' → EG K g own d Γ' M' fun Γ2 M2 => ES K ts Γ2 M2 { nx := fun Γ3 M3 => ∃ Γ0, GLe Γ0 Γ3 ∧ C (i + 1) Γ0 M3, ct := fun Γ3 M3 => ∃ Γ0, GLe Γ0 Γ3 ∧ C (i + 1) Γ0 M3, bk := E.nx, rt := E.rt }) ∧ ∀ Γ' M', C xs.length Γ' M' → E.nx Γ' M') : ES K (tFor wi g ts) Γ M E := fun σ F H S R De n rt b c => by
  refine es_for (own := own) (E := { E with nx := fun Γ' M' => ∃ Γ0, GLe Γ0 Γ' ∧ E.nx Γ0 M' }) ?_ σ F H S R De (fun σ1 F1 H1 Γ1 M1 x s r ⟨Γ0, g, w⟩ => n σ1 F1 H1 Γ0 M1 x (s.less g) r w) rt b c
  intro σ F H S R Rw q
  refine h σ F H S R Rw fun J F' H' xs M' x r j ⟨C, h0, hs, hd⟩ => q J F' H' xs M' x r j ⟨fun i Γ' M' => ∃ Γ0, GLe Γ0 Γ' ∧ C i Γ0 M', h0, ?_, fun Γ' M' ⟨Γ0, g, w⟩ => ⟨Γ0, g, hd Γ0 M' w⟩⟩
  intro i d Γ' M' hx ⟨Γ0, gl, w⟩ σ F H v S R i' Q q
  refine hs i d Γ0 M' hx w σ F H v (S.less gl) R i' Q fun σ2 F2 H2 Γ2 M2 x2 s2 r2 e2 w2 => q σ2 F2 H2 Γ2 M2 x2 s2 r2 e2 ?_
  exact es_mono w2 (fun Γ3 M3 q => ⟨Γ3, GLe.refl _, q⟩) (fun _ _ q => q) (fun Γ3 M3 q => ⟨Γ3, GLe.refl _, Γ3, GLe.refl _, q⟩) fun Γ3 M3 q => ⟨Γ3, GLe.refl _, q⟩
theorem es_whileG (C : Nat → Gm → Ms → Prop) (m0 : Nat) (Γ0 : Gm) (g0 : GLe Γ0 Γ) (h0 : C m0 Γ0 M)
    (hs : ∀ m Γ' M', C m Γ' M' → ET K t Γ' M' fun b M2 => if b = true then ES K ts Γ' M2 { nx := fun Γ3 M3 => ∃ m' Γ0, m' < m ∧ GLe Γ0 Γ3 ∧ C m' Γ0 M3, ct := fun Γ3 M3 => ∃ m' Γ0, m' < m ∧ GLe Γ0 Γ3 ∧ C m' Γ0 M3, bk := E.nx, rt := E.rt } else E.nx Γ' M2) : ES K (tWhile t ts) Γ M E := fun σ F H S R De n rt b c => by
  refine es_while (E := { E with nx := fun Γ' M' => ∃ Γ0, GLe Γ0 Γ' ∧ E.nx Γ0 M' }) (fun m Γ' M' => ∃ Γ0, GLe Γ0 Γ' ∧ C m Γ0 M') m0 ⟨Γ0, g0, h0⟩ ?_ σ F H S R De (fun σ1 F1 H1 Γ1 M1 x s r ⟨Γ0, g, w⟩ => n σ1 F1 H1 Γ0 M1 x (s.less g) r w) rt b c
  intro m Γ' M' ⟨Γ1, gl, w⟩ σ F H S R Q q
  refine hs m Γ1 M' w σ F H (S.less gl) R Q fun b F2 H2 M2 x2 r2 w2 => q b F2 H2 M2 x2 r2 ?_
  cases b with
  | false => exact ⟨Γ1, gl, w2⟩
  | true => exact es_forget Γ1 gl (es_mono w2 (fun Γ3 M3 ⟨m', Γ2, h1, h2, h3⟩ => ⟨Γ3, GLe.refl _, m', h1, Γ2, h2, h3⟩) (fun _ _ q => q) (fun Γ3 M3 q => ⟨Γ3, GLe.refl _, Γ3, GLe.refl _, q⟩) fun Γ3 M3 ⟨m', Γ2, h1, h2, h3⟩ => ⟨Γ3, GLe.refl _, m', h1, Γ2, h2, h3⟩)
/-- a comprehension without tests whose element changes nothing -/
theorem en_map {wi : TI} {g : TG} {vs : List Nat} {Φ : O → Ms → Prop} (h : EI K wi Γ M fun xs M1 => xs.length ≤ 100000 ∧ ∃ ys : List D, ys.length = xs.length ∧
      (∀ (i : Nat) (d : D), xs[i]? = some d → EG K g vs d (wipeG Γ vs) M1 fun Γ2 M2 => EV K te Γ2 M2 fun y M3 => ys[i]? = some y ∧ M3 = M1) ∧ Φ (.lst ys) M1) : EN K (tLc wi g tYes te vs) Γ M Φ := by
  refine en_lc ?_
  intro σ F H S R Rw q
  refine h σ F H S R Rw fun J F' H' xs M' x r j ⟨hz, ys, hl, hs, hd⟩ => q J F' H' xs M' x r j ⟨hz, fun i acc M2 => acc = ys.take i ∧ M2 = M', ⟨by simp, rfl⟩, ?_, ?_⟩
  · rintro i d acc M2 hx ⟨rfl, rfl⟩ σ F H v S R i' Q q
    refine hs i d hx σ F H v S R i' Q fun σ2 F2 H2 Γ2 M2' x2 s2 r2 e2 w2 => q σ2 F2 H2 Γ2 M2' x2 s2 r2 e2 (et_yes (iteT ?_))
    refine w2.mono fun y M3 ⟨hy, hM⟩ => ⟨?_, hM⟩
    rw [List.take_add_one, hy]
    rfl
  · rintro acc M2 ⟨rfl, rfl⟩
    rw [List.take_of_length_le (by omega)]
    exact hd
end
end DL


set_option Elab.async false
set_option linter.all false
set_option maxRecDepth 100000
set_option maxHeartbeats 2000000
/-! the rules once more, the written part by its name (so that a comprehension's block has them too) -/
namespace DL
open PySem PySem.Spec PyProof.Rows L2 StX
section
variable {X : Cx} {K : PySem.W.Frag}
theorem op_addK (hK : X.K = K) : OpR X (binaryOp .Add) (rAdd K) := by subst hK; exact op_addA
theorem op_eqK (hK : X.K = K) (hu : X.A.units + 64 < cLine) : OpR X (compareOp .Eq) (rEqA K) := by subst hK; exact op_eqA hu
theorem op_neK (hK : X.K = K) (hu : X.A.units + 64 < cLine) : OpR X (compareOp .NotEq) (rNeA K) := by subst hK; exact op_neA hu
theorem ix_seqK (hK : X.K = K) : IxR X (rIx K) := by subst hK; exact ix_seq
theorem sl_anyK (hK : X.K = K) : SlR X (rSlA K) := by subst hK; exact sl_any
theorem pget_listK (hK : X.K = K) : PGet X (rGetL K) := by subst hK; exact pget_list
theorem call_lenK (hK : X.K = K) : CallR X (.builtin "len") (fun xs H Q => ∃ x n, xs = [x] ∧ LenV K x H n ∧ Q (.int n) H) := by subst hK; exact call_len
theorem call_listK (hK : X.K = K) : CallR X (.type "list") (fun xs H Q => ∃ p ys, xs = [.ref p] ∧ (SqL K H p ys ∨ SqT K H p ys) ∧ ∀ l, H l = none → Q (.ref l) (upd H l (.lst ys))) := by subst hK; exact call_list_of
theorem call_isiK (hK : X.K = K) : CallR X (.builtin "isinstance") (rIsiA K) := by subst hK; exact call_isiA
theorem cr_sumK (hK : X.K = K) (hc : X.calm = true) : CallR X (.builtin "sum") (rSum K) := by subst hK; exact cr_sum hc
theorem cr_maxK (hK : X.K = K) (hc : X.calm = true) : CallR X (.builtin "max") (rMax K) := by subst hK; exact cr_max hc
theorem cr_minK (hK : X.K = K) (hc : X.calm = true) : CallR X (.builtin "min") (rMin K) := by subst hK; exact cr_min hc
theorem cr_allK (hK : X.K = K) (hc : X.calm = true) : CallR X (.builtin "all") (rAll K) := by subst hK; exact cr_all hc
theorem cr_anyK (hK : X.K = K) (hc : X.calm = true) : CallR X (.builtin "any") (rAny K) := by subst hK; exact cr_any hc
variable {e : Expr} {es : List Expr} {te to ta tl : TE} {t : TA} {p pos p1 p2 p3 apos cpos tpos : Pos} {name : Str} {T id : String} {r : V → List V → Hp → VK → Prop} {o tg : Expr} {elts : List Expr} {kk : Nat}
theorem pa_starK (hK : X.K = K) (he : PE X e te) (hr : PA X es t) (hs : starEach (.Starred e p :: es) X.env = (true, eval e X.env) :: starEach es X.env := by rfl) : PA X (.Starred e p :: es) (tStar K te t) := by subst hK; exact pa_star he hr hs
theorem pe_bm0K (hK : X.K = K) (pa : PlainAttrs T) (slot : Slot T name id) (hty : typeOf (.builtin id) = pure (.type "method_descriptor")) (hm : MtR X id r) (ho : PE X o to)
    (hbase : attributeBase o name X.env (eval o X.env) = eval o X.env := by rfl) (hline : (apos.endLine == cpos.line) = true := by rfl) : PE X (.Call (.Attribute o name apos) [] [] cpos) (tBM0 K T r to) := by
  subst hK; exact pe_bm0 pa slot hty hm ho hbase hline
theorem pe_bmK (hK : X.K = K) (pa : PlainAttrs T) (slot : Slot T name id) (hty : typeOf (.builtin id) = pure (.type "method_descriptor")) (hm : MtR X id r) (ho : PE X o to) (ha : PA X (e :: es) t)
    (hbase : attributeBase o name X.env (eval o X.env) = eval o X.env := by rfl)
    (hfew : ((backTo cpos (starEach (e :: es) X.env)).all (fun x => !x.1) && (backToKw cpos (keywordEach [] X.env)).all (fun x => x.1.isSome)
      && decide ((e :: es).length + ([] : List Keyword).length + (if ([] : List Keyword).isEmpty then 0 else 1) < 30)) = true := by rfl)
    (hline : (apos.endLine == cpos.line) = true := by rfl) (hs : starEach (e :: es) X.env = (false, eval e X.env) :: starEach es X.env := by rfl) (hplain : (backTo cpos (starEach es X.env)).any (·.1) = false := by rfl) :
    PE X (.Call (.Attribute o name apos) (e :: es) [] cpos) (tBM K T r to t) := by
  subst hK; exact pe_bm pa slot hty hm ho ha hbase hfew hline hs hplain
theorem pi_listK (hK : X.K = K) (hl : PE X e tl) : PI X tg e (iList K tl) := by subst hK; exact pi_list hl
theorem pi_tupK (hK : X.K = K) (hl : PE X e tl) : PI X tg e (iTup K tl) := by subst hK; exact pi_tup hl
theorem pi_reversedK (hK : X.K = K) (hg : Gl X "reversed") (hm : X.mg "reversed" = none) (ha : PA X [e] t) (hs : starEach [e] X.env = [(false, eval e X.env)] := by rfl) : PI X tg (.Call (.Name "reversed" p) [e] [] pos) (iRev K t) := by subst hK; exact pi_reversed hg hm ha hs
theorem pi_enumK (hK : X.K = K) (hg : Gl X "enumerate") (hm : X.mg "enumerate" = none) (ha : PA X [e] t) (hs : starEach [e] X.env = [(false, eval e X.env)] := by rfl) :
    PI X (.Tuple elts kk tpos) (.Call (.Name "enumerate" p) [e] [] pos) (iEnum K t) := by subst hK; exact pi_enum hg hm ha hs
theorem pi_zipK {e2 : Expr} (hK : X.K = K) (hg : Gl X "zip") (hm : X.mg "zip" = none) (ha : PA X [e, e2] t)
    (hs : starEach [e, e2] X.env = (false, eval e X.env) :: starEach [e2] X.env := by rfl) (hpl : (backTo pos (starEach [e2] X.env)).any (·.1) = false := by rfl) :
    PI X (.Tuple elts kk tpos) (.Call (.Name "zip" p) [e, e2] [] pos) (iZip K t) := by subst hK; exact pi_zip hg hm ha hs hpl
theorem pg_tupK {k : Nat} {t : TGs} {n : Nat} (hK : X.K = K) (hc : X.calm = true) (h : PGs X es t)
    (hn : (assignEach es X.env).length = n := by rfl) (hst : (assignEach es X.env).findIdx? (·.1) = none := by rfl) : PG X (.Tuple es k pos) (gTup K n t) := by subst hK; exact pg_tup hc h hn hst
theorem pe_revLK {k : Nat} (hK : X.K = K) (he : PE X e te) : PE X (.Subscript e (.Slice none none (some (.UnaryOp .USub (.Constant (.int 1) k p1) p2)) p3) pos) (tRevL K te) := by subst hK; exact pe_revL he
theorem pt_truthK (hK : X.K = K) (ha : PE X e ta) (he : ∀ whole, isTrue e X.env whole = (do let v ← whole; standAt e.pos; holding [v] (truthy v))) :
    PT X e (fun σ H Q => ta σ H fun x H' => ∃ k, TruV K x H' k ∧ Q k H') := by subst hK; exact pt_truth ha he
end

section
variable {K : PySem.W.Frag} {M : Ms} {p : Addr} {ds : List D} {q q2 : Addr × O}
theorem dty0 : DTy K "list" (.ptr p) ((p, .lst ds) :: M) := dty_own (.head _)
theorem dty1 : DTy K "list" (.ptr p) (q :: (p, .lst ds) :: M) := dty_own (.tail _ (.head _))
theorem dty2 : DTy K "list" (.ptr p) (q :: q2 :: (p, .lst ds) :: M) := dty_own (.tail _ (.tail _ (.head _)))
theorem lr0 : LR ((p, .lst ds) :: M) (.ptr p) ds := .own (.head _)
theorem lr1 : LR (q :: (p, .lst ds) :: M) (.ptr p) ds := .own (.tail _ (.head _))
theorem lr2 : LR (q :: q2 :: (p, .lst ds) :: M) (.ptr p) ds := .own (.tail _ (.tail _ (.head _)))
theorem lq0 : LQ ((p, .lst ds) :: M) (.ptr p) ds := .of lr0
theorem lq1 : LQ (q :: (p, .lst ds) :: M) (.ptr p) ds := .of lr1
theorem lq2 : LQ (q :: q2 :: (p, .lst ds) :: M) (.ptr p) ds := .of lr2
theorem sq0 : SQ ((p, .lst ds) :: M) (.ptr p) ds := .l lq0
theorem sq1 : SQ (q :: (p, .lst ds) :: M) (.ptr p) ds := .l lq1
theorem sq2 : SQ (q :: q2 :: (p, .lst ds) :: M) (.ptr p) ds := .l lq2
theorem ln_of {x : D} {n : Nat} (h : SQ M x ds) (e : ds.length = n) : LN M x n := e ▸ .sq h
theorem ln_LI {ns : List Int} : LN M (LI ns) ns.length := ln_of (SQ.lst _) (by rw [List.length_map])
end
section
variable {K : PySem.W.Frag} {M : Ms} {Γ : Gm} {ta tb te : TE} {t : TT} {ts tu : TS} {nx bk ct : Gm → Ms → Prop} {rt : D → Ms → Prop} {g : TG} {wi : TI}
/-! ends by their parts -/
theorem zs_next (h : nx Γ M) : ES K tNext Γ M ⟨nx, rt, bk, ct⟩ := es_next h
theorem zs_break (h : bk Γ M) : ES K tBreak Γ M ⟨nx, rt, bk, ct⟩ := es_break h
theorem zs_cont (h : ct Γ M) : ES K tCont Γ M ⟨nx, rt, bk, ct⟩ := es_cont h
theorem zs_seq (h : ES K ts Γ M ⟨fun Γ1 M1 => ES K tu Γ1 M1 ⟨nx, rt, bk, ct⟩, rt, bk, ct⟩) : ES K (tSeq ts tu) Γ M ⟨nx, rt, bk, ct⟩ := es_seq h
/-- what stands between two statements, said once -/
theorem zs_cut (Mid : Gm → Ms → Prop) (h : ES K ts Γ M ⟨Mid, rt, bk, ct⟩) (k : ∀ Γ' M', Mid Γ' M' → ES K tu Γ' M' ⟨nx, rt, bk, ct⟩) : ES K (tSeq ts tu) Γ M ⟨nx, rt, bk, ct⟩ :=
  zs_seq (es_mono h (fun Γ' M' q => ⟨Γ', GLe.refl _, k Γ' M' q⟩) (fun _ _ q => q) (fun Γ' _ q => ⟨Γ', GLe.refl _, q⟩) fun Γ' _ q => ⟨Γ', GLe.refl _, q⟩)
theorem zs_drop (h : EV K te Γ M fun _ M1 => nx Γ M1) : ES K (tDrop te) Γ M ⟨nx, rt, bk, ct⟩ := es_drop h
theorem zs_ret (h : EV K te Γ M rt) : ES K (tRet te) Γ M ⟨nx, rt, bk, ct⟩ := es_ret h
theorem zs_retN (h : rt .non M) : ES K tRetN Γ M ⟨nx, rt, bk, ct⟩ := es_retN h
theorem zs_if (h : ET K t Γ M fun b M1 => if b = true then ES K ts Γ M1 ⟨nx, rt, bk, ct⟩ else ES K tu Γ M1 ⟨nx, rt, bk, ct⟩) : ES K (tIfS t ts tu) Γ M ⟨nx, rt, bk, ct⟩ := es_if h
theorem zs_asg {own : List Nat} (h : EV K te Γ M fun d M1 => EG K g own d Γ M1 nx) : ES K (tAsg te g) Γ M ⟨nx, rt, bk, ct⟩ := es_asg h
theorem zs_set {i : Nat} (h : EV K te Γ M fun d M1 => nx (Γ.set i (some d)) M1) : ES K (tAsg te (gName i)) Γ M ⟨nx, rt, bk, ct⟩ := es_set h
theorem zs_par {i j : Nat} {tl : TA} (h : EA K tl Γ M fun ds M1 => ∃ a b, ds = [a, b] ∧ nx ((Γ.set i (some a)).set j (some b)) M1) : ES K (tPar i j tl) Γ M ⟨nx, rt, bk, ct⟩ := es_par h
theorem zs_augI {i : Nat} {f : Int → Int → Int} {a : Int} (h0 : Γ[i]? = some (some (.int a))) (h : EV K te Γ M fun d M1 => ∃ b, d = .int b ∧ nx (Γ.set i (some (.int (f a b)))) M1) : ES K (tAug i te (ipI f)) Γ M ⟨nx, rt, bk, ct⟩ := es_augI h0 h
theorem zs_augL {f : Int → Int → Int} (h : EV K ta Γ M fun o M1 => EV K tb Γ M1 fun i M2 => ∃ (j k : Nat) (p : Addr) (ds : List D) (a : Int), o = .ptr p ∧ i = .int (k : Int) ∧ M2[j]? = some (p, .lst ds) ∧ k < 1000000000 ∧ ds[k]? = some (.int a) ∧
      EV K te Γ M2 fun e M3 => ∃ b ds', e = .int b ∧ M3[j]? = some (p, .lst ds') ∧ k < ds'.length ∧ nx Γ (M3.set j (p, .lst (ds'.set k (.int (f a b)))))) : ES K (tAugS ta tb te (rGetL K) (ipI f) rSetL) Γ M ⟨nx, rt, bk, ct⟩ := es_augL h
theorem zs_for (own : List Nat) (h : EI K wi Γ M fun xs M1 => ∃ C : Nat → Gm → Ms → Prop, (∃ Γ0, GLe Γ0 Γ ∧ C 0 Γ0 M1) ∧
      (∀ (i : Nat) (d : D) (Γ' : Gm) (M' : Ms), xs[i]? = some d → C i Γ' M' → EG K g own d Γ' M' fun Γ2 M2 => ES K ts Γ2 M2 ⟨fun Γ3 M3 => ∃ Γ0, GLe Γ0 Γ3 ∧ C (i + 1) Γ0 M3, rt, nx, fun Γ3 M3 => ∃ Γ0, GLe Γ0 Γ3 ∧ C (i + 1) Γ0 M3⟩) ∧
      ∀ (Γ' : Gm) (M' : Ms), C xs.length Γ' M' → nx Γ' M') : ES K (tFor wi g ts) Γ M ⟨nx, rt, bk, ct⟩ := es_forG (own := own) h
theorem zs_while (C : Nat → Gm → Ms → Prop) (m0 : Nat) (Γ0 : Gm) (g0 : GLe Γ0 Γ) (h0 : C m0 Γ0 M)
    (hs : ∀ m Γ' M', C m Γ' M' → ET K t Γ' M' fun b M2 => if b = true then ES K ts Γ' M2 ⟨fun Γ3 M3 => ∃ m' Γ0, m' < m ∧ GLe Γ0 Γ3 ∧ C m' Γ0 M3, rt, nx, fun Γ3 M3 => ∃ m' Γ0, m' < m ∧ GLe Γ0 Γ3 ∧ C m' Γ0 M3⟩ else nx Γ' M2) : ES K (tWhile t ts) Γ M ⟨nx, rt, bk, ct⟩ := es_whileG C m0 Γ0 g0 h0 hs
end
section
variable {K : PySem.W.Frag} {M : Ms} {x y : D} {Φ : D → Ms → Prop}
theorem r2_eqB1 (b : Bool) (hx : x = .bl b) (hy : y = .bl b) (h : Φ (.bl true) M) : R2' K (rEqA K) x y M Φ := r2_eqB b b hx hy (by rw [decide_eq_true rfl]; exact h)
theorem r2_neB1 (b : Bool) (hx : x = .bl b) (hy : y = .bl b) (h : Φ (.bl false) M) : R2' K (rNeA K) x y M Φ := r2_neB b b hx hy (by rw [decide_eq_true rfl]; exact h)
theorem r2_eqI1 (b : Int) (hx : x = .int b) (hy : y = .int b) (h : Φ (.bl true) M) : R2' K (rEqA K) x y M Φ := r2_eqI b b hx hy (by rw [decide_eq_true rfl]; exact h)
end
end DL


set_option Elab.async false
set_option linter.all false
set_option maxRecDepth 100000
set_option maxHeartbeats 4000000
namespace K30
/-! ### the mathematics: rows of ways to choose, sums over partings -/
def ch : Nat → Nat → Int
  | _, 0 => 1
  | 0, _ + 1 => 0
  | n + 1, k + 1 => ch n k + ch n (k + 1)
def rowOf (n : Nat) : List Int := (List.range (n + 1)).map (ch n)
theorem rowOf_length (n : Nat) : (rowOf n).length = n + 1 := by
  unfold rowOf
  rw [List.length_map, List.length_range]
theorem rowOf_get {n k : Nat} (h : k ≤ n) : (rowOf n)[k]? = some (ch n k) := by
  unfold rowOf
  rw [List.getElem?_map, List.getElem?_range (by omega)]
  rfl
theorem ch_zero (n : Nat) : ch n 0 = 1 := by cases n <;> rfl
theorem ch_over : ∀ n k : Nat, n < k → ch n k = 0
  | 0, k + 1, _ => rfl
  | n + 1, k + 1, h => by
    rw [ch, ch_over n k (by omega), ch_over n (k + 1) (by omega)]
    rfl
theorem ch_self : ∀ n : Nat, ch n n = 1
  | 0 => rfl
  | n + 1 => by
    rw [ch, ch_self n, ch_over n (n + 1) (by omega)]
    rfl
theorem ch_nn : ∀ n k : Nat, 0 ≤ ch n k
  | _, 0 => by rw [ch_zero]; decide
  | 0, _ + 1 => by rw [ch]; decide
  | n + 1, k + 1 => by
    rw [ch]
    have h1 := ch_nn n k
    have h2 := ch_nn n (k + 1)
    omega
theorem ch_le : ∀ n k : Nat, ch n k ≤ 2 ^ n
  | n, 0 => by
    rw [ch_zero]
    have : (0 : Int) < 2 ^ n := Int.pow_pos (by decide)
    omega
  | 0, _ + 1 => by rw [ch]; decide
  | n + 1, k + 1 => by
    rw [ch, Int.pow_succ]
    have h1 := ch_le n k
    have h2 := ch_le n (k + 1)
    omega
theorem ch_lt {n k : Nat} (h : n ≤ 60) : -(2 ^ 64) < ch n k ∧ ch n k < 2 ^ 64 := by
  have h1 := ch_nn n k
  have h2 := ch_le n k
  have h3 : (2 : Int) ^ n ≤ 2 ^ 60 := by
    have : (2 : Nat) ^ n ≤ 2 ^ 60 := Nat.pow_le_pow_right (by decide) h
    exact_mod_cast this
  have h4 : (2 : Int) ^ 60 < 2 ^ 64 := by decide
  omega
/-- the next row by the row -/
theorem rowOf_succ (n : Nat) : rowOf (n + 1) = 1 :: ((List.range n).map fun i => ch n i + ch n (i + 1)) ++ [1] := by
  refine List.ext_getElem? fun i => ?_
  by_cases hi : i ≤ n + 1
  · rw [rowOf_get hi]
    cases i with
    | zero => rw [ch_zero]; rfl
    | succ i =>
      rw [List.cons_append, List.getElem?_cons_succ]
      by_cases h2 : i < n
      · rw [List.getElem?_append_left (by rw [List.length_map, List.length_range]; exact h2), List.getElem?_map, List.getElem?_range h2]
        rfl
      · have e : i = n := by omega
        subst e
        rw [List.getElem?_append_right (by rw [List.length_map, List.length_range]; exact Nat.le_refl _), List.length_map, List.length_range, Nat.sub_self, ch_self]
        rfl
  · rw [List.getElem?_eq_none (by rw [rowOf_length]; omega), List.getElem?_eq_none (by simp; omega)]
end K30


set_option Elab.async false
set_option linter.all false
set_option maxRecDepth 100000
set_option maxHeartbeats 4000000
namespace K30
/-! ### what the functions tell -/
theorem getD_at {a : List Int} {k : Nat} (h : k < a.length) : a[k]? = some (a.getD k 0) := by
  rw [List.getD_eq_getElem?_getD, List.getElem?_eq_getElem h]
  rfl
theorem getD_mem {a : List Int} {k : Nat} (h : k < a.length) : a.getD k 0 ∈ a := List.mem_of_getElem? (getD_at h)
theorem mul_bd {c a C A : Int} (h0 : 0 ≤ c) (h1 : c ≤ C) (h2 : -A ≤ a) (h3 : a ≤ A) : -(C * A) ≤ c * a ∧ c * a ≤ C * A := by
  have hA : 0 ≤ A := by omega
  have k1 : c * a ≤ c * A := Int.mul_le_mul_of_nonneg_left h3 h0
  have k2 : c * (-A) ≤ c * a := Int.mul_le_mul_of_nonneg_left h2 h0
  have k3 : c * A ≤ C * A := Int.mul_le_mul_of_nonneg_right h1 hA
  rw [Int.mul_neg] at k2
  omega
/-- told up to m -/
def grownL (a : List Int) : Nat → List Int
  | 0 => [1]
  | m + 1 => grownL a m ++ [((List.range (m + 1)).map fun i => ch m i * a.getD i 0 * (grownL a m).getD (m - i) 0).sum]
theorem grownL_length (a : List Int) : ∀ m, (grownL a m).length = m + 1
  | 0 => rfl
  | m + 1 => by rw [grownL, List.length_append, grownL_length a m]; rfl
def grownT (a : List Int) : List Int := (grownL a a.length).drop 1
theorem grownT_length (a : List Int) : (grownT a).length = a.length := by
  unfold grownT
  rw [List.length_drop, grownL_length]
  omega
def ungrownL (a : List Int) : Nat → List Int
  | 0 => []
  | m + 1 => ungrownL a m ++ [a.getD m 0 - ((List.range m).map fun i => ch m i * (ungrownL a m).getD i 0 * (1 :: a).getD (m - i) 0).sum]
theorem ungrownL_length (a : List Int) : ∀ m, (ungrownL a m).length = m
  | 0 => rfl
  | m + 1 => by rw [ungrownL, List.length_append, ungrownL_length a m]; rfl
def ungrownT (a : List Int) : List Int := ungrownL a a.length
def blend1 (a b : List Int) (n : Nat) : Int := ((List.range (n + 1)).map fun k => ch n k * (1 :: a).getD k 0 * (1 :: b).getD (n - k) 0).sum
def blendL (a b : List Int) (m : Nat) : List Int := (List.range m).map fun i => blend1 a b (i + 1)
theorem blendL_succ (a b : List Int) (m : Nat) : blendL a b (m + 1) = blendL a b m ++ [blend1 a b (m + 1)] := by
  unfold blendL
  rw [List.range_succ, List.map_append]
  rfl
def blendT (a b : List Int) : List Int := blendL a b (min a.length b.length)
/-- one more name among the partings by how many lists -/
def scat1 (l : List Int) (j : Nat) (m : List Int) : List Int :=
  (m.set j (m.getD j 0 + (j : Int) * l.getD j 0)).set (j + 1) ((m.set j (m.getD j 0 + (j : Int) * l.getD j 0)).getD (j + 1) 0 + l.getD j 0)
def scat (l : List Int) : Nat → List Int
  | 0 => List.replicate (l.length + 1) 0
  | j + 1 => scat1 l j (scat l j)
theorem scat_length (l : List Int) : ∀ j, (scat l j).length = l.length + 1
  | 0 => List.length_replicate
  | j + 1 => by
    rw [scat, scat1, List.length_set, List.length_set, scat_length l j]
def partL : Nat → List Int
  | 0 => [1]
  | n + 1 => scat (partL n) (partL n).length
theorem partL_length : ∀ n, (partL n).length = n + 1
  | 0 => rfl
  | n + 1 => by rw [partL, scat_length, partL_length n]
/-- all lists of lists to which one more name leads -/
def heapStep (name : Int) (hs : List (List Int)) : List (List (List Int)) :=
  (List.range hs.length).map (fun k => hs.take k ++ [hs.getD k [] ++ [name]] ++ hs.drop (k + 1)) ++ [hs ++ [[name]]]
def heapsL (ns : List Int) : List (List (List Int)) := ns.foldl (fun f name => (f.map (heapStep name)).flatten) [[]]
theorem heapsL_snoc (ns : List Int) (name : Int) : heapsL (ns ++ [name]) = ((heapsL ns).map (heapStep name)).flatten := by
  unfold heapsL
  rw [List.foldl_append]
  rfl
theorem heapStep_length (name : Int) (hs : List (List Int)) : (heapStep name hs).length = hs.length + 1 := by
  unfold heapStep
  rw [List.length_append, List.length_map, List.length_range]
  rfl
def heapBd : Nat → Nat
  | 0 => 1
  | i + 1 => heapBd i * (i + 1)
theorem heapBd_le {i : Nat} (h : i ≤ 6) : heapBd i ≤ 720 := by
  match i, h with
  | 0, _ => decide
  | 1, _ => decide
  | 2, _ => decide
  | 3, _ => decide
  | 4, _ => decide
  | 5, _ => decide
  | 6, _ => decide
/-- each step's heaps: not empty, no more names than there are -/
def HeapOk (n : Nat) (hs : List (List Int)) : Prop := hs.length ≤ n ∧ ∀ h ∈ hs, 1 ≤ h.length ∧ h.length ≤ n
theorem heapStep_ok {n : Nat} {name : Int} {hs x : List (List Int)} (h : HeapOk n hs) (hx : x ∈ heapStep name hs) : HeapOk (n + 1) x := by
  unfold heapStep at hx
  rcases List.mem_append.mp hx with hx | hx
  · obtain ⟨k, hk, rfl⟩ := List.mem_map.mp hx
    rw [List.mem_range] at hk
    refine ⟨?_, fun y hy => ?_⟩
    · have := h.1
      simp only [List.length_append, List.length_take, List.length_drop, List.length_cons, List.length_nil]
      omega
    · rcases List.mem_append.mp hy with hy | hy
      · rcases List.mem_append.mp hy with hy | hy
        · have := h.2 y (List.mem_of_mem_take hy)
          omega
        · have e : y = hs.getD k [] ++ [name] := by simpa using hy
          have hm : hs.getD k [] ∈ hs := by
            rw [List.getD_eq_getElem?_getD, List.getElem?_eq_getElem hk]
            exact List.getElem_mem hk
          have := h.2 _ hm
          rw [e, List.length_append]
          simp only [List.length_cons, List.length_nil]
          omega
      · have := h.2 y (List.mem_of_mem_drop hy)
        omega
  · have e : x = hs ++ [[name]] := by simpa using hx
    subst e
    refine ⟨?_, fun y hy => ?_⟩
    · have := h.1
      simp only [List.length_append, List.length_cons, List.length_nil]
      omega
    · rcases List.mem_append.mp hy with hy | hy
      · have := h.2 y hy
        omega
      · have e : y = [name] := by simpa using hy
        subst e
        simp
theorem flatten_le {α β : Type} (f : α → List β) (c : Nat) : ∀ l : List α, (∀ x ∈ l, (f x).length ≤ c) → (l.map f).flatten.length ≤ l.length * c
  | [], _ => by simp
  | x :: r, h => by
    rw [List.map_cons, List.flatten_cons, List.length_append, List.length_cons]
    have h1 := h x List.mem_cons_self
    have h2 := flatten_le f c r fun y hy => h y (List.mem_cons_of_mem _ hy)
    rw [Nat.add_mul]
    omega
theorem heapsL_ok : ∀ (n : Nat) (ns : List Int), ns.length = n → (heapsL ns).length ≤ heapBd n ∧ ∀ hs ∈ heapsL ns, HeapOk n hs
  | 0, ns, h => by
    have e : ns = [] := List.length_eq_zero_iff.mp h
    subst e
    refine ⟨by decide, fun hs hm => ?_⟩
    have e : hs = [] := by simpa [heapsL] using hm
    subst e
    exact ⟨by decide, fun _ z => by cases z⟩
  | n + 1, ns, h => by
    obtain ⟨ms, z, rfl⟩ : ∃ ms z, ns = ms ++ [z] := ⟨ns.dropLast, ns.getLast (by intro e; rw [e] at h; cases h), (List.dropLast_concat_getLast _).symm⟩
    have hl : ms.length = n := by
      rw [List.length_append] at h
      simpa using h
    obtain ⟨h1, h2⟩ := heapsL_ok n ms hl
    rw [heapsL_snoc]
    refine ⟨?_, fun hs hm => ?_⟩
    · have h3 := flatten_le (heapStep z) (n + 1) (heapsL ms) fun x hx => by
        rw [heapStep_length]
        have := (h2 x hx).1
        omega
      exact Nat.le_trans h3 (Nat.mul_le_mul_right _ h1)
    · obtain ⟨l, hl, hm⟩ := List.mem_flatten.mp hm
      obtain ⟨x, hx, rfl⟩ := List.mem_map.mp hl
      exact heapStep_ok (h2 x hx) hm
def prodI (ns : List Int) : Int := ns.foldl (· * ·) 1
end K30


set_option Elab.async false
set_option linter.all false
set_option maxRecDepth 100000
set_option maxHeartbeats 4000000
namespace K30
/-! ### the law's own sums -/
def rangeZ (lo : Int) (n : Nat) : List Int := (List.range n).map fun i : Nat => lo + (i : Int)
theorem rangeZ_length (lo : Int) (n : Nat) : (rangeZ lo n).length = n := by
  unfold rangeZ
  rw [List.length_map, List.length_range]
def term1 (small : List Int) (hs : List (List Int)) : Int := prodI (hs.map fun h => small.getD (h.length - 1) 0)
def partS (small : List Int) (n : Nat) : Int := ((heapsL (rangeZ 0 n)).map (term1 small)).sum
def dueL (small : List Int) (m : Nat) : List Int := (List.range m).map fun i => partS small (i + 1)
theorem dueL_succ (small : List Int) (m : Nat) : dueL small (m + 1) = dueL small m ++ [partS small (m + 1)] := by
  unfold dueL
  rw [List.range_succ, List.map_append]
  rfl
theorem dueL_length (small : List Int) (m : Nat) : (dueL small m).length = m := by
  unfold dueL
  rw [List.length_map, List.length_range]
def sgn (n : Nat) : Int := if n % 2 = 1 then 1 else -1
def term2 (small : List Int) (hs : List (List Int)) : Int := term1 small hs * prodI (rangeZ 1 (hs.length - 1)) * sgn hs.length
def ownS (small : List Int) (n : Nat) : Int := ((heapsL (rangeZ 0 n)).map (term2 small)).sum
def ownL (small : List Int) (m : Nat) : List Int := (List.range m).map fun i => ownS small (i + 1)
theorem ownL_succ (small : List Int) (m : Nat) : ownL small (m + 1) = ownL small m ++ [ownS small (m + 1)] := by
  unfold ownL
  rw [List.range_succ, List.map_append]
  rfl
theorem ownL_length (small : List Int) (m : Nat) : (ownL small m).length = m := by
  unfold ownL
  rw [List.length_map, List.length_range]
/-- the law's next row of partings by how many lists -/
def rowNext (n : Nat) (row : List Int) : List Int := (List.range (n + 2)).map fun k => (if 0 < k then row.getD (k - 1) 0 else 0) + (if k ≤ n then (k : Int) * row.getD k 0 else 0)
def rowS : Nat → List Int
  | 0 => [1]
  | n + 1 => rowNext n (rowS n)
theorem rowS_length : ∀ n, (rowS n).length = n + 1
  | 0 => rfl
  | n + 1 => by
    rw [rowS, rowNext, List.length_map, List.length_range]


/-! ### plain laws -/
theorem getD_take {a : List Int} {m i : Nat} (h : i < m) : (a.take m).getD i 0 = a.getD i 0 := by
  rw [List.getD_eq_getElem?_getD, List.getD_eq_getElem?_getD, List.getElem?_take, if_pos h]
theorem take_succ_getD {a : List Int} {m : Nat} (h : m < a.length) : a.take (m + 1) = a.take m ++ [a.getD m 0] := by
  rw [List.take_succ, getD_at h]
  rfl
theorem ungrownL_take (a : List Int) {m : Nat} : ∀ {n : Nat}, m ≤ n → (ungrownL a n).take m = ungrownL a m
  | 0, h => by
    have : m = 0 := by omega
    subst this
    rfl
  | n + 1, h => by
    by_cases e : m = n + 1
    · subst e
      rw [List.take_of_length_le (by rw [ungrownL_length]; omega)]
    · rw [ungrownL, List.take_append_of_le_length (by rw [ungrownL_length]; omega)]
      exact ungrownL_take a (by omega)
theorem grownL_take (a : List Int) {m : Nat} : ∀ {n : Nat}, m ≤ n → (grownL a n).take (m + 1) = grownL a m
  | 0, h => by
    have : m = 0 := by omega
    subst this
    rfl
  | n + 1, h => by
    by_cases e : m = n + 1
    · subst e
      rw [List.take_of_length_le (by rw [grownL_length]; omega)]
    · rw [grownL, List.take_append_of_le_length (by rw [grownL_length]; omega)]
      exact grownL_take a (by omega)
theorem un_at (a : List Int) {m n i : Nat} (h : m ≤ n) (hi : i < m) : (ungrownL a n).getD i 0 = (ungrownL a m).getD i 0 := by
  rw [← ungrownL_take a h, getD_take hi]
theorem gr_at (a : List Int) {m n i : Nat} (h : m ≤ n) (hi : i ≤ m) : (grownL a n).getD i 0 = (grownL a m).getD i 0 := by
  rw [← grownL_take a h, getD_take (by omega)]
theorem sum_snoc (f : Nat → Int) (m : Nat) : ((List.range (m + 1)).map f).sum = ((List.range m).map f).sum + f m := by
  rw [List.range_succ, List.map_append, List.sum_append]
  simp
theorem sum_cong {f g : Nat → Int} {m : Nat} (h : ∀ i, i < m → f i = g i) : ((List.range m).map f).sum = ((List.range m).map g).sum := by
  rw [List.map_congr_left fun i hi => h i (List.mem_range.mp hi)]
theorem sum_front (f : Nat → Int) (m : Nat) : ((List.range (m + 1)).map f).sum = f 0 + ((List.range m).map fun i => f (i + 1)).sum := by
  rw [List.range_succ_eq_map, List.map_cons, List.sum_cons, List.map_map]
  rfl
theorem sum_rev : ∀ (m : Nat) (f : Nat → Int), ((List.range m).map f).sum = ((List.range m).map fun i => f (m - 1 - i)).sum
  | 0, _ => rfl
  | m + 1, f => by
    rw [sum_snoc, sum_front, sum_rev m f]
    rw [Int.add_comm]
    refine congr (congrArg _ (by show f m = f (m + 1 - 1 - 0); rfl)) (sum_cong fun i hi => ?_)
    congr 1
    omega
theorem grown_last (a : List Int) (m : Nat) : (grownL a (m + 1)).getD (m + 1) 0 = ((List.range (m + 1)).map fun i => ch m i * a.getD i 0 * (grownL a m).getD (m - i) 0).sum := by
  rw [grownL, List.getD_eq_getElem?_getD, List.getElem?_append_right (by rw [grownL_length]; omega), grownL_length]
  simp
theorem un_last (a : List Int) (m : Nat) : (ungrownL a (m + 1)).getD m 0 = a.getD m 0 - ((List.range m).map fun i => ch m i * (ungrownL a m).getD i 0 * (1 :: a).getD (m - i) 0).sum := by
  rw [ungrownL, List.getD_eq_getElem?_getD, List.getElem?_append_right (by rw [ungrownL_length]; omega), ungrownL_length]
  simp
theorem grown_head (a : List Int) (m : Nat) : (grownL a m).getD 0 0 = 1 := by
  rw [gr_at a (Nat.zero_le m) (Nat.le_refl 0)]
  rfl
theorem grownL_un (a : List Int) {m : Nat} (h : m ≤ a.length) : grownL (ungrownT a) m = (1 :: a).take (m + 1) := by
  induction m with
  | zero => rfl
  | succ m ih =>
    have ih := ih (by omega)
    rw [take_succ_getD (a := 1 :: a) (m := m + 1) (by rw [List.length_cons]; omega), grownL, ih]
    congr 2
    rw [sum_snoc, ch_self, Nat.sub_self]
    have h1 : (ungrownT a).getD m 0 = a.getD m 0 - ((List.range m).map fun i => ch m i * (ungrownL a m).getD i 0 * (1 :: a).getD (m - i) 0).sum := by
      rw [ungrownT, un_at a (m := m + 1) h (Nat.lt_succ_self m), un_last]
    have h2 : ((List.range m).map fun i => ch m i * (ungrownT a).getD i 0 * ((1 :: a).take (m + 1)).getD (m - i) 0).sum = ((List.range m).map fun i => ch m i * (ungrownL a m).getD i 0 * (1 :: a).getD (m - i) 0).sum := sum_cong fun i hi => by
      rw [ungrownT, un_at a (m := m) (by omega) hi, getD_take (by omega)]
    have h3 : ((1 :: a).take (m + 1)).getD 0 0 = 1 := rfl
    have h4 : (1 :: a).getD (m + 1) 0 = a.getD m 0 := rfl
    rw [h1, h2, h3, h4]
    omega
theorem grown_un (a : List Int) : grownT (ungrownT a) = a := by
  have e : (ungrownT a).length = a.length := ungrownL_length a _
  rw [grownT, e, grownL_un a (Nat.le_refl _)]
  show ((1 :: a).take (a.length + 1)).tail = a
  rw [List.take_of_length_le (by rw [List.length_cons]; omega)]
  rfl
theorem grown_cons (a : List Int) : 1 :: grownT a = grownL a a.length := by
  have h := grown_head a a.length
  have l := grownL_length a a.length
  rw [grownT]
  cases e : grownL a a.length with
  | nil => rw [e] at l; cases l
  | cons x r =>
    rw [e] at h
    have : x = 1 := h
    subst this
    rfl
theorem un_grown (a : List Int) : ungrownT (grownT a) = a := by
  have key : ∀ m, m ≤ a.length → ungrownL (grownT a) m = a.take m := by
    intro m
    induction m with
    | zero => intro _; rfl
    | succ m ih =>
      intro h
      have ih := ih (by omega)
      rw [take_succ_getD (by omega), ungrownL, ih, grown_cons]
      congr 2
      have h1 : (grownT a).getD m 0 = ((List.range (m + 1)).map fun i => ch m i * a.getD i 0 * (grownL a m).getD (m - i) 0).sum := by
        rw [← grown_last, ← gr_at a h (Nat.le_refl _), ← grown_cons]
        rfl
      have h2 : ((List.range m).map fun i => ch m i * (a.take m).getD i 0 * (grownL a a.length).getD (m - i) 0).sum = ((List.range m).map fun i => ch m i * a.getD i 0 * (grownL a m).getD (m - i) 0).sum := sum_cong fun i hi => by
        rw [getD_take hi, gr_at a (m := m) (by omega) (by omega)]
      rw [h1, h2, sum_snoc, ch_self, Nat.sub_self, grown_head]
      omega
  rw [ungrownT, grownT_length, key _ (Nat.le_refl _), List.take_length]
theorem ch_sym : ∀ (n k : Nat), k ≤ n → ch n k = ch n (n - k)
  | n, 0, _ => by rw [ch_zero, Nat.sub_zero, ch_self]
  | n + 1, k + 1, h => by
    by_cases e : k = n
    · subst e
      rw [ch_self, Nat.sub_self, ch_zero]
    · obtain ⟨j, hj⟩ : ∃ j, n - k = j + 1 := ⟨n - k - 1, by omega⟩
      rw [show n + 1 - (k + 1) = j + 1 by omega, ch, ch, ch_sym n k (by omega), ch_sym n (k + 1) (by omega), hj, show n - (k + 1) = j by omega]
      omega
theorem blend_comm (a b : List Int) (n : Nat) : blend1 a b n = blend1 b a n := by
  rw [blend1, blend1, sum_rev]
  refine sum_cong fun i hi => ?_
  rw [show n + 1 - 1 - i = n - i by omega, ← ch_sym n i (by omega), show n - (n - i) = i by omega]
  rw [Int.mul_assoc, Int.mul_assoc, Int.mul_comm ((1 :: a).getD _ _)]
theorem un_ones : ungrownT (List.replicate 30 1) = 1 :: List.replicate 29 0 := by
  have e : ∀ m, m ≤ 30 → grownL (1 :: List.replicate 29 0) m = List.replicate (m + 1) 1 := by
    intro m
    induction m with
    | zero => intro _; rfl
    | succ m ih =>
      intro h
      rw [grownL, ih (by omega), List.replicate_succ' (n := m + 1)]
      congr 2
      rw [sum_front, ch_zero]
      have h1 : ((List.range m).map fun i => ch m (i + 1) * (1 :: List.replicate 29 (0 : Int)).getD (i + 1) 0 * (List.replicate (m + 1) (1 : Int)).getD (m - (i + 1)) 0).sum = ((List.range m).map fun _ => (0 : Int)).sum := sum_cong fun i hi => by
        have : (1 :: List.replicate 29 (0 : Int)).getD (i + 1) 0 = 0 := by
          show (List.replicate 29 (0 : Int)).getD i 0 = 0
          rw [List.getD_eq_getElem?_getD, List.getElem?_replicate]
          split <;> rfl
        rw [this, Int.mul_zero, Int.zero_mul]
      have h2 : ∀ m, ((List.range m).map fun _ => (0 : Int)).sum = 0 := by
        intro m
        induction m with
        | zero => rfl
        | succ m ih => rw [sum_snoc, ih]; rfl
      have h3 : (List.replicate (m + 1) (1 : Int)).getD (m - 0) 0 = 1 := by
        rw [List.getD_eq_getElem?_getD, List.getElem?_replicate, if_pos (by omega)]
        rfl
      rw [h1, h2, h3]
      rfl
  have g : grownT (1 :: List.replicate 29 0) = List.replicate 30 1 := by
    have := grown_cons (1 :: List.replicate 29 0)
    rw [e _ (by decide)] at this
    exact (List.cons.inj this).2
  rw [← g, un_grown]
end K30


set_option Elab.async false
set_option linter.all false
set_option maxRecDepth 100000
set_option maxHeartbeats 4000000
namespace K30
/-! ### tables and polynomials -/
theorem rowS_part {n : Nat} (h : n ≤ 30) : rowS n = partL n := by
  have k : ∀ n, n < 31 → rowS n = partL n := by decide +kernel
  exact k n (by omega)
theorem blend_ser {a b : List Int} (ha : a.length = 4) (hb : b.length = 4) (ha2 : ∀ z ∈ a, -3 ≤ z ∧ z ≤ 3) (hb2 : ∀ z ∈ b, -3 ≤ z ∧ z ≤ 3) : (blendT a b).length ≤ 30 ∧ ∀ n ∈ blendT a b, -1000000 ≤ n ∧ n ≤ 1000000 := by
  have e : blendT a b = blendL a b 4 := by rw [blendT, ha, hb]; rfl
  rw [e]
  refine ⟨by rw [blendL, List.length_map, List.length_range]; decide, fun n hn => ?_⟩
  obtain ⟨i, hi, rfl⟩ := List.mem_map.mp hn
  have hi := List.mem_range.mp hi
  have bd : ∀ (l : List Int), (∀ z ∈ l, -3 ≤ z ∧ z ≤ 3) → ∀ k, -3 ≤ (1 :: l).getD k 0 ∧ (1 :: l).getD k 0 ≤ 3 := by
    intro l hl k
    cases k with
    | zero => exact ⟨(by decide : (-3 : Int) ≤ 1), (by decide : (1 : Int) ≤ 3)⟩
    | succ k =>
      show -3 ≤ l.getD k 0 ∧ l.getD k 0 ≤ 3
      by_cases hk : k < l.length
      · exact hl _ (getD_mem hk)
      · rw [List.getD_eq_getElem?_getD, List.getElem?_eq_none (by omega)]
        exact ⟨(by decide : (-3 : Int) ≤ 0), (by decide : (0 : Int) ≤ 3)⟩
  have sb : ∀ (m : Nat) (f : Nat → Int), (∀ k, k < m → -10000 ≤ f k ∧ f k ≤ 10000) → -(10000 * (m : Int)) ≤ ((List.range m).map f).sum ∧ ((List.range m).map f).sum ≤ 10000 * (m : Int) := by
    intro m
    induction m with
    | zero => intro f _; exact ⟨(by decide : (-(10000 * ((0 : Nat) : Int))) ≤ 0), (by decide : (0 : Int) ≤ 10000 * ((0 : Nat) : Int))⟩
    | succ m ih =>
      intro f hf
      have h1 := ih f fun k hk => hf k (by omega)
      have h2 := hf m (by omega)
      rw [sum_snoc]
      omega
  have := sb (i + 1 + 1) (fun k => ch (i + 1) k * (1 :: a).getD k 0 * (1 :: b).getD (i + 1 - k) 0) fun k hk => by
    have h1 := bd a ha2 k
    have h2 := bd b hb2 (i + 1 - k)
    have h3 := ch_nn (i + 1) k
    have h4 : ch (i + 1) k ≤ 16 := Int.le_trans (ch_le (i + 1) k) (by have : (2 : Nat) ^ (i + 1) ≤ 2 ^ 4 := Nat.pow_le_pow_right (by decide) (by omega); exact_mod_cast this)
    have h5 := mul_bd h3 h4 h1.1 h1.2
    generalize ch (i + 1) k * (1 :: a).getD k 0 = u at h5
    have h6 : (-3 : Int) ≤ (1 :: b).getD (i + 1 - k) 0 := h2.1
    generalize (1 :: b).getD (i + 1 - k) 0 = v at h2
    rcases (by omega : v = -3 ∨ v = -2 ∨ v = -1 ∨ v = 0 ∨ v = 1 ∨ v = 2 ∨ v = 3) with rfl | rfl | rfl | rfl | rfl | rfl | rfl <;> omega
  unfold blend1
  omega
theorem un_blend {a b : List Int} (ha : a.length = 4) (hb : b.length = 4) : ungrownT (blendT a b) = List.zipWith (· + ·) (ungrownT a) (ungrownT b) := by
  match a, b, ha, hb with
  | [a0, a1, a2, a3], [b0, b1, b2, b3], _, _ =>
    simp [ungrownT, blendT, blendL, blend1, ungrownL, List.range_succ, ch]
    refine ⟨?_, ?_, ?_⟩ <;> grind
def chRow : Nat → List Int
  | 0 => [1]
  | n + 1 => List.zipWith (· + ·) (0 :: chRow n) (chRow n ++ [0])
theorem chRow_length : ∀ n, (chRow n).length = n + 1
  | 0 => rfl
  | n + 1 => by rw [chRow, List.length_zipWith, List.length_cons, List.length_append, chRow_length n]; show min (n + 2) (n + 2) = _; omega
theorem chRow_get : ∀ (n k : Nat), (chRow n).getD k 0 = ch n k
  | 0, 0 => rfl
  | 0, k + 1 => rfl
  | n + 1, k => by
    have hl := chRow_length n
    by_cases hk : k ≤ n + 1
    · rw [chRow, List.getD_eq_getElem?_getD, List.getElem?_zipWith]
      have e1 : (chRow n ++ [0])[k]? = some (ch n k) := by
        by_cases h : k ≤ n
        · rw [List.getElem?_append_left (by omega), getD_at (by omega), chRow_get n k]
        · rw [List.getElem?_append_right (by omega), hl, show k = n + 1 by omega, Nat.sub_self, ch_over n (n + 1) (by omega)]
          rfl
      rw [e1]
      cases k with
      | zero => rw [List.getElem?_cons_zero, ch_zero, ch_zero]; rfl
      | succ k => rw [List.getElem?_cons_succ, getD_at (by omega), chRow_get n k]; rfl
    · rw [ch_over (n + 1) k (by omega), List.getD_eq_getElem?_getD, List.getElem?_eq_none (by rw [chRow_length]; omega)]
      rfl
/-- the numbers of all partings, by the rows -/
def bellL : Nat → List Int
  | 0 => [1]
  | m + 1 => (fun (c b : List Int) => b ++ [((List.range (m + 1)).map fun i => c.getD i 0 * b.getD (m - i) 0).sum]) (chRow m) (bellL m)
theorem bellL_grown {N : Nat} : ∀ {m : Nat}, m ≤ N → grownL (List.replicate N 1) m = bellL m
  | 0, _ => rfl
  | m + 1, h => by
    rw [grownL, bellL, bellL_grown (by omega)]
    congr 2
    refine sum_cong fun i hi => ?_
    have : (List.replicate N (1 : Int)).getD i 0 = 1 := by
      rw [List.getD_eq_getElem?_getD, List.getElem?_replicate, if_pos (by omega)]
      rfl
    rw [this, chRow_get, Int.mul_one]
theorem bell_tab : ∀ n, n < 31 → (bellL n).getD n 0 = (partL n).sum := by decide +kernel
theorem bell_last {n : Nat} (h : n ≤ 30) : (grownT (List.replicate (if 0 < n then n else 1) 1))[(if 0 < n then n else 1) - 1]? = some (if 0 < n then (partL n).sum else 1) := by
  by_cases hn : 0 < n
  · rw [if_pos hn, if_pos hn, grownT, List.length_replicate, bellL_grown (Nat.le_refl _), List.getElem?_drop, show 1 + (n - 1) = n by omega, ← bell_tab n (by omega)]
    refine getD_at ?_
    rw [← bellL_grown (N := n) (Nat.le_refl _), grownL_length]
    omega
  · rw [if_neg hn, if_neg hn]
    rfl
def lens (hs : List (List Int)) : List Nat := hs.map fun h => h.length - 1
theorem term1_lens (s : List Int) (hs : List (List Int)) : term1 s hs = prodI ((lens hs).map fun l => s.getD l 0) := by
  rw [term1, lens, List.map_map]
  rfl
theorem lens1 : (heapsL (rangeZ 0 1)).map lens = [[0]] := by decide +kernel
theorem lens2 : (heapsL (rangeZ 0 2)).map lens = [[1], [0, 0]] := by decide +kernel
theorem lens3 : (heapsL (rangeZ 0 3)).map lens = [[2], [1, 0], [1, 0], [0, 1], [0, 0, 0]] := by decide +kernel
theorem lens4 : (heapsL (rangeZ 0 4)).map lens = [[3], [2, 0], [2, 0], [1, 1], [1, 0, 0], [2, 0], [1, 1], [1, 0, 0], [1, 1], [0, 2], [0, 1, 0], [1, 0, 0], [0, 1, 0], [0, 0, 1], [0, 0, 0, 0]] := by decide +kernel
theorem lens5 : (heapsL (rangeZ 0 5)).map lens = [[4], [3, 0], [3, 0], [2, 1], [2, 0, 0], [3, 0], [2, 1], [2, 0, 0], [2, 1], [1, 2], [1, 1, 0], [2, 0, 0], [1, 1, 0], [1, 0, 1], [1, 0, 0, 0], [3, 0], [2, 1], [2, 0, 0], [2, 1], [1, 2], [1, 1, 0], [2, 0, 0], [1, 1, 0], [1, 0, 1], [1, 0, 0, 0], [2, 1], [1, 2], [1, 1, 0], [1, 2], [0, 3], [0, 2, 0], [1, 1, 0], [0, 2, 0], [0, 1, 1], [0, 1, 0, 0], [2, 0, 0], [1, 1, 0], [1, 0, 1], [1, 0, 0, 0], [1, 1, 0], [0, 2, 0], [0, 1, 1], [0, 1, 0, 0], [1, 0, 1], [0, 1, 1], [0, 0, 2], [0, 0, 1, 0], [1, 0, 0, 0], [0, 1, 0, 0], [0, 0, 1, 0], [0, 0, 0, 1], [0, 0, 0, 0, 0]] := by decide +kernel
theorem lens6 : (heapsL (rangeZ 0 6)).map lens = [[5], [4, 0], [4, 0], [3, 1], [3, 0, 0], [4, 0], [3, 1], [3, 0, 0], [3, 1], [2, 2], [2, 1, 0], [3, 0, 0], [2, 1, 0], [2, 0, 1], [2, 0, 0, 0], [4, 0], [3, 1], [3, 0, 0], [3, 1], [2, 2], [2, 1, 0], [3, 0, 0], [2, 1, 0], [2, 0, 1], [2, 0, 0, 0], [3, 1], [2, 2], [2, 1, 0], [2, 2], [1, 3], [1, 2, 0], [2, 1, 0], [1, 2, 0], [1, 1, 1], [1, 1, 0, 0], [3, 0, 0], [2, 1, 0], [2, 0, 1], [2, 0, 0, 0], [2, 1, 0], [1, 2, 0], [1, 1, 1], [1, 1, 0, 0], [2, 0, 1], [1, 1, 1], [1, 0, 2], [1, 0, 1, 0], [2, 0, 0, 0], [1, 1, 0, 0], [1, 0, 1, 0], [1, 0, 0, 1], [1, 0, 0, 0, 0], [4, 0], [3, 1], [3, 0, 0], [3, 1], [2, 2], [2, 1, 0], [3, 0, 0], [2, 1, 0], [2, 0, 1], [2, 0, 0, 0], [3, 1], [2, 2], [2, 1, 0], [2, 2], [1, 3], [1, 2, 0], [2, 1, 0], [1, 2, 0], [1, 1, 1], [1, 1, 0, 0], [3, 0, 0], [2, 1, 0], [2, 0, 1], [2, 0, 0, 0], [2, 1, 0], [1, 2, 0], [1, 1, 1], [1, 1, 0, 0], [2, 0, 1], [1, 1, 1], [1, 0, 2], [1, 0, 1, 0], [2, 0, 0, 0], [1, 1, 0, 0], [1, 0, 1, 0], [1, 0, 0, 1], [1, 0, 0, 0, 0], [3, 1], [2, 2], [2, 1, 0], [2, 2], [1, 3], [1, 2, 0], [2, 1, 0], [1, 2, 0], [1, 1, 1], [1, 1, 0, 0], [2, 2], [1, 3], [1, 2, 0], [1, 3], [0, 4], [0, 3, 0], [1, 2, 0], [0, 3, 0], [0, 2, 1], [0, 2, 0, 0], [2, 1, 0], [1, 2, 0], [1, 1, 1], [1, 1, 0, 0], [1, 2, 0], [0, 3, 0], [0, 2, 1], [0, 2, 0, 0], [1, 1, 1], [0, 2, 1], [0, 1, 2], [0, 1, 1, 0], [1, 1, 0, 0], [0, 2, 0, 0], [0, 1, 1, 0], [0, 1, 0, 1], [0, 1, 0, 0, 0], [3, 0, 0], [2, 1, 0], [2, 0, 1], [2, 0, 0, 0], [2, 1, 0], [1, 2, 0], [1, 1, 1], [1, 1, 0, 0], [2, 0, 1], [1, 1, 1], [1, 0, 2], [1, 0, 1, 0], [2, 0, 0, 0], [1, 1, 0, 0], [1, 0, 1, 0], [1, 0, 0, 1], [1, 0, 0, 0, 0], [2, 1, 0], [1, 2, 0], [1, 1, 1], [1, 1, 0, 0], [1, 2, 0], [0, 3, 0], [0, 2, 1], [0, 2, 0, 0], [1, 1, 1], [0, 2, 1], [0, 1, 2], [0, 1, 1, 0], [1, 1, 0, 0], [0, 2, 0, 0], [0, 1, 1, 0], [0, 1, 0, 1], [0, 1, 0, 0, 0], [2, 0, 1], [1, 1, 1], [1, 0, 2], [1, 0, 1, 0], [1, 1, 1], [0, 2, 1], [0, 1, 2], [0, 1, 1, 0], [1, 0, 2], [0, 1, 2], [0, 0, 3], [0, 0, 2, 0], [1, 0, 1, 0], [0, 1, 1, 0], [0, 0, 2, 0], [0, 0, 1, 1], [0, 0, 1, 0, 0], [2, 0, 0, 0], [1, 1, 0, 0], [1, 0, 1, 0], [1, 0, 0, 1], [1, 0, 0, 0, 0], [1, 1, 0, 0], [0, 2, 0, 0], [0, 1, 1, 0], [0, 1, 0, 1], [0, 1, 0, 0, 0], [1, 0, 1, 0], [0, 1, 1, 0], [0, 0, 2, 0], [0, 0, 1, 1], [0, 0, 1, 0, 0], [1, 0, 0, 1], [0, 1, 0, 1], [0, 0, 1, 1], [0, 0, 0, 2], [0, 0, 0, 1, 0], [1, 0, 0, 0, 0], [0, 1, 0, 0, 0], [0, 0, 1, 0, 0], [0, 0, 0, 1, 0], [0, 0, 0, 0, 1], [0, 0, 0, 0, 0, 0]] := by decide +kernel
theorem part1 (s : List Int) : partS s 1 = (([[0]]).map fun c => prodI (c.map fun l => s.getD l 0)).sum := by
  rw [← lens1, List.map_map, partS]
  exact congrArg _ (List.map_congr_left fun hs _ => term1_lens s hs)
theorem part2 (s : List Int) : partS s 2 = (([[1], [0, 0]]).map fun c => prodI (c.map fun l => s.getD l 0)).sum := by
  rw [← lens2, List.map_map, partS]
  exact congrArg _ (List.map_congr_left fun hs _ => term1_lens s hs)
theorem part3 (s : List Int) : partS s 3 = (([[2], [1, 0], [1, 0], [0, 1], [0, 0, 0]]).map fun c => prodI (c.map fun l => s.getD l 0)).sum := by
  rw [← lens3, List.map_map, partS]
  exact congrArg _ (List.map_congr_left fun hs _ => term1_lens s hs)
theorem part4 (s : List Int) : partS s 4 = (([[3], [2, 0], [2, 0], [1, 1], [1, 0, 0], [2, 0], [1, 1], [1, 0, 0], [1, 1], [0, 2], [0, 1, 0], [1, 0, 0], [0, 1, 0], [0, 0, 1], [0, 0, 0, 0]]).map fun c => prodI (c.map fun l => s.getD l 0)).sum := by
  rw [← lens4, List.map_map, partS]
  exact congrArg _ (List.map_congr_left fun hs _ => term1_lens s hs)
theorem part5 (s : List Int) : partS s 5 = (([[4], [3, 0], [3, 0], [2, 1], [2, 0, 0], [3, 0], [2, 1], [2, 0, 0], [2, 1], [1, 2], [1, 1, 0], [2, 0, 0], [1, 1, 0], [1, 0, 1], [1, 0, 0, 0], [3, 0], [2, 1], [2, 0, 0], [2, 1], [1, 2], [1, 1, 0], [2, 0, 0], [1, 1, 0], [1, 0, 1], [1, 0, 0, 0], [2, 1], [1, 2], [1, 1, 0], [1, 2], [0, 3], [0, 2, 0], [1, 1, 0], [0, 2, 0], [0, 1, 1], [0, 1, 0, 0], [2, 0, 0], [1, 1, 0], [1, 0, 1], [1, 0, 0, 0], [1, 1, 0], [0, 2, 0], [0, 1, 1], [0, 1, 0, 0], [1, 0, 1], [0, 1, 1], [0, 0, 2], [0, 0, 1, 0], [1, 0, 0, 0], [0, 1, 0, 0], [0, 0, 1, 0], [0, 0, 0, 1], [0, 0, 0, 0, 0]]).map fun c => prodI (c.map fun l => s.getD l 0)).sum := by
  rw [← lens5, List.map_map, partS]
  exact congrArg _ (List.map_congr_left fun hs _ => term1_lens s hs)
theorem part6 (s : List Int) : partS s 6 = (([[5], [4, 0], [4, 0], [3, 1], [3, 0, 0], [4, 0], [3, 1], [3, 0, 0], [3, 1], [2, 2], [2, 1, 0], [3, 0, 0], [2, 1, 0], [2, 0, 1], [2, 0, 0, 0], [4, 0], [3, 1], [3, 0, 0], [3, 1], [2, 2], [2, 1, 0], [3, 0, 0], [2, 1, 0], [2, 0, 1], [2, 0, 0, 0], [3, 1], [2, 2], [2, 1, 0], [2, 2], [1, 3], [1, 2, 0], [2, 1, 0], [1, 2, 0], [1, 1, 1], [1, 1, 0, 0], [3, 0, 0], [2, 1, 0], [2, 0, 1], [2, 0, 0, 0], [2, 1, 0], [1, 2, 0], [1, 1, 1], [1, 1, 0, 0], [2, 0, 1], [1, 1, 1], [1, 0, 2], [1, 0, 1, 0], [2, 0, 0, 0], [1, 1, 0, 0], [1, 0, 1, 0], [1, 0, 0, 1], [1, 0, 0, 0, 0], [4, 0], [3, 1], [3, 0, 0], [3, 1], [2, 2], [2, 1, 0], [3, 0, 0], [2, 1, 0], [2, 0, 1], [2, 0, 0, 0], [3, 1], [2, 2], [2, 1, 0], [2, 2], [1, 3], [1, 2, 0], [2, 1, 0], [1, 2, 0], [1, 1, 1], [1, 1, 0, 0], [3, 0, 0], [2, 1, 0], [2, 0, 1], [2, 0, 0, 0], [2, 1, 0], [1, 2, 0], [1, 1, 1], [1, 1, 0, 0], [2, 0, 1], [1, 1, 1], [1, 0, 2], [1, 0, 1, 0], [2, 0, 0, 0], [1, 1, 0, 0], [1, 0, 1, 0], [1, 0, 0, 1], [1, 0, 0, 0, 0], [3, 1], [2, 2], [2, 1, 0], [2, 2], [1, 3], [1, 2, 0], [2, 1, 0], [1, 2, 0], [1, 1, 1], [1, 1, 0, 0], [2, 2], [1, 3], [1, 2, 0], [1, 3], [0, 4], [0, 3, 0], [1, 2, 0], [0, 3, 0], [0, 2, 1], [0, 2, 0, 0], [2, 1, 0], [1, 2, 0], [1, 1, 1], [1, 1, 0, 0], [1, 2, 0], [0, 3, 0], [0, 2, 1], [0, 2, 0, 0], [1, 1, 1], [0, 2, 1], [0, 1, 2], [0, 1, 1, 0], [1, 1, 0, 0], [0, 2, 0, 0], [0, 1, 1, 0], [0, 1, 0, 1], [0, 1, 0, 0, 0], [3, 0, 0], [2, 1, 0], [2, 0, 1], [2, 0, 0, 0], [2, 1, 0], [1, 2, 0], [1, 1, 1], [1, 1, 0, 0], [2, 0, 1], [1, 1, 1], [1, 0, 2], [1, 0, 1, 0], [2, 0, 0, 0], [1, 1, 0, 0], [1, 0, 1, 0], [1, 0, 0, 1], [1, 0, 0, 0, 0], [2, 1, 0], [1, 2, 0], [1, 1, 1], [1, 1, 0, 0], [1, 2, 0], [0, 3, 0], [0, 2, 1], [0, 2, 0, 0], [1, 1, 1], [0, 2, 1], [0, 1, 2], [0, 1, 1, 0], [1, 1, 0, 0], [0, 2, 0, 0], [0, 1, 1, 0], [0, 1, 0, 1], [0, 1, 0, 0, 0], [2, 0, 1], [1, 1, 1], [1, 0, 2], [1, 0, 1, 0], [1, 1, 1], [0, 2, 1], [0, 1, 2], [0, 1, 1, 0], [1, 0, 2], [0, 1, 2], [0, 0, 3], [0, 0, 2, 0], [1, 0, 1, 0], [0, 1, 1, 0], [0, 0, 2, 0], [0, 0, 1, 1], [0, 0, 1, 0, 0], [2, 0, 0, 0], [1, 1, 0, 0], [1, 0, 1, 0], [1, 0, 0, 1], [1, 0, 0, 0, 0], [1, 1, 0, 0], [0, 2, 0, 0], [0, 1, 1, 0], [0, 1, 0, 1], [0, 1, 0, 0, 0], [1, 0, 1, 0], [0, 1, 1, 0], [0, 0, 2, 0], [0, 0, 1, 1], [0, 0, 1, 0, 0], [1, 0, 0, 1], [0, 1, 0, 1], [0, 0, 1, 1], [0, 0, 0, 2], [0, 0, 0, 1, 0], [1, 0, 0, 0, 0], [0, 1, 0, 0, 0], [0, 0, 1, 0, 0], [0, 0, 0, 1, 0], [0, 0, 0, 0, 1], [0, 0, 0, 0, 0, 0]]).map fun c => prodI (c.map fun l => s.getD l 0)).sum := by
  rw [← lens6, List.map_map, partS]
  exact congrArg _ (List.map_congr_left fun hs _ => term1_lens s hs)
end K30


set_option Elab.async false
set_option linter.all false
set_option maxRecDepth 100000
set_option maxHeartbeats 4000000
namespace K30
/-! ### sums over partings: the polynomials -/
def Gr (s : List Int) (m : Nat) : Int := (grownL s m).getD m 0
theorem Gr_succ (s : List Int) (m : Nat) : Gr s (m + 1) = ((List.range (m + 1)).map fun i => ch m i * s.getD i 0 * Gr s (m - i)).sum := by
  rw [Gr, grown_last]
  exact sum_cong fun i hi => by rw [gr_at s (m := m - i) (by omega) (Nat.le_refl _), Gr]
theorem Gr0 (s : List Int) : Gr s 0 = 1 := rfl
theorem partP1 (s : List Int) : partS s 1 = 1 * (s.getD 0 0) := by
  rw [part1]
  simp (maxSteps := 10000000) only [List.map_cons, List.map_nil, List.sum_cons, List.sum_nil, prodI, List.foldl_cons, List.foldl_nil]
  generalize s.getD 0 0 = a0
  grind
theorem partP2 (s : List Int) : partS s 2 = 1 * (s.getD 0 0 * s.getD 0 0) + 1 * (s.getD 1 0) := by
  rw [part2]
  simp (maxSteps := 10000000) only [List.map_cons, List.map_nil, List.sum_cons, List.sum_nil, prodI, List.foldl_cons, List.foldl_nil]
  generalize s.getD 0 0 = a0
  generalize s.getD 1 0 = a1
  grind
theorem partP3 (s : List Int) : partS s 3 = 1 * (s.getD 0 0 * s.getD 0 0 * s.getD 0 0) + 3 * (s.getD 0 0 * s.getD 1 0) + 1 * (s.getD 2 0) := by
  rw [part3]
  simp (maxSteps := 10000000) only [List.map_cons, List.map_nil, List.sum_cons, List.sum_nil, prodI, List.foldl_cons, List.foldl_nil]
  generalize s.getD 0 0 = a0
  generalize s.getD 1 0 = a1
  generalize s.getD 2 0 = a2
  grind
theorem partP4 (s : List Int) : partS s 4 = 1 * (s.getD 0 0 * s.getD 0 0 * s.getD 0 0 * s.getD 0 0) + 6 * (s.getD 0 0 * s.getD 0 0 * s.getD 1 0) + 4 * (s.getD 0 0 * s.getD 2 0) + 3 * (s.getD 1 0 * s.getD 1 0) + 1 * (s.getD 3 0) := by
  rw [part4]
  simp (maxSteps := 10000000) only [List.map_cons, List.map_nil, List.sum_cons, List.sum_nil, prodI, List.foldl_cons, List.foldl_nil]
  generalize s.getD 0 0 = a0
  generalize s.getD 1 0 = a1
  generalize s.getD 2 0 = a2
  generalize s.getD 3 0 = a3
  grind
theorem partP5 (s : List Int) : partS s 5 = 1 * (s.getD 0 0 * s.getD 0 0 * s.getD 0 0 * s.getD 0 0 * s.getD 0 0) + 10 * (s.getD 0 0 * s.getD 0 0 * s.getD 0 0 * s.getD 1 0) + 10 * (s.getD 0 0 * s.getD 0 0 * s.getD 2 0) + 15 * (s.getD 0 0 * s.getD 1 0 * s.getD 1 0) + 5 * (s.getD 0 0 * s.getD 3 0) + 10 * (s.getD 1 0 * s.getD 2 0) + 1 * (s.getD 4 0) := by
  rw [part5]
  simp (maxSteps := 10000000) only [List.map_cons, List.map_nil, List.sum_cons, List.sum_nil, prodI, List.foldl_cons, List.foldl_nil]
  generalize s.getD 0 0 = a0
  generalize s.getD 1 0 = a1
  generalize s.getD 2 0 = a2
  generalize s.getD 3 0 = a3
  generalize s.getD 4 0 = a4
  grind
theorem partP6 (s : List Int) : partS s 6 = 1 * (s.getD 0 0 * s.getD 0 0 * s.getD 0 0 * s.getD 0 0 * s.getD 0 0 * s.getD 0 0) + 15 * (s.getD 0 0 * s.getD 0 0 * s.getD 0 0 * s.getD 0 0 * s.getD 1 0) + 20 * (s.getD 0 0 * s.getD 0 0 * s.getD 0 0 * s.getD 2 0) + 45 * (s.getD 0 0 * s.getD 0 0 * s.getD 1 0 * s.getD 1 0) + 15 * (s.getD 0 0 * s.getD 0 0 * s.getD 3 0) + 60 * (s.getD 0 0 * s.getD 1 0 * s.getD 2 0) + 6 * (s.getD 0 0 * s.getD 4 0) + 15 * (s.getD 1 0 * s.getD 1 0 * s.getD 1 0) + 15 * (s.getD 1 0 * s.getD 3 0) + 10 * (s.getD 2 0 * s.getD 2 0) + 1 * (s.getD 5 0) := by
  rw [part6]
  simp (maxSteps := 10000000) only [List.map_cons, List.map_nil, List.sum_cons, List.sum_nil, prodI, List.foldl_cons, List.foldl_nil]
  generalize s.getD 0 0 = a0
  generalize s.getD 1 0 = a1
  generalize s.getD 2 0 = a2
  generalize s.getD 3 0 = a3
  generalize s.getD 4 0 = a4
  generalize s.getD 5 0 = a5
  grind
theorem GrP1 (s : List Int) : Gr s 1 = 1 * (s.getD 0 0) := by
  rw [Gr_succ]
  simp only [List.range_succ, List.range_zero, List.nil_append, List.cons_append, List.map_cons, List.map_nil, List.sum_cons, List.sum_nil]
  simp only [Nat.sub_self, Nat.reduceSub, Nat.sub_zero, Gr0]
  simp (maxSteps := 10000000) only [show ch 0 0 = 1 from rfl]
  generalize s.getD 0 0 = a0
  grind
theorem GrP2 (s : List Int) : Gr s 2 = 1 * (s.getD 0 0 * s.getD 0 0) + 1 * (s.getD 1 0) := by
  rw [Gr_succ]
  simp only [List.range_succ, List.range_zero, List.nil_append, List.cons_append, List.map_cons, List.map_nil, List.sum_cons, List.sum_nil]
  simp only [Nat.sub_self, Nat.reduceSub, Nat.sub_zero, Gr0, GrP1]
  simp (maxSteps := 10000000) only [show ch 1 0 = 1 from rfl, show ch 1 1 = 1 from rfl]
  generalize s.getD 0 0 = a0
  generalize s.getD 1 0 = a1
  grind
theorem GrP3 (s : List Int) : Gr s 3 = 1 * (s.getD 0 0 * s.getD 0 0 * s.getD 0 0) + 3 * (s.getD 0 0 * s.getD 1 0) + 1 * (s.getD 2 0) := by
  rw [Gr_succ]
  simp only [List.range_succ, List.range_zero, List.nil_append, List.cons_append, List.map_cons, List.map_nil, List.sum_cons, List.sum_nil]
  simp only [Nat.sub_self, Nat.reduceSub, Nat.sub_zero, Gr0, GrP1, GrP2]
  simp (maxSteps := 10000000) only [show ch 2 0 = 1 from rfl, show ch 2 1 = 2 from rfl, show ch 2 2 = 1 from rfl]
  generalize s.getD 0 0 = a0
  generalize s.getD 1 0 = a1
  generalize s.getD 2 0 = a2
  grind
theorem GrP4 (s : List Int) : Gr s 4 = 1 * (s.getD 0 0 * s.getD 0 0 * s.getD 0 0 * s.getD 0 0) + 6 * (s.getD 0 0 * s.getD 0 0 * s.getD 1 0) + 4 * (s.getD 0 0 * s.getD 2 0) + 3 * (s.getD 1 0 * s.getD 1 0) + 1 * (s.getD 3 0) := by
  rw [Gr_succ]
  simp only [List.range_succ, List.range_zero, List.nil_append, List.cons_append, List.map_cons, List.map_nil, List.sum_cons, List.sum_nil]
  simp only [Nat.sub_self, Nat.reduceSub, Nat.sub_zero, Gr0, GrP1, GrP2, GrP3]
  simp (maxSteps := 10000000) only [show ch 3 0 = 1 from rfl, show ch 3 1 = 3 from rfl, show ch 3 2 = 3 from rfl, show ch 3 3 = 1 from rfl]
  generalize s.getD 0 0 = a0
  generalize s.getD 1 0 = a1
  generalize s.getD 2 0 = a2
  generalize s.getD 3 0 = a3
  grind
theorem GrP5 (s : List Int) : Gr s 5 = 1 * (s.getD 0 0 * s.getD 0 0 * s.getD 0 0 * s.getD 0 0 * s.getD 0 0) + 10 * (s.getD 0 0 * s.getD 0 0 * s.getD 0 0 * s.getD 1 0) + 10 * (s.getD 0 0 * s.getD 0 0 * s.getD 2 0) + 15 * (s.getD 0 0 * s.getD 1 0 * s.getD 1 0) + 5 * (s.getD 0 0 * s.getD 3 0) + 10 * (s.getD 1 0 * s.getD 2 0) + 1 * (s.getD 4 0) := by
  rw [Gr_succ]
  simp only [List.range_succ, List.range_zero, List.nil_append, List.cons_append, List.map_cons, List.map_nil, List.sum_cons, List.sum_nil]
  simp only [Nat.sub_self, Nat.reduceSub, Nat.sub_zero, Gr0, GrP1, GrP2, GrP3, GrP4]
  simp (maxSteps := 10000000) only [show ch 4 0 = 1 from rfl, show ch 4 1 = 4 from rfl, show ch 4 2 = 6 from rfl, show ch 4 3 = 4 from rfl, show ch 4 4 = 1 from rfl]
  generalize s.getD 0 0 = a0
  generalize s.getD 1 0 = a1
  generalize s.getD 2 0 = a2
  generalize s.getD 3 0 = a3
  generalize s.getD 4 0 = a4
  grind
theorem GrP6 (s : List Int) : Gr s 6 = 1 * (s.getD 0 0 * s.getD 0 0 * s.getD 0 0 * s.getD 0 0 * s.getD 0 0 * s.getD 0 0) + 15 * (s.getD 0 0 * s.getD 0 0 * s.getD 0 0 * s.getD 0 0 * s.getD 1 0) + 20 * (s.getD 0 0 * s.getD 0 0 * s.getD 0 0 * s.getD 2 0) + 45 * (s.getD 0 0 * s.getD 0 0 * s.getD 1 0 * s.getD 1 0) + 15 * (s.getD 0 0 * s.getD 0 0 * s.getD 3 0) + 60 * (s.getD 0 0 * s.getD 1 0 * s.getD 2 0) + 6 * (s.getD 0 0 * s.getD 4 0) + 15 * (s.getD 1 0 * s.getD 1 0 * s.getD 1 0) + 15 * (s.getD 1 0 * s.getD 3 0) + 10 * (s.getD 2 0 * s.getD 2 0) + 1 * (s.getD 5 0) := by
  rw [Gr_succ]
  simp only [List.range_succ, List.range_zero, List.nil_append, List.cons_append, List.map_cons, List.map_nil, List.sum_cons, List.sum_nil]
  simp only [Nat.sub_self, Nat.reduceSub, Nat.sub_zero, Gr0, GrP1, GrP2, GrP3, GrP4, GrP5]
  simp (maxSteps := 10000000) only [show ch 5 0 = 1 from rfl, show ch 5 1 = 5 from rfl, show ch 5 2 = 10 from rfl, show ch 5 3 = 10 from rfl, show ch 5 4 = 5 from rfl, show ch 5 5 = 1 from rfl]
  generalize s.getD 0 0 = a0
  generalize s.getD 1 0 = a1
  generalize s.getD 2 0 = a2
  generalize s.getD 3 0 = a3
  generalize s.getD 4 0 = a4
  generalize s.getD 5 0 = a5
  grind
theorem term2_lens (s : List Int) (hs : List (List Int)) : term2 s hs = prodI ((lens hs).map fun l => s.getD l 0) * prodI (rangeZ 1 ((lens hs).length - 1)) * sgn (lens hs).length := by
  rw [term2, term1_lens, lens, List.length_map]
def Un (s : List Int) (m : Nat) : Int := (ungrownL s (m + 1)).getD m 0
theorem Un_eq (s : List Int) (m : Nat) : Un s m = s.getD m 0 - ((List.range m).map fun i => ch m i * Un s i * (1 :: s).getD (m - i) 0).sum := by
  rw [Un, un_last]
  exact congrArg _ (sum_cong fun i hi => by rw [un_at s (m := i + 1) (n := m) (by omega) (Nat.lt_succ_self i)]; rfl)
theorem consD (s : List Int) (j : Nat) : (1 :: s).getD (j + 1) 0 = s.getD j 0 := rfl
theorem ownE1 (s : List Int) : ownS s 1 = (([[0]]).map fun c : List Nat => prodI (c.map fun l => s.getD l 0) * prodI (rangeZ 1 (c.length - 1)) * sgn c.length).sum := by
  rw [← lens1, List.map_map, ownS]
  exact congrArg _ (List.map_congr_left fun hs _ => term2_lens s hs)
theorem ownE2 (s : List Int) : ownS s 2 = (([[1], [0, 0]]).map fun c : List Nat => prodI (c.map fun l => s.getD l 0) * prodI (rangeZ 1 (c.length - 1)) * sgn c.length).sum := by
  rw [← lens2, List.map_map, ownS]
  exact congrArg _ (List.map_congr_left fun hs _ => term2_lens s hs)
theorem ownE3 (s : List Int) : ownS s 3 = (([[2], [1, 0], [1, 0], [0, 1], [0, 0, 0]]).map fun c : List Nat => prodI (c.map fun l => s.getD l 0) * prodI (rangeZ 1 (c.length - 1)) * sgn c.length).sum := by
  rw [← lens3, List.map_map, ownS]
  exact congrArg _ (List.map_congr_left fun hs _ => term2_lens s hs)
theorem ownE4 (s : List Int) : ownS s 4 = (([[3], [2, 0], [2, 0], [1, 1], [1, 0, 0], [2, 0], [1, 1], [1, 0, 0], [1, 1], [0, 2], [0, 1, 0], [1, 0, 0], [0, 1, 0], [0, 0, 1], [0, 0, 0, 0]]).map fun c : List Nat => prodI (c.map fun l => s.getD l 0) * prodI (rangeZ 1 (c.length - 1)) * sgn c.length).sum := by
  rw [← lens4, List.map_map, ownS]
  exact congrArg _ (List.map_congr_left fun hs _ => term2_lens s hs)
theorem ownE5 (s : List Int) : ownS s 5 = (([[4], [3, 0], [3, 0], [2, 1], [2, 0, 0], [3, 0], [2, 1], [2, 0, 0], [2, 1], [1, 2], [1, 1, 0], [2, 0, 0], [1, 1, 0], [1, 0, 1], [1, 0, 0, 0], [3, 0], [2, 1], [2, 0, 0], [2, 1], [1, 2], [1, 1, 0], [2, 0, 0], [1, 1, 0], [1, 0, 1], [1, 0, 0, 0], [2, 1], [1, 2], [1, 1, 0], [1, 2], [0, 3], [0, 2, 0], [1, 1, 0], [0, 2, 0], [0, 1, 1], [0, 1, 0, 0], [2, 0, 0], [1, 1, 0], [1, 0, 1], [1, 0, 0, 0], [1, 1, 0], [0, 2, 0], [0, 1, 1], [0, 1, 0, 0], [1, 0, 1], [0, 1, 1], [0, 0, 2], [0, 0, 1, 0], [1, 0, 0, 0], [0, 1, 0, 0], [0, 0, 1, 0], [0, 0, 0, 1], [0, 0, 0, 0, 0]]).map fun c : List Nat => prodI (c.map fun l => s.getD l 0) * prodI (rangeZ 1 (c.length - 1)) * sgn c.length).sum := by
  rw [← lens5, List.map_map, ownS]
  exact congrArg _ (List.map_congr_left fun hs _ => term2_lens s hs)
theorem ownE6 (s : List Int) : ownS s 6 = (([[5], [4, 0], [4, 0], [3, 1], [3, 0, 0], [4, 0], [3, 1], [3, 0, 0], [3, 1], [2, 2], [2, 1, 0], [3, 0, 0], [2, 1, 0], [2, 0, 1], [2, 0, 0, 0], [4, 0], [3, 1], [3, 0, 0], [3, 1], [2, 2], [2, 1, 0], [3, 0, 0], [2, 1, 0], [2, 0, 1], [2, 0, 0, 0], [3, 1], [2, 2], [2, 1, 0], [2, 2], [1, 3], [1, 2, 0], [2, 1, 0], [1, 2, 0], [1, 1, 1], [1, 1, 0, 0], [3, 0, 0], [2, 1, 0], [2, 0, 1], [2, 0, 0, 0], [2, 1, 0], [1, 2, 0], [1, 1, 1], [1, 1, 0, 0], [2, 0, 1], [1, 1, 1], [1, 0, 2], [1, 0, 1, 0], [2, 0, 0, 0], [1, 1, 0, 0], [1, 0, 1, 0], [1, 0, 0, 1], [1, 0, 0, 0, 0], [4, 0], [3, 1], [3, 0, 0], [3, 1], [2, 2], [2, 1, 0], [3, 0, 0], [2, 1, 0], [2, 0, 1], [2, 0, 0, 0], [3, 1], [2, 2], [2, 1, 0], [2, 2], [1, 3], [1, 2, 0], [2, 1, 0], [1, 2, 0], [1, 1, 1], [1, 1, 0, 0], [3, 0, 0], [2, 1, 0], [2, 0, 1], [2, 0, 0, 0], [2, 1, 0], [1, 2, 0], [1, 1, 1], [1, 1, 0, 0], [2, 0, 1], [1, 1, 1], [1, 0, 2], [1, 0, 1, 0], [2, 0, 0, 0], [1, 1, 0, 0], [1, 0, 1, 0], [1, 0, 0, 1], [1, 0, 0, 0, 0], [3, 1], [2, 2], [2, 1, 0], [2, 2], [1, 3], [1, 2, 0], [2, 1, 0], [1, 2, 0], [1, 1, 1], [1, 1, 0, 0], [2, 2], [1, 3], [1, 2, 0], [1, 3], [0, 4], [0, 3, 0], [1, 2, 0], [0, 3, 0], [0, 2, 1], [0, 2, 0, 0], [2, 1, 0], [1, 2, 0], [1, 1, 1], [1, 1, 0, 0], [1, 2, 0], [0, 3, 0], [0, 2, 1], [0, 2, 0, 0], [1, 1, 1], [0, 2, 1], [0, 1, 2], [0, 1, 1, 0], [1, 1, 0, 0], [0, 2, 0, 0], [0, 1, 1, 0], [0, 1, 0, 1], [0, 1, 0, 0, 0], [3, 0, 0], [2, 1, 0], [2, 0, 1], [2, 0, 0, 0], [2, 1, 0], [1, 2, 0], [1, 1, 1], [1, 1, 0, 0], [2, 0, 1], [1, 1, 1], [1, 0, 2], [1, 0, 1, 0], [2, 0, 0, 0], [1, 1, 0, 0], [1, 0, 1, 0], [1, 0, 0, 1], [1, 0, 0, 0, 0], [2, 1, 0], [1, 2, 0], [1, 1, 1], [1, 1, 0, 0], [1, 2, 0], [0, 3, 0], [0, 2, 1], [0, 2, 0, 0], [1, 1, 1], [0, 2, 1], [0, 1, 2], [0, 1, 1, 0], [1, 1, 0, 0], [0, 2, 0, 0], [0, 1, 1, 0], [0, 1, 0, 1], [0, 1, 0, 0, 0], [2, 0, 1], [1, 1, 1], [1, 0, 2], [1, 0, 1, 0], [1, 1, 1], [0, 2, 1], [0, 1, 2], [0, 1, 1, 0], [1, 0, 2], [0, 1, 2], [0, 0, 3], [0, 0, 2, 0], [1, 0, 1, 0], [0, 1, 1, 0], [0, 0, 2, 0], [0, 0, 1, 1], [0, 0, 1, 0, 0], [2, 0, 0, 0], [1, 1, 0, 0], [1, 0, 1, 0], [1, 0, 0, 1], [1, 0, 0, 0, 0], [1, 1, 0, 0], [0, 2, 0, 0], [0, 1, 1, 0], [0, 1, 0, 1], [0, 1, 0, 0, 0], [1, 0, 1, 0], [0, 1, 1, 0], [0, 0, 2, 0], [0, 0, 1, 1], [0, 0, 1, 0, 0], [1, 0, 0, 1], [0, 1, 0, 1], [0, 0, 1, 1], [0, 0, 0, 2], [0, 0, 0, 1, 0], [1, 0, 0, 0, 0], [0, 1, 0, 0, 0], [0, 0, 1, 0, 0], [0, 0, 0, 1, 0], [0, 0, 0, 0, 1], [0, 0, 0, 0, 0, 0]]).map fun c : List Nat => prodI (c.map fun l => s.getD l 0) * prodI (rangeZ 1 (c.length - 1)) * sgn c.length).sum := by
  rw [← lens6, List.map_map, ownS]
  exact congrArg _ (List.map_congr_left fun hs _ => term2_lens s hs)
def oT (s : List Int) (c : List Nat) : Int := prodI (c.map fun l => s.getD l 0) * prodI (rangeZ 1 (c.length - 1)) * sgn c.length
theorem ownC1_0 (s : List Int) : (([[0]]).map (oT s)).sum = (1) * (s.getD 0 0) := by
  simp (maxSteps := 10000000) only [List.map_cons, List.map_nil, List.sum_cons, List.sum_nil, oT, List.length_cons, List.length_nil]
  simp (maxSteps := 10000000) only [show prodI (rangeZ 1 (0 + 1 - 1)) = 1 from rfl, show sgn (0 + 1) = 1 from rfl]
  simp (maxSteps := 10000000) only [prodI, List.foldl_cons, List.foldl_nil]
  generalize s.getD 0 0 = a0
  grind
theorem ownP1 (s : List Int) : ownS s 1 = 1 * (s.getD 0 0) := by
  rw [ownE1]
  show (([[0]]).map (oT s)).sum = _
  rw [ownC1_0]
theorem ownC2_0 (s : List Int) : (([[1], [0, 0]]).map (oT s)).sum = (-1) * (s.getD 0 0 * s.getD 0 0) + (1) * (s.getD 1 0) := by
  simp (maxSteps := 10000000) only [List.map_cons, List.map_nil, List.sum_cons, List.sum_nil, oT, List.length_cons, List.length_nil]
  simp (maxSteps := 10000000) only [show prodI (rangeZ 1 (0 + 1 - 1)) = 1 from rfl, show sgn (0 + 1) = 1 from rfl, show prodI (rangeZ 1 (0 + 1 + 1 - 1)) = 1 from rfl, show sgn (0 + 1 + 1) = -1 from rfl]
  simp (maxSteps := 10000000) only [prodI, List.foldl_cons, List.foldl_nil]
  generalize s.getD 0 0 = a0
  generalize s.getD 1 0 = a1
  grind
theorem ownP2 (s : List Int) : ownS s 2 = (-1) * (s.getD 0 0 * s.getD 0 0) + 1 * (s.getD 1 0) := by
  rw [ownE2]
  show (([[1], [0, 0]]).map (oT s)).sum = _
  rw [ownC2_0]
theorem ownC3_0 (s : List Int) : (([[2], [1, 0], [1, 0], [0, 1], [0, 0, 0]]).map (oT s)).sum = (2) * (s.getD 0 0 * s.getD 0 0 * s.getD 0 0) + (-3) * (s.getD 0 0 * s.getD 1 0) + (1) * (s.getD 2 0) := by
  simp (maxSteps := 10000000) only [List.map_cons, List.map_nil, List.sum_cons, List.sum_nil, oT, List.length_cons, List.length_nil]
  simp (maxSteps := 10000000) only [show prodI (rangeZ 1 (0 + 1 - 1)) = 1 from rfl, show sgn (0 + 1) = 1 from rfl, show prodI (rangeZ 1 (0 + 1 + 1 - 1)) = 1 from rfl, show sgn (0 + 1 + 1) = -1 from rfl, show prodI (rangeZ 1 (0 + 1 + 1 + 1 - 1)) = 2 from rfl, show sgn (0 + 1 + 1 + 1) = 1 from rfl]
  simp (maxSteps := 10000000) only [prodI, List.foldl_cons, List.foldl_nil]
  generalize s.getD 0 0 = a0
  generalize s.getD 1 0 = a1
  generalize s.getD 2 0 = a2
  grind
theorem ownP3 (s : List Int) : ownS s 3 = 2 * (s.getD 0 0 * s.getD 0 0 * s.getD 0 0) + (-3) * (s.getD 0 0 * s.getD 1 0) + 1 * (s.getD 2 0) := by
  rw [ownE3]
  show (([[2], [1, 0], [1, 0], [0, 1], [0, 0, 0]]).map (oT s)).sum = _
  rw [ownC3_0]
theorem ownC4_0 (s : List Int) : (([[3], [2, 0], [2, 0], [1, 1], [1, 0, 0], [2, 0], [1, 1], [1, 0, 0], [1, 1], [0, 2], [0, 1, 0], [1, 0, 0], [0, 1, 0], [0, 0, 1], [0, 0, 0, 0]]).map (oT s)).sum = (-6) * (s.getD 0 0 * s.getD 0 0 * s.getD 0 0 * s.getD 0 0) + (12) * (s.getD 0 0 * s.getD 0 0 * s.getD 1 0) + (-4) * (s.getD 0 0 * s.getD 2 0) + (-3) * (s.getD 1 0 * s.getD 1 0) + (1) * (s.getD 3 0) := by
  simp (maxSteps := 10000000) only [List.map_cons, List.map_nil, List.sum_cons, List.sum_nil, oT, List.length_cons, List.length_nil]
  simp (maxSteps := 10000000) only [show prodI (rangeZ 1 (0 + 1 - 1)) = 1 from rfl, show sgn (0 + 1) = 1 from rfl, show prodI (rangeZ 1 (0 + 1 + 1 - 1)) = 1 from rfl, show sgn (0 + 1 + 1) = -1 from rfl, show prodI (rangeZ 1 (0 + 1 + 1 + 1 - 1)) = 2 from rfl, show sgn (0 + 1 + 1 + 1) = 1 from rfl, show prodI (rangeZ 1 (0 + 1 + 1 + 1 + 1 - 1)) = 6 from rfl, show sgn (0 + 1 + 1 + 1 + 1) = -1 from rfl]
  simp (maxSteps := 10000000) only [prodI, List.foldl_cons, List.foldl_nil]
  generalize s.getD 0 0 = a0
  generalize s.getD 1 0 = a1
  generalize s.getD 2 0 = a2
  generalize s.getD 3 0 = a3
  grind
theorem ownP4 (s : List Int) : ownS s 4 = (-6) * (s.getD 0 0 * s.getD 0 0 * s.getD 0 0 * s.getD 0 0) + 12 * (s.getD 0 0 * s.getD 0 0 * s.getD 1 0) + (-4) * (s.getD 0 0 * s.getD 2 0) + (-3) * (s.getD 1 0 * s.getD 1 0) + 1 * (s.getD 3 0) := by
  rw [ownE4]
  show (([[3], [2, 0], [2, 0], [1, 1], [1, 0, 0], [2, 0], [1, 1], [1, 0, 0], [1, 1], [0, 2], [0, 1, 0], [1, 0, 0], [0, 1, 0], [0, 0, 1], [0, 0, 0, 0]]).map (oT s)).sum = _
  rw [ownC4_0]
theorem ownC5_0 (s : List Int) : (([[4], [3, 0], [3, 0], [2, 1], [2, 0, 0], [3, 0], [2, 1], [2, 0, 0], [2, 1], [1, 2], [1, 1, 0], [2, 0, 0], [1, 1, 0], [1, 0, 1], [1, 0, 0, 0], [3, 0], [2, 1], [2, 0, 0], [2, 1], [1, 2], [1, 1, 0], [2, 0, 0], [1, 1, 0], [1, 0, 1], [1, 0, 0, 0]]).map (oT s)).sum = (-12) * (s.getD 0 0 * s.getD 0 0 * s.getD 0 0 * s.getD 1 0) + (10) * (s.getD 0 0 * s.getD 0 0 * s.getD 2 0) + (12) * (s.getD 0 0 * s.getD 1 0 * s.getD 1 0) + (-4) * (s.getD 0 0 * s.getD 3 0) + (-7) * (s.getD 1 0 * s.getD 2 0) + (1) * (s.getD 4 0) := by
  simp (maxSteps := 10000000) only [List.map_cons, List.map_nil, List.sum_cons, List.sum_nil, oT, List.length_cons, List.length_nil]
  simp (maxSteps := 10000000) only [show prodI (rangeZ 1 (0 + 1 - 1)) = 1 from rfl, show sgn (0 + 1) = 1 from rfl, show prodI (rangeZ 1 (0 + 1 + 1 - 1)) = 1 from rfl, show sgn (0 + 1 + 1) = -1 from rfl, show prodI (rangeZ 1 (0 + 1 + 1 + 1 - 1)) = 2 from rfl, show sgn (0 + 1 + 1 + 1) = 1 from rfl, show prodI (rangeZ 1 (0 + 1 + 1 + 1 + 1 - 1)) = 6 from rfl, show sgn (0 + 1 + 1 + 1 + 1) = -1 from rfl, show prodI (rangeZ 1 (0 + 1 + 1 + 1 + 1 + 1 - 1)) = 24 from rfl, show sgn (0 + 1 + 1 + 1 + 1 + 1) = 1 from rfl]
  simp (maxSteps := 10000000) only [prodI, List.foldl_cons, List.foldl_nil]
  generalize s.getD 0 0 = a0
  generalize s.getD 1 0 = a1
  generalize s.getD 2 0 = a2
  generalize s.getD 3 0 = a3
  generalize s.getD 4 0 = a4
  grind
theorem ownC5_1 (s : List Int) : (([[2, 1], [1, 2], [1, 1, 0], [1, 2], [0, 3], [0, 2, 0], [1, 1, 0], [0, 2, 0], [0, 1, 1], [0, 1, 0, 0], [2, 0, 0], [1, 1, 0], [1, 0, 1], [1, 0, 0, 0], [1, 1, 0], [0, 2, 0], [0, 1, 1], [0, 1, 0, 0], [1, 0, 1], [0, 1, 1], [0, 0, 2], [0, 0, 1, 0], [1, 0, 0, 0], [0, 1, 0, 0], [0, 0, 1, 0]]).map (oT s)).sum = (-42) * (s.getD 0 0 * s.getD 0 0 * s.getD 0 0 * s.getD 1 0) + (10) * (s.getD 0 0 * s.getD 0 0 * s.getD 2 0) + (18) * (s.getD 0 0 * s.getD 1 0 * s.getD 1 0) + (-1) * (s.getD 0 0 * s.getD 3 0) + (-3) * (s.getD 1 0 * s.getD 2 0) := by
  simp (maxSteps := 10000000) only [List.map_cons, List.map_nil, List.sum_cons, List.sum_nil, oT, List.length_cons, List.length_nil]
  simp (maxSteps := 10000000) only [show prodI (rangeZ 1 (0 + 1 - 1)) = 1 from rfl, show sgn (0 + 1) = 1 from rfl, show prodI (rangeZ 1 (0 + 1 + 1 - 1)) = 1 from rfl, show sgn (0 + 1 + 1) = -1 from rfl, show prodI (rangeZ 1 (0 + 1 + 1 + 1 - 1)) = 2 from rfl, show sgn (0 + 1 + 1 + 1) = 1 from rfl, show prodI (rangeZ 1 (0 + 1 + 1 + 1 + 1 - 1)) = 6 from rfl, show sgn (0 + 1 + 1 + 1 + 1) = -1 from rfl, show prodI (rangeZ 1 (0 + 1 + 1 + 1 + 1 + 1 - 1)) = 24 from rfl, show sgn (0 + 1 + 1 + 1 + 1 + 1) = 1 from rfl]
  simp (maxSteps := 10000000) only [prodI, List.foldl_cons, List.foldl_nil]
  generalize s.getD 0 0 = a0
  generalize s.getD 1 0 = a1
  generalize s.getD 2 0 = a2
  generalize s.getD 3 0 = a3
  generalize s.getD 4 0 = a4
  grind
theorem ownC5_2 (s : List Int) : (([[0, 0, 0, 1], [0, 0, 0, 0, 0]]).map (oT s)).sum = (24) * (s.getD 0 0 * s.getD 0 0 * s.getD 0 0 * s.getD 0 0 * s.getD 0 0) + (-6) * (s.getD 0 0 * s.getD 0 0 * s.getD 0 0 * s.getD 1 0) := by
  simp (maxSteps := 10000000) only [List.map_cons, List.map_nil, List.sum_cons, List.sum_nil, oT, List.length_cons, List.length_nil]
  simp (maxSteps := 10000000) only [show prodI (rangeZ 1 (0 + 1 - 1)) = 1 from rfl, show sgn (0 + 1) = 1 from rfl, show prodI (rangeZ 1 (0 + 1 + 1 - 1)) = 1 from rfl, show sgn (0 + 1 + 1) = -1 from rfl, show prodI (rangeZ 1 (0 + 1 + 1 + 1 - 1)) = 2 from rfl, show sgn (0 + 1 + 1 + 1) = 1 from rfl, show prodI (rangeZ 1 (0 + 1 + 1 + 1 + 1 - 1)) = 6 from rfl, show sgn (0 + 1 + 1 + 1 + 1) = -1 from rfl, show prodI (rangeZ 1 (0 + 1 + 1 + 1 + 1 + 1 - 1)) = 24 from rfl, show sgn (0 + 1 + 1 + 1 + 1 + 1) = 1 from rfl]
  simp (maxSteps := 10000000) only [prodI, List.foldl_cons, List.foldl_nil]
  generalize s.getD 0 0 = a0
  generalize s.getD 1 0 = a1
  generalize s.getD 2 0 = a2
  generalize s.getD 3 0 = a3
  generalize s.getD 4 0 = a4
  grind
theorem ownP5 (s : List Int) : ownS s 5 = 24 * (s.getD 0 0 * s.getD 0 0 * s.getD 0 0 * s.getD 0 0 * s.getD 0 0) + (-60) * (s.getD 0 0 * s.getD 0 0 * s.getD 0 0 * s.getD 1 0) + 20 * (s.getD 0 0 * s.getD 0 0 * s.getD 2 0) + 30 * (s.getD 0 0 * s.getD 1 0 * s.getD 1 0) + (-5) * (s.getD 0 0 * s.getD 3 0) + (-10) * (s.getD 1 0 * s.getD 2 0) + 1 * (s.getD 4 0) := by
  rw [ownE5]
  show (([[4], [3, 0], [3, 0], [2, 1], [2, 0, 0], [3, 0], [2, 1], [2, 0, 0], [2, 1], [1, 2], [1, 1, 0], [2, 0, 0], [1, 1, 0], [1, 0, 1], [1, 0, 0, 0], [3, 0], [2, 1], [2, 0, 0], [2, 1], [1, 2], [1, 1, 0], [2, 0, 0], [1, 1, 0], [1, 0, 1], [1, 0, 0, 0]] ++ ([[2, 1], [1, 2], [1, 1, 0], [1, 2], [0, 3], [0, 2, 0], [1, 1, 0], [0, 2, 0], [0, 1, 1], [0, 1, 0, 0], [2, 0, 0], [1, 1, 0], [1, 0, 1], [1, 0, 0, 0], [1, 1, 0], [0, 2, 0], [0, 1, 1], [0, 1, 0, 0], [1, 0, 1], [0, 1, 1], [0, 0, 2], [0, 0, 1, 0], [1, 0, 0, 0], [0, 1, 0, 0], [0, 0, 1, 0]] ++ ([[0, 0, 0, 1], [0, 0, 0, 0, 0]]))).map (oT s)).sum = _
  rw [List.map_append, List.sum_append, List.map_append, List.sum_append, ownC5_0, ownC5_1, ownC5_2]
  generalize s.getD 0 0 = a0
  generalize s.getD 1 0 = a1
  generalize s.getD 2 0 = a2
  generalize s.getD 3 0 = a3
  generalize s.getD 4 0 = a4
  grind
theorem ownC6_0 (s : List Int) : (([[5], [4, 0], [4, 0], [3, 1], [3, 0, 0], [4, 0], [3, 1], [3, 0, 0], [3, 1], [2, 2], [2, 1, 0], [3, 0, 0], [2, 1, 0], [2, 0, 1], [2, 0, 0, 0], [4, 0], [3, 1], [3, 0, 0], [3, 1], [2, 2], [2, 1, 0], [3, 0, 0], [2, 1, 0], [2, 0, 1], [2, 0, 0, 0]]).map (oT s)).sum = (-12) * (s.getD 0 0 * s.getD 0 0 * s.getD 0 0 * s.getD 2 0) + (10) * (s.getD 0 0 * s.getD 0 0 * s.getD 3 0) + (12) * (s.getD 0 0 * s.getD 1 0 * s.getD 2 0) + (-4) * (s.getD 0 0 * s.getD 4 0) + (-5) * (s.getD 1 0 * s.getD 3 0) + (-2) * (s.getD 2 0 * s.getD 2 0) + (1) * (s.getD 5 0) := by
  simp (maxSteps := 10000000) only [List.map_cons, List.map_nil, List.sum_cons, List.sum_nil, oT, List.length_cons, List.length_nil]
  simp (maxSteps := 10000000) only [show prodI (rangeZ 1 (0 + 1 - 1)) = 1 from rfl, show sgn (0 + 1) = 1 from rfl, show prodI (rangeZ 1 (0 + 1 + 1 - 1)) = 1 from rfl, show sgn (0 + 1 + 1) = -1 from rfl, show prodI (rangeZ 1 (0 + 1 + 1 + 1 - 1)) = 2 from rfl, show sgn (0 + 1 + 1 + 1) = 1 from rfl, show prodI (rangeZ 1 (0 + 1 + 1 + 1 + 1 - 1)) = 6 from rfl, show sgn (0 + 1 + 1 + 1 + 1) = -1 from rfl, show prodI (rangeZ 1 (0 + 1 + 1 + 1 + 1 + 1 - 1)) = 24 from rfl, show sgn (0 + 1 + 1 + 1 + 1 + 1) = 1 from rfl, show prodI (rangeZ 1 (0 + 1 + 1 + 1 + 1 + 1 + 1 - 1)) = 120 from rfl, show sgn (0 + 1 + 1 + 1 + 1 + 1 + 1) = -1 from rfl]
  simp (maxSteps := 10000000) only [prodI, List.foldl_cons, List.foldl_nil]
  generalize s.getD 0 0 = a0
  generalize s.getD 1 0 = a1
  generalize s.getD 2 0 = a2
  generalize s.getD 3 0 = a3
  generalize s.getD 4 0 = a4
  generalize s.getD 5 0 = a5
  grind
theorem ownC6_1 (s : List Int) : (([[3, 1], [2, 2], [2, 1, 0], [2, 2], [1, 3], [1, 2, 0], [2, 1, 0], [1, 2, 0], [1, 1, 1], [1, 1, 0, 0], [3, 0, 0], [2, 1, 0], [2, 0, 1], [2, 0, 0, 0], [2, 1, 0], [1, 2, 0], [1, 1, 1], [1, 1, 0, 0], [2, 0, 1], [1, 1, 1], [1, 0, 2], [1, 0, 1, 0], [2, 0, 0, 0], [1, 1, 0, 0], [1, 0, 1, 0]]).map (oT s)).sum = (-12) * (s.getD 0 0 * s.getD 0 0 * s.getD 0 0 * s.getD 2 0) + (-30) * (s.getD 0 0 * s.getD 0 0 * s.getD 1 0 * s.getD 1 0) + (2) * (s.getD 0 0 * s.getD 0 0 * s.getD 3 0) + (20) * (s.getD 0 0 * s.getD 1 0 * s.getD 2 0) + (6) * (s.getD 1 0 * s.getD 1 0 * s.getD 1 0) + (-2) * (s.getD 1 0 * s.getD 3 0) + (-2) * (s.getD 2 0 * s.getD 2 0) := by
  simp (maxSteps := 10000000) only [List.map_cons, List.map_nil, List.sum_cons, List.sum_nil, oT, List.length_cons, List.length_nil]
  simp (maxSteps := 10000000) only [show prodI (rangeZ 1 (0 + 1 - 1)) = 1 from rfl, show sgn (0 + 1) = 1 from rfl, show prodI (rangeZ 1 (0 + 1 + 1 - 1)) = 1 from rfl, show sgn (0 + 1 + 1) = -1 from rfl, show prodI (rangeZ 1 (0 + 1 + 1 + 1 - 1)) = 2 from rfl, show sgn (0 + 1 + 1 + 1) = 1 from rfl, show prodI (rangeZ 1 (0 + 1 + 1 + 1 + 1 - 1)) = 6 from rfl, show sgn (0 + 1 + 1 + 1 + 1) = -1 from rfl, show prodI (rangeZ 1 (0 + 1 + 1 + 1 + 1 + 1 - 1)) = 24 from rfl, show sgn (0 + 1 + 1 + 1 + 1 + 1) = 1 from rfl, show prodI (rangeZ 1 (0 + 1 + 1 + 1 + 1 + 1 + 1 - 1)) = 120 from rfl, show sgn (0 + 1 + 1 + 1 + 1 + 1 + 1) = -1 from rfl]
  simp (maxSteps := 10000000) only [prodI, List.foldl_cons, List.foldl_nil]
  generalize s.getD 0 0 = a0
  generalize s.getD 1 0 = a1
  generalize s.getD 2 0 = a2
  generalize s.getD 3 0 = a3
  generalize s.getD 4 0 = a4
  generalize s.getD 5 0 = a5
  grind
theorem ownC6_2 (s : List Int) : (([[1, 0, 0, 1], [1, 0, 0, 0, 0], [4, 0], [3, 1], [3, 0, 0], [3, 1], [2, 2], [2, 1, 0], [3, 0, 0], [2, 1, 0], [2, 0, 1], [2, 0, 0, 0], [3, 1], [2, 2], [2, 1, 0], [2, 2], [1, 3], [1, 2, 0], [2, 1, 0], [1, 2, 0], [1, 1, 1], [1, 1, 0, 0], [3, 0, 0], [2, 1, 0], [2, 0, 1]]).map (oT s)).sum = (24) * (s.getD 0 0 * s.getD 0 0 * s.getD 0 0 * s.getD 0 0 * s.getD 1 0) + (-6) * (s.getD 0 0 * s.getD 0 0 * s.getD 0 0 * s.getD 2 0) + (-12) * (s.getD 0 0 * s.getD 0 0 * s.getD 1 0 * s.getD 1 0) + (6) * (s.getD 0 0 * s.getD 0 0 * s.getD 3 0) + (18) * (s.getD 0 0 * s.getD 1 0 * s.getD 2 0) + (-1) * (s.getD 0 0 * s.getD 4 0) + (2) * (s.getD 1 0 * s.getD 1 0 * s.getD 1 0) + (-4) * (s.getD 1 0 * s.getD 3 0) + (-3) * (s.getD 2 0 * s.getD 2 0) := by
  simp (maxSteps := 10000000) only [List.map_cons, List.map_nil, List.sum_cons, List.sum_nil, oT, List.length_cons, List.length_nil]
  simp (maxSteps := 10000000) only [show prodI (rangeZ 1 (0 + 1 - 1)) = 1 from rfl, show sgn (0 + 1) = 1 from rfl, show prodI (rangeZ 1 (0 + 1 + 1 - 1)) = 1 from rfl, show sgn (0 + 1 + 1) = -1 from rfl, show prodI (rangeZ 1 (0 + 1 + 1 + 1 - 1)) = 2 from rfl, show sgn (0 + 1 + 1 + 1) = 1 from rfl, show prodI (rangeZ 1 (0 + 1 + 1 + 1 + 1 - 1)) = 6 from rfl, show sgn (0 + 1 + 1 + 1 + 1) = -1 from rfl, show prodI (rangeZ 1 (0 + 1 + 1 + 1 + 1 + 1 - 1)) = 24 from rfl, show sgn (0 + 1 + 1 + 1 + 1 + 1) = 1 from rfl, show prodI (rangeZ 1 (0 + 1 + 1 + 1 + 1 + 1 + 1 - 1)) = 120 from rfl, show sgn (0 + 1 + 1 + 1 + 1 + 1 + 1) = -1 from rfl]
  simp (maxSteps := 10000000) only [prodI, List.foldl_cons, List.foldl_nil]
  generalize s.getD 0 0 = a0
  generalize s.getD 1 0 = a1
  generalize s.getD 2 0 = a2
  generalize s.getD 3 0 = a3
  generalize s.getD 4 0 = a4
  generalize s.getD 5 0 = a5
  grind
theorem ownC6_3 (s : List Int) : (([[2, 0, 0, 0], [2, 1, 0], [1, 2, 0], [1, 1, 1], [1, 1, 0, 0], [2, 0, 1], [1, 1, 1], [1, 0, 2], [1, 0, 1, 0], [2, 0, 0, 0], [1, 1, 0, 0], [1, 0, 1, 0], [1, 0, 0, 1], [1, 0, 0, 0, 0], [3, 1], [2, 2], [2, 1, 0], [2, 2], [1, 3], [1, 2, 0], [2, 1, 0], [1, 2, 0], [1, 1, 1], [1, 1, 0, 0], [2, 2]]).map (oT s)).sum = (24) * (s.getD 0 0 * s.getD 0 0 * s.getD 0 0 * s.getD 0 0 * s.getD 1 0) + (-12) * (s.getD 0 0 * s.getD 0 0 * s.getD 0 0 * s.getD 2 0) + (-36) * (s.getD 0 0 * s.getD 0 0 * s.getD 1 0 * s.getD 1 0) + (16) * (s.getD 0 0 * s.getD 1 0 * s.getD 2 0) + (6) * (s.getD 1 0 * s.getD 1 0 * s.getD 1 0) + (-2) * (s.getD 1 0 * s.getD 3 0) + (-3) * (s.getD 2 0 * s.getD 2 0) := by
  simp (maxSteps := 10000000) only [List.map_cons, List.map_nil, List.sum_cons, List.sum_nil, oT, List.length_cons, List.length_nil]
  simp (maxSteps := 10000000) only [show prodI (rangeZ 1 (0 + 1 - 1)) = 1 from rfl, show sgn (0 + 1) = 1 from rfl, show prodI (rangeZ 1 (0 + 1 + 1 - 1)) = 1 from rfl, show sgn (0 + 1 + 1) = -1 from rfl, show prodI (rangeZ 1 (0 + 1 + 1 + 1 - 1)) = 2 from rfl, show sgn (0 + 1 + 1 + 1) = 1 from rfl, show prodI (rangeZ 1 (0 + 1 + 1 + 1 + 1 - 1)) = 6 from rfl, show sgn (0 + 1 + 1 + 1 + 1) = -1 from rfl, show prodI (rangeZ 1 (0 + 1 + 1 + 1 + 1 + 1 - 1)) = 24 from rfl, show sgn (0 + 1 + 1 + 1 + 1 + 1) = 1 from rfl, show prodI (rangeZ 1 (0 + 1 + 1 + 1 + 1 + 1 + 1 - 1)) = 120 from rfl, show sgn (0 + 1 + 1 + 1 + 1 + 1 + 1) = -1 from rfl]
  simp (maxSteps := 10000000) only [prodI, List.foldl_cons, List.foldl_nil]
  generalize s.getD 0 0 = a0
  generalize s.getD 1 0 = a1
  generalize s.getD 2 0 = a2
  generalize s.getD 3 0 = a3
  generalize s.getD 4 0 = a4
  generalize s.getD 5 0 = a5
  grind
theorem ownC6_4 (s : List Int) : (([[1, 3], [1, 2, 0], [1, 3], [0, 4], [0, 3, 0], [1, 2, 0], [0, 3, 0], [0, 2, 1], [0, 2, 0, 0], [2, 1, 0], [1, 2, 0], [1, 1, 1], [1, 1, 0, 0], [1, 2, 0], [0, 3, 0], [0, 2, 1], [0, 2, 0, 0], [1, 1, 1], [0, 2, 1], [0, 1, 2], [0, 1, 1, 0], [1, 1, 0, 0], [0, 2, 0, 0], [0, 1, 1, 0], [0, 1, 0, 1]]).map (oT s)).sum = (-18) * (s.getD 0 0 * s.getD 0 0 * s.getD 0 0 * s.getD 2 0) + (-30) * (s.getD 0 0 * s.getD 0 0 * s.getD 1 0 * s.getD 1 0) + (6) * (s.getD 0 0 * s.getD 0 0 * s.getD 3 0) + (18) * (s.getD 0 0 * s.getD 1 0 * s.getD 2 0) + (-1) * (s.getD 0 0 * s.getD 4 0) + (4) * (s.getD 1 0 * s.getD 1 0 * s.getD 1 0) + (-2) * (s.getD 1 0 * s.getD 3 0) := by
  simp (maxSteps := 10000000) only [List.map_cons, List.map_nil, List.sum_cons, List.sum_nil, oT, List.length_cons, List.length_nil]
  simp (maxSteps := 10000000) only [show prodI (rangeZ 1 (0 + 1 - 1)) = 1 from rfl, show sgn (0 + 1) = 1 from rfl, show prodI (rangeZ 1 (0 + 1 + 1 - 1)) = 1 from rfl, show sgn (0 + 1 + 1) = -1 from rfl, show prodI (rangeZ 1 (0 + 1 + 1 + 1 - 1)) = 2 from rfl, show sgn (0 + 1 + 1 + 1) = 1 from rfl, show prodI (rangeZ 1 (0 + 1 + 1 + 1 + 1 - 1)) = 6 from rfl, show sgn (0 + 1 + 1 + 1 + 1) = -1 from rfl, show prodI (rangeZ 1 (0 + 1 + 1 + 1 + 1 + 1 - 1)) = 24 from rfl, show sgn (0 + 1 + 1 + 1 + 1 + 1) = 1 from rfl, show prodI (rangeZ 1 (0 + 1 + 1 + 1 + 1 + 1 + 1 - 1)) = 120 from rfl, show sgn (0 + 1 + 1 + 1 + 1 + 1 + 1) = -1 from rfl]
  simp (maxSteps := 10000000) only [prodI, List.foldl_cons, List.foldl_nil]
  generalize s.getD 0 0 = a0
  generalize s.getD 1 0 = a1
  generalize s.getD 2 0 = a2
  generalize s.getD 3 0 = a3
  generalize s.getD 4 0 = a4
  generalize s.getD 5 0 = a5
  grind
theorem ownC6_5 (s : List Int) : (([[0, 1, 0, 0, 0], [3, 0, 0], [2, 1, 0], [2, 0, 1], [2, 0, 0, 0], [2, 1, 0], [1, 2, 0], [1, 1, 1], [1, 1, 0, 0], [2, 0, 1], [1, 1, 1], [1, 0, 2], [1, 0, 1, 0], [2, 0, 0, 0], [1, 1, 0, 0], [1, 0, 1, 0], [1, 0, 0, 1], [1, 0, 0, 0, 0], [2, 1, 0], [1, 2, 0], [1, 1, 1], [1, 1, 0, 0], [1, 2, 0], [0, 3, 0], [0, 2, 1]]).map (oT s)).sum = (48) * (s.getD 0 0 * s.getD 0 0 * s.getD 0 0 * s.getD 0 0 * s.getD 1 0) + (-12) * (s.getD 0 0 * s.getD 0 0 * s.getD 0 0 * s.getD 2 0) + (-36) * (s.getD 0 0 * s.getD 0 0 * s.getD 1 0 * s.getD 1 0) + (4) * (s.getD 0 0 * s.getD 0 0 * s.getD 3 0) + (20) * (s.getD 0 0 * s.getD 1 0 * s.getD 2 0) + (6) * (s.getD 1 0 * s.getD 1 0 * s.getD 1 0) := by
  simp (maxSteps := 10000000) only [List.map_cons, List.map_nil, List.sum_cons, List.sum_nil, oT, List.length_cons, List.length_nil]
  simp (maxSteps := 10000000) only [show prodI (rangeZ 1 (0 + 1 - 1)) = 1 from rfl, show sgn (0 + 1) = 1 from rfl, show prodI (rangeZ 1 (0 + 1 + 1 - 1)) = 1 from rfl, show sgn (0 + 1 + 1) = -1 from rfl, show prodI (rangeZ 1 (0 + 1 + 1 + 1 - 1)) = 2 from rfl, show sgn (0 + 1 + 1 + 1) = 1 from rfl, show prodI (rangeZ 1 (0 + 1 + 1 + 1 + 1 - 1)) = 6 from rfl, show sgn (0 + 1 + 1 + 1 + 1) = -1 from rfl, show prodI (rangeZ 1 (0 + 1 + 1 + 1 + 1 + 1 - 1)) = 24 from rfl, show sgn (0 + 1 + 1 + 1 + 1 + 1) = 1 from rfl, show prodI (rangeZ 1 (0 + 1 + 1 + 1 + 1 + 1 + 1 - 1)) = 120 from rfl, show sgn (0 + 1 + 1 + 1 + 1 + 1 + 1) = -1 from rfl]
  simp (maxSteps := 10000000) only [prodI, List.foldl_cons, List.foldl_nil]
  generalize s.getD 0 0 = a0
  generalize s.getD 1 0 = a1
  generalize s.getD 2 0 = a2
  generalize s.getD 3 0 = a3
  generalize s.getD 4 0 = a4
  generalize s.getD 5 0 = a5
  grind
theorem ownC6_6 (s : List Int) : (([[0, 2, 0, 0], [1, 1, 1], [0, 2, 1], [0, 1, 2], [0, 1, 1, 0], [1, 1, 0, 0], [0, 2, 0, 0], [0, 1, 1, 0], [0, 1, 0, 1], [0, 1, 0, 0, 0], [2, 0, 1], [1, 1, 1], [1, 0, 2], [1, 0, 1, 0], [1, 1, 1], [0, 2, 1], [0, 1, 2], [0, 1, 1, 0], [1, 0, 2], [0, 1, 2], [0, 0, 3], [0, 0, 2, 0], [1, 0, 1, 0], [0, 1, 1, 0], [0, 0, 2, 0]]).map (oT s)).sum = (24) * (s.getD 0 0 * s.getD 0 0 * s.getD 0 0 * s.getD 0 0 * s.getD 1 0) + (-24) * (s.getD 0 0 * s.getD 0 0 * s.getD 0 0 * s.getD 2 0) + (-48) * (s.getD 0 0 * s.getD 0 0 * s.getD 1 0 * s.getD 1 0) + (2) * (s.getD 0 0 * s.getD 0 0 * s.getD 3 0) + (16) * (s.getD 0 0 * s.getD 1 0 * s.getD 2 0) + (6) * (s.getD 1 0 * s.getD 1 0 * s.getD 1 0) := by
  simp (maxSteps := 10000000) only [List.map_cons, List.map_nil, List.sum_cons, List.sum_nil, oT, List.length_cons, List.length_nil]
  simp (maxSteps := 10000000) only [show prodI (rangeZ 1 (0 + 1 - 1)) = 1 from rfl, show sgn (0 + 1) = 1 from rfl, show prodI (rangeZ 1 (0 + 1 + 1 - 1)) = 1 from rfl, show sgn (0 + 1 + 1) = -1 from rfl, show prodI (rangeZ 1 (0 + 1 + 1 + 1 - 1)) = 2 from rfl, show sgn (0 + 1 + 1 + 1) = 1 from rfl, show prodI (rangeZ 1 (0 + 1 + 1 + 1 + 1 - 1)) = 6 from rfl, show sgn (0 + 1 + 1 + 1 + 1) = -1 from rfl, show prodI (rangeZ 1 (0 + 1 + 1 + 1 + 1 + 1 - 1)) = 24 from rfl, show sgn (0 + 1 + 1 + 1 + 1 + 1) = 1 from rfl, show prodI (rangeZ 1 (0 + 1 + 1 + 1 + 1 + 1 + 1 - 1)) = 120 from rfl, show sgn (0 + 1 + 1 + 1 + 1 + 1 + 1) = -1 from rfl]
  simp (maxSteps := 10000000) only [prodI, List.foldl_cons, List.foldl_nil]
  generalize s.getD 0 0 = a0
  generalize s.getD 1 0 = a1
  generalize s.getD 2 0 = a2
  generalize s.getD 3 0 = a3
  generalize s.getD 4 0 = a4
  generalize s.getD 5 0 = a5
  grind
theorem ownC6_7 (s : List Int) : (([[0, 0, 1, 1], [0, 0, 1, 0, 0], [2, 0, 0, 0], [1, 1, 0, 0], [1, 0, 1, 0], [1, 0, 0, 1], [1, 0, 0, 0, 0], [1, 1, 0, 0], [0, 2, 0, 0], [0, 1, 1, 0], [0, 1, 0, 1], [0, 1, 0, 0, 0], [1, 0, 1, 0], [0, 1, 1, 0], [0, 0, 2, 0], [0, 0, 1, 1], [0, 0, 1, 0, 0], [1, 0, 0, 1], [0, 1, 0, 1], [0, 0, 1, 1], [0, 0, 0, 2], [0, 0, 0, 1, 0], [1, 0, 0, 0, 0], [0, 1, 0, 0, 0], [0, 0, 1, 0, 0]]).map (oT s)).sum = (192) * (s.getD 0 0 * s.getD 0 0 * s.getD 0 0 * s.getD 0 0 * s.getD 1 0) + (-24) * (s.getD 0 0 * s.getD 0 0 * s.getD 0 0 * s.getD 2 0) + (-78) * (s.getD 0 0 * s.getD 0 0 * s.getD 1 0 * s.getD 1 0) := by
  simp (maxSteps := 10000000) only [List.map_cons, List.map_nil, List.sum_cons, List.sum_nil, oT, List.length_cons, List.length_nil]
  simp (maxSteps := 10000000) only [show prodI (rangeZ 1 (0 + 1 - 1)) = 1 from rfl, show sgn (0 + 1) = 1 from rfl, show prodI (rangeZ 1 (0 + 1 + 1 - 1)) = 1 from rfl, show sgn (0 + 1 + 1) = -1 from rfl, show prodI (rangeZ 1 (0 + 1 + 1 + 1 - 1)) = 2 from rfl, show sgn (0 + 1 + 1 + 1) = 1 from rfl, show prodI (rangeZ 1 (0 + 1 + 1 + 1 + 1 - 1)) = 6 from rfl, show sgn (0 + 1 + 1 + 1 + 1) = -1 from rfl, show prodI (rangeZ 1 (0 + 1 + 1 + 1 + 1 + 1 - 1)) = 24 from rfl, show sgn (0 + 1 + 1 + 1 + 1 + 1) = 1 from rfl, show prodI (rangeZ 1 (0 + 1 + 1 + 1 + 1 + 1 + 1 - 1)) = 120 from rfl, show sgn (0 + 1 + 1 + 1 + 1 + 1 + 1) = -1 from rfl]
  simp (maxSteps := 10000000) only [prodI, List.foldl_cons, List.foldl_nil]
  generalize s.getD 0 0 = a0
  generalize s.getD 1 0 = a1
  generalize s.getD 2 0 = a2
  generalize s.getD 3 0 = a3
  generalize s.getD 4 0 = a4
  generalize s.getD 5 0 = a5
  grind
theorem ownC6_8 (s : List Int) : (([[0, 0, 0, 1, 0], [0, 0, 0, 0, 1], [0, 0, 0, 0, 0, 0]]).map (oT s)).sum = (-120) * (s.getD 0 0 * s.getD 0 0 * s.getD 0 0 * s.getD 0 0 * s.getD 0 0 * s.getD 0 0) + (48) * (s.getD 0 0 * s.getD 0 0 * s.getD 0 0 * s.getD 0 0 * s.getD 1 0) := by
  simp (maxSteps := 10000000) only [List.map_cons, List.map_nil, List.sum_cons, List.sum_nil, oT, List.length_cons, List.length_nil]
  simp (maxSteps := 10000000) only [show prodI (rangeZ 1 (0 + 1 - 1)) = 1 from rfl, show sgn (0 + 1) = 1 from rfl, show prodI (rangeZ 1 (0 + 1 + 1 - 1)) = 1 from rfl, show sgn (0 + 1 + 1) = -1 from rfl, show prodI (rangeZ 1 (0 + 1 + 1 + 1 - 1)) = 2 from rfl, show sgn (0 + 1 + 1 + 1) = 1 from rfl, show prodI (rangeZ 1 (0 + 1 + 1 + 1 + 1 - 1)) = 6 from rfl, show sgn (0 + 1 + 1 + 1 + 1) = -1 from rfl, show prodI (rangeZ 1 (0 + 1 + 1 + 1 + 1 + 1 - 1)) = 24 from rfl, show sgn (0 + 1 + 1 + 1 + 1 + 1) = 1 from rfl, show prodI (rangeZ 1 (0 + 1 + 1 + 1 + 1 + 1 + 1 - 1)) = 120 from rfl, show sgn (0 + 1 + 1 + 1 + 1 + 1 + 1) = -1 from rfl]
  simp (maxSteps := 10000000) only [prodI, List.foldl_cons, List.foldl_nil]
  generalize s.getD 0 0 = a0
  generalize s.getD 1 0 = a1
  generalize s.getD 2 0 = a2
  generalize s.getD 3 0 = a3
  generalize s.getD 4 0 = a4
  generalize s.getD 5 0 = a5
  grind
theorem ownP6 (s : List Int) : ownS s 6 = (-120) * (s.getD 0 0 * s.getD 0 0 * s.getD 0 0 * s.getD 0 0 * s.getD 0 0 * s.getD 0 0) + 360 * (s.getD 0 0 * s.getD 0 0 * s.getD 0 0 * s.getD 0 0 * s.getD 1 0) + (-120) * (s.getD 0 0 * s.getD 0 0 * s.getD 0 0 * s.getD 2 0) + (-270) * (s.getD 0 0 * s.getD 0 0 * s.getD 1 0 * s.getD 1 0) + 30 * (s.getD 0 0 * s.getD 0 0 * s.getD 3 0) + 120 * (s.getD 0 0 * s.getD 1 0 * s.getD 2 0) + (-6) * (s.getD 0 0 * s.getD 4 0) + 30 * (s.getD 1 0 * s.getD 1 0 * s.getD 1 0) + (-15) * (s.getD 1 0 * s.getD 3 0) + (-10) * (s.getD 2 0 * s.getD 2 0) + 1 * (s.getD 5 0) := by
  rw [ownE6]
  show (([[5], [4, 0], [4, 0], [3, 1], [3, 0, 0], [4, 0], [3, 1], [3, 0, 0], [3, 1], [2, 2], [2, 1, 0], [3, 0, 0], [2, 1, 0], [2, 0, 1], [2, 0, 0, 0], [4, 0], [3, 1], [3, 0, 0], [3, 1], [2, 2], [2, 1, 0], [3, 0, 0], [2, 1, 0], [2, 0, 1], [2, 0, 0, 0]] ++ ([[3, 1], [2, 2], [2, 1, 0], [2, 2], [1, 3], [1, 2, 0], [2, 1, 0], [1, 2, 0], [1, 1, 1], [1, 1, 0, 0], [3, 0, 0], [2, 1, 0], [2, 0, 1], [2, 0, 0, 0], [2, 1, 0], [1, 2, 0], [1, 1, 1], [1, 1, 0, 0], [2, 0, 1], [1, 1, 1], [1, 0, 2], [1, 0, 1, 0], [2, 0, 0, 0], [1, 1, 0, 0], [1, 0, 1, 0]] ++ ([[1, 0, 0, 1], [1, 0, 0, 0, 0], [4, 0], [3, 1], [3, 0, 0], [3, 1], [2, 2], [2, 1, 0], [3, 0, 0], [2, 1, 0], [2, 0, 1], [2, 0, 0, 0], [3, 1], [2, 2], [2, 1, 0], [2, 2], [1, 3], [1, 2, 0], [2, 1, 0], [1, 2, 0], [1, 1, 1], [1, 1, 0, 0], [3, 0, 0], [2, 1, 0], [2, 0, 1]] ++ ([[2, 0, 0, 0], [2, 1, 0], [1, 2, 0], [1, 1, 1], [1, 1, 0, 0], [2, 0, 1], [1, 1, 1], [1, 0, 2], [1, 0, 1, 0], [2, 0, 0, 0], [1, 1, 0, 0], [1, 0, 1, 0], [1, 0, 0, 1], [1, 0, 0, 0, 0], [3, 1], [2, 2], [2, 1, 0], [2, 2], [1, 3], [1, 2, 0], [2, 1, 0], [1, 2, 0], [1, 1, 1], [1, 1, 0, 0], [2, 2]] ++ ([[1, 3], [1, 2, 0], [1, 3], [0, 4], [0, 3, 0], [1, 2, 0], [0, 3, 0], [0, 2, 1], [0, 2, 0, 0], [2, 1, 0], [1, 2, 0], [1, 1, 1], [1, 1, 0, 0], [1, 2, 0], [0, 3, 0], [0, 2, 1], [0, 2, 0, 0], [1, 1, 1], [0, 2, 1], [0, 1, 2], [0, 1, 1, 0], [1, 1, 0, 0], [0, 2, 0, 0], [0, 1, 1, 0], [0, 1, 0, 1]] ++ ([[0, 1, 0, 0, 0], [3, 0, 0], [2, 1, 0], [2, 0, 1], [2, 0, 0, 0], [2, 1, 0], [1, 2, 0], [1, 1, 1], [1, 1, 0, 0], [2, 0, 1], [1, 1, 1], [1, 0, 2], [1, 0, 1, 0], [2, 0, 0, 0], [1, 1, 0, 0], [1, 0, 1, 0], [1, 0, 0, 1], [1, 0, 0, 0, 0], [2, 1, 0], [1, 2, 0], [1, 1, 1], [1, 1, 0, 0], [1, 2, 0], [0, 3, 0], [0, 2, 1]] ++ ([[0, 2, 0, 0], [1, 1, 1], [0, 2, 1], [0, 1, 2], [0, 1, 1, 0], [1, 1, 0, 0], [0, 2, 0, 0], [0, 1, 1, 0], [0, 1, 0, 1], [0, 1, 0, 0, 0], [2, 0, 1], [1, 1, 1], [1, 0, 2], [1, 0, 1, 0], [1, 1, 1], [0, 2, 1], [0, 1, 2], [0, 1, 1, 0], [1, 0, 2], [0, 1, 2], [0, 0, 3], [0, 0, 2, 0], [1, 0, 1, 0], [0, 1, 1, 0], [0, 0, 2, 0]] ++ ([[0, 0, 1, 1], [0, 0, 1, 0, 0], [2, 0, 0, 0], [1, 1, 0, 0], [1, 0, 1, 0], [1, 0, 0, 1], [1, 0, 0, 0, 0], [1, 1, 0, 0], [0, 2, 0, 0], [0, 1, 1, 0], [0, 1, 0, 1], [0, 1, 0, 0, 0], [1, 0, 1, 0], [0, 1, 1, 0], [0, 0, 2, 0], [0, 0, 1, 1], [0, 0, 1, 0, 0], [1, 0, 0, 1], [0, 1, 0, 1], [0, 0, 1, 1], [0, 0, 0, 2], [0, 0, 0, 1, 0], [1, 0, 0, 0, 0], [0, 1, 0, 0, 0], [0, 0, 1, 0, 0]] ++ ([[0, 0, 0, 1, 0], [0, 0, 0, 0, 1], [0, 0, 0, 0, 0, 0]]))))))))).map (oT s)).sum = _
  rw [List.map_append, List.sum_append, List.map_append, List.sum_append, List.map_append, List.sum_append, List.map_append, List.sum_append, List.map_append, List.sum_append, List.map_append, List.sum_append, List.map_append, List.sum_append, List.map_append, List.sum_append, ownC6_0, ownC6_1, ownC6_2, ownC6_3, ownC6_4, ownC6_5, ownC6_6, ownC6_7, ownC6_8]
  generalize s.getD 0 0 = a0
  generalize s.getD 1 0 = a1
  generalize s.getD 2 0 = a2
  generalize s.getD 3 0 = a3
  generalize s.getD 4 0 = a4
  generalize s.getD 5 0 = a5
  grind
theorem UnP1 (s : List Int) : Un s 0 = 1 * (s.getD 0 0) := by
  rw [Un_eq]
  simp only [List.range_succ, List.range_zero, List.nil_append, List.cons_append, List.map_cons, List.map_nil, List.sum_cons, List.sum_nil]
  generalize s.getD 0 0 = a0
  grind
theorem UnP2 (s : List Int) : Un s 1 = (-1) * (s.getD 0 0 * s.getD 0 0) + 1 * (s.getD 1 0) := by
  rw [Un_eq]
  simp only [List.range_succ, List.range_zero, List.nil_append, List.cons_append, List.map_cons, List.map_nil, List.sum_cons, List.sum_nil]
  simp only [Nat.sub_self, Nat.reduceSub, Nat.sub_zero, UnP1]
  simp (maxSteps := 10000000) only [show ch 1 0 = 1 from rfl, show (1 :: s).getD 1 0 = s.getD 0 0 from rfl]
  generalize s.getD 0 0 = a0
  generalize s.getD 1 0 = a1
  grind
theorem UnP3 (s : List Int) : Un s 2 = 2 * (s.getD 0 0 * s.getD 0 0 * s.getD 0 0) + (-3) * (s.getD 0 0 * s.getD 1 0) + 1 * (s.getD 2 0) := by
  rw [Un_eq]
  simp only [List.range_succ, List.range_zero, List.nil_append, List.cons_append, List.map_cons, List.map_nil, List.sum_cons, List.sum_nil]
  simp only [Nat.sub_self, Nat.reduceSub, Nat.sub_zero, UnP1, UnP2]
  simp (maxSteps := 10000000) only [show ch 2 0 = 1 from rfl, show (1 :: s).getD 2 0 = s.getD 1 0 from rfl, show ch 2 1 = 2 from rfl, show (1 :: s).getD 1 0 = s.getD 0 0 from rfl]
  generalize s.getD 0 0 = a0
  generalize s.getD 1 0 = a1
  generalize s.getD 2 0 = a2
  grind
theorem UnP4 (s : List Int) : Un s 3 = (-6) * (s.getD 0 0 * s.getD 0 0 * s.getD 0 0 * s.getD 0 0) + 12 * (s.getD 0 0 * s.getD 0 0 * s.getD 1 0) + (-4) * (s.getD 0 0 * s.getD 2 0) + (-3) * (s.getD 1 0 * s.getD 1 0) + 1 * (s.getD 3 0) := by
  rw [Un_eq]
  simp only [List.range_succ, List.range_zero, List.nil_append, List.cons_append, List.map_cons, List.map_nil, List.sum_cons, List.sum_nil]
  simp only [Nat.sub_self, Nat.reduceSub, Nat.sub_zero, UnP1, UnP2, UnP3]
  simp (maxSteps := 10000000) only [show ch 3 0 = 1 from rfl, show (1 :: s).getD 3 0 = s.getD 2 0 from rfl, show ch 3 1 = 3 from rfl, show (1 :: s).getD 2 0 = s.getD 1 0 from rfl, show ch 3 2 = 3 from rfl, show (1 :: s).getD 1 0 = s.getD 0 0 from rfl]
  generalize s.getD 0 0 = a0
  generalize s.getD 1 0 = a1
  generalize s.getD 2 0 = a2
  generalize s.getD 3 0 = a3
  grind
theorem UnP5 (s : List Int) : Un s 4 = 24 * (s.getD 0 0 * s.getD 0 0 * s.getD 0 0 * s.getD 0 0 * s.getD 0 0) + (-60) * (s.getD 0 0 * s.getD 0 0 * s.getD 0 0 * s.getD 1 0) + 20 * (s.getD 0 0 * s.getD 0 0 * s.getD 2 0) + 30 * (s.getD 0 0 * s.getD 1 0 * s.getD 1 0) + (-5) * (s.getD 0 0 * s.getD 3 0) + (-10) * (s.getD 1 0 * s.getD 2 0) + 1 * (s.getD 4 0) := by
  rw [Un_eq]
  simp only [List.range_succ, List.range_zero, List.nil_append, List.cons_append, List.map_cons, List.map_nil, List.sum_cons, List.sum_nil]
  simp only [Nat.sub_self, Nat.reduceSub, Nat.sub_zero, UnP1, UnP2, UnP3, UnP4]
  simp (maxSteps := 10000000) only [show ch 4 0 = 1 from rfl, show (1 :: s).getD 4 0 = s.getD 3 0 from rfl, show ch 4 1 = 4 from rfl, show (1 :: s).getD 3 0 = s.getD 2 0 from rfl, show ch 4 2 = 6 from rfl, show (1 :: s).getD 2 0 = s.getD 1 0 from rfl, show ch 4 3 = 4 from rfl, show (1 :: s).getD 1 0 = s.getD 0 0 from rfl]
  generalize s.getD 0 0 = a0
  generalize s.getD 1 0 = a1
  generalize s.getD 2 0 = a2
  generalize s.getD 3 0 = a3
  generalize s.getD 4 0 = a4
  grind
theorem UnP6 (s : List Int) : Un s 5 = (-120) * (s.getD 0 0 * s.getD 0 0 * s.getD 0 0 * s.getD 0 0 * s.getD 0 0 * s.getD 0 0) + 360 * (s.getD 0 0 * s.getD 0 0 * s.getD 0 0 * s.getD 0 0 * s.getD 1 0) + (-120) * (s.getD 0 0 * s.getD 0 0 * s.getD 0 0 * s.getD 2 0) + (-270) * (s.getD 0 0 * s.getD 0 0 * s.getD 1 0 * s.getD 1 0) + 30 * (s.getD 0 0 * s.getD 0 0 * s.getD 3 0) + 120 * (s.getD 0 0 * s.getD 1 0 * s.getD 2 0) + (-6) * (s.getD 0 0 * s.getD 4 0) + 30 * (s.getD 1 0 * s.getD 1 0 * s.getD 1 0) + (-15) * (s.getD 1 0 * s.getD 3 0) + (-10) * (s.getD 2 0 * s.getD 2 0) + 1 * (s.getD 5 0) := by
  rw [Un_eq]
  simp only [List.range_succ, List.range_zero, List.nil_append, List.cons_append, List.map_cons, List.map_nil, List.sum_cons, List.sum_nil]
  simp only [Nat.sub_self, Nat.reduceSub, Nat.sub_zero, UnP1, UnP2, UnP3, UnP4, UnP5]
  simp (maxSteps := 10000000) only [show ch 5 0 = 1 from rfl, show (1 :: s).getD 5 0 = s.getD 4 0 from rfl, show ch 5 1 = 5 from rfl, show (1 :: s).getD 4 0 = s.getD 3 0 from rfl, show ch 5 2 = 10 from rfl, show (1 :: s).getD 3 0 = s.getD 2 0 from rfl, show ch 5 3 = 10 from rfl, show (1 :: s).getD 2 0 = s.getD 1 0 from rfl, show ch 5 4 = 5 from rfl, show (1 :: s).getD 1 0 = s.getD 0 0 from rfl]
  generalize s.getD 0 0 = a0
  generalize s.getD 1 0 = a1
  generalize s.getD 2 0 = a2
  generalize s.getD 3 0 = a3
  generalize s.getD 4 0 = a4
  generalize s.getD 5 0 = a5
  grind
theorem due_grown {small : List Int} (h : small.length ≤ 6) : dueL small small.length = grownT small := by
  refine List.ext_getElem? fun i => ?_
  by_cases hi : i < small.length
  · rw [dueL, List.getElem?_map, List.getElem?_range hi, grownT, List.getElem?_drop, getD_at (by rw [grownL_length]; omega), Nat.add_comm 1 i, gr_at small (m := i + 1) hi (Nat.le_refl _)]
    show some (partS small (i + 1)) = some (Gr small (i + 1))
    rcases (by omega : i = 0 ∨ i = 1 ∨ i = 2 ∨ i = 3 ∨ i = 4 ∨ i = 5) with rfl | rfl | rfl | rfl | rfl | rfl
    · rw [partP1, GrP1]
    · rw [partP2, GrP2]
    · rw [partP3, GrP3]
    · rw [partP4, GrP4]
    · rw [partP5, GrP5]
    · rw [partP6, GrP6]
  · rw [List.getElem?_eq_none (by rw [dueL_length]; omega), List.getElem?_eq_none (by rw [grownT_length]; omega)]
theorem own_ungrown {small : List Int} (h : small.length ≤ 6) : ownL small small.length = ungrownT small := by
  refine List.ext_getElem? fun i => ?_
  by_cases hi : i < small.length
  · rw [ownL, List.getElem?_map, List.getElem?_range hi, ungrownT, getD_at (by rw [ungrownL_length]; omega), un_at small (m := i + 1) hi (Nat.lt_succ_self i)]
    show some (ownS small (i + 1)) = some (Un small i)
    rcases (by omega : i = 0 ∨ i = 1 ∨ i = 2 ∨ i = 3 ∨ i = 4 ∨ i = 5) with rfl | rfl | rfl | rfl | rfl | rfl
    · rw [ownP1, UnP1]
    · rw [ownP2, UnP2]
    · rw [ownP3, UnP3]
    · rw [ownP4, UnP4]
    · rw [ownP5, UnP5]
    · rw [ownP6, UnP6]
  · rw [List.getElem?_eq_none (by rw [ownL_length]; omega), List.getElem?_eq_none (by show (ungrownL small small.length).length ≤ i; rw [ungrownL_length]; omega)]
end K30


set_option Elab.async false
set_option linter.all false
set_option maxRecDepth 100000
set_option maxHeartbeats 4000000
namespace K30
open PySem PySem.Spec PyProof.Rows L2 StX DL
/-! ### the text, by gen.py -/
def topS (i : Nat) : Stmt := PySem.Challenge.pw_undersums_k30_whole_sums_over_all_partin.main.body.getD i (.Pass ⟨0, 0, 0, 0⟩)
abbrev s_is_integer : Stmt := topS 1
abbrev n_is_integer : List Str := ["thing"]
theorem sc_is_integer : FnScope n_is_integer ["thing"] (defScope s_is_integer) := ⟨rfl, rfl, rfl, by decide +kernel, rfl, by decide +kernel, by decide +kernel⟩
abbrev s_is_between : Stmt := topS 2
abbrev n_is_between : List Str := ["thing", "low", "high"]
theorem sc_is_between : FnScope n_is_between ["thing", "low", "high"] (defScope s_is_between) := ⟨rfl, rfl, rfl, by decide +kernel, rfl, by decide +kernel, by decide +kernel⟩
abbrev s_is_list : Stmt := topS 3
abbrev n_is_list : List Str := ["thing"]
theorem sc_is_list : FnScope n_is_list ["thing"] (defScope s_is_list) := ⟨rfl, rfl, rfl, by decide +kernel, rfl, by decide +kernel, by decide +kernel⟩
abbrev s_is_series : Stmt := topS 12
abbrev n_is_series : List Str := ["thing", "one"]
theorem sc_is_series : FnScope n_is_series ["thing"] (defScope s_is_series) := ⟨rfl, rfl, rfl, by decide +kernel, rfl, by decide +kernel, by decide +kernel⟩
abbrev s_check_series : Stmt := topS 13
abbrev n_check_series : List Str := ["series"]
theorem sc_check_series : FnScope n_check_series ["series"] (defScope s_check_series) := ⟨rfl, rfl, rfl, by decide +kernel, rfl, by decide +kernel, by decide +kernel⟩
abbrev s_choice_rows : Stmt := topS 14
abbrev n_choice_rows : List Str := ["many", "told", "_", "row", "index"]
theorem sc_choice_rows : FnScope n_choice_rows ["many"] (defScope s_choice_rows) := ⟨rfl, rfl, rfl, by decide +kernel, rfl, by decide +kernel, by decide +kernel⟩
abbrev s_grown : Stmt := topS 15
abbrev n_grown : List Str := ["series", "rows", "told", "many", "row", "size"]
theorem sc_grown : FnScope n_grown ["series"] (defScope s_grown) := ⟨rfl, rfl, rfl, by decide +kernel, rfl, by decide +kernel, by decide +kernel⟩
abbrev s_ungrown : Stmt := topS 16
abbrev n_ungrown : List Str := ["series", "rows", "whole", "told", "many", "row", "found", "size"]
theorem sc_ungrown : FnScope n_ungrown ["series"] (defScope s_ungrown) := ⟨rfl, rfl, rfl, by decide +kernel, rfl, by decide +kernel, by decide +kernel⟩
abbrev s_blended : Stmt := topS 17
abbrev n_blended : List Str := ["series", "other", "long", "rows", "told", "many", "one", "two", "size"]
theorem sc_blended : FnScope n_blended ["series", "other"] (defScope s_blended) := ⟨rfl, rfl, rfl, by decide +kernel, rfl, by decide +kernel, by decide +kernel⟩
abbrev s_parting_counts : Stmt := topS 18
abbrev n_parting_counts : List Str := ["many", "told", "_", "more", "index", "count"]
theorem sc_parting_counts : FnScope n_parting_counts ["many"] (defScope s_parting_counts) := ⟨rfl, rfl, rfl, by decide +kernel, rfl, by decide +kernel, by decide +kernel⟩
abbrev s__law_start : Stmt := topS 20
abbrev n__law_start : List Str := ["script"]
theorem sc__law_start : FnScope n__law_start ["script"] (defScope s__law_start) := ⟨rfl, rfl, rfl, by decide +kernel, rfl, by decide +kernel, by decide +kernel⟩
abbrev s__law_below : Stmt := topS 21
abbrev n__law_below : List Str := ["stream", "many", "mixed", "cell", "digit"]
theorem sc__law_below : FnScope n__law_below ["stream", "many"] (defScope s__law_below) := ⟨rfl, rfl, rfl, by decide +kernel, rfl, by decide +kernel, by decide +kernel⟩
abbrev s__law_same : Stmt := topS 22
abbrev n__law_same : List Str := ["found", "due", "x", "y"]
theorem sc__law_same : FnScope n__law_same ["found", "due"] (defScope s__law_same) := ⟨rfl, rfl, rfl, by decide +kernel, rfl, by decide +kernel, by decide +kernel⟩
abbrev s__law_wways : Stmt := topS 23
abbrev n__law_wways : List Str := ["many", "some", "found", "at"]
theorem sc__law_wways : FnScope n__law_wways ["many", "some"] (defScope s__law_wways) := ⟨rfl, rfl, rfl, by decide +kernel, rfl, by decide +kernel, by decide +kernel⟩
abbrev s__law_wproduct : Stmt := topS 24
abbrev n__law_wproduct : List Str := ["numbers", "found", "number"]
theorem sc__law_wproduct : FnScope n__law_wproduct ["numbers"] (defScope s__law_wproduct) := ⟨rfl, rfl, rfl, by decide +kernel, rfl, by decide +kernel, by decide +kernel⟩
abbrev s__law_wgrown : Stmt := topS 25
abbrev n__law_wgrown : List Str := ["series", "found", "n", "k"]
theorem sc__law_wgrown : FnScope n__law_wgrown ["series"] (defScope s__law_wgrown) := ⟨rfl, rfl, rfl, by decide +kernel, rfl, by decide +kernel, by decide +kernel⟩
abbrev s__law_wheapsof : Stmt := topS 26
abbrev n__law_wheapsof : List Str := ["names", "found", "name", "longer", "heaps", "at"]
theorem sc__law_wheapsof : FnScope n__law_wheapsof ["names"] (defScope s__law_wheapsof) := ⟨rfl, rfl, rfl, by decide +kernel, rfl, by decide +kernel, by decide +kernel⟩
abbrev s_law : Stmt := topS 27
abbrev n_law : List Str := ["script", "stream", "turn", "small", "due", "n", "own", "long", "more", "back", "size", "many", "row", "rows", "one", "two", "ones", "twos", "k", "heaps", "number", "a", "b", "heap"]
theorem sc_law : FnScope n_law ["script"] (defScope s_law) := ⟨rfl, rfl, rfl, by decide +kernel, rfl, by decide +kernel, by decide +kernel⟩
/-- what the top has left -/
structure Glb (K : PySem.W.Frag) (mg : Str → Option Value) where
  b_abs : mg "abs" = none
  b_all : mg "all" = none
  b_bool : mg "bool" = none
  b_dict : mg "dict" = none
  b_enumerate : mg "enumerate" = none
  b_int : mg "int" = none
  b_isinstance : mg "isinstance" = none
  b_len : mg "len" = none
  b_list : mg "list" = none
  b_max : mg "max" = none
  b_min : mg "min" = none
  b_range : mg "range" = none
  b_str : mg "str" = none
  b_sum : mg "sum" = none
  b_tuple : mg "tuple" = none
  b_zip : mg "zip" = none
  t_MILLION : Tok
  c_MILLION : mg "MILLION" = some (.int 1000000 t_MILLION)
  t_THIRTY : Tok
  c_THIRTY : mg "THIRTY" = some (.int 30 t_THIRTY)
  f_is_integer : Addr
  d_is_integer : FuncData
  F_is_integer : Fun K "is_integer" "is_integer" s_is_integer f_is_integer d_is_integer
  g_is_integer : mg "is_integer" = some (.ref f_is_integer)
  B_is_integer : Binds K d_is_integer ["thing"] []
  f_is_between : Addr
  d_is_between : FuncData
  F_is_between : Fun K "is_between" "is_between" s_is_between f_is_between d_is_between
  g_is_between : mg "is_between" = some (.ref f_is_between)
  B_is_between : Binds K d_is_between ["thing", "low", "high"] []
  f_is_list : Addr
  d_is_list : FuncData
  F_is_list : Fun K "is_list" "is_list" s_is_list f_is_list d_is_list
  g_is_list : mg "is_list" = some (.ref f_is_list)
  B_is_list : Binds K d_is_list ["thing"] []
  f_is_series : Addr
  d_is_series : FuncData
  F_is_series : Fun K "is_series" "is_series" s_is_series f_is_series d_is_series
  g_is_series : mg "is_series" = some (.ref f_is_series)
  B_is_series : Binds K d_is_series ["thing"] []
  f_check_series : Addr
  d_check_series : FuncData
  F_check_series : Fun K "check_series" "check_series" s_check_series f_check_series d_check_series
  g_check_series : mg "check_series" = some (.ref f_check_series)
  B_check_series : Binds K d_check_series ["series"] []
  f_choice_rows : Addr
  d_choice_rows : FuncData
  F_choice_rows : Fun K "choice_rows" "choice_rows" s_choice_rows f_choice_rows d_choice_rows
  g_choice_rows : mg "choice_rows" = some (.ref f_choice_rows)
  B_choice_rows : Binds K d_choice_rows ["many"] []
  f_grown : Addr
  d_grown : FuncData
  F_grown : Fun K "grown" "grown" s_grown f_grown d_grown
  g_grown : mg "grown" = some (.ref f_grown)
  B_grown : Binds K d_grown ["series"] []
  f_ungrown : Addr
  d_ungrown : FuncData
  F_ungrown : Fun K "ungrown" "ungrown" s_ungrown f_ungrown d_ungrown
  g_ungrown : mg "ungrown" = some (.ref f_ungrown)
  B_ungrown : Binds K d_ungrown ["series"] []
  f_blended : Addr
  d_blended : FuncData
  F_blended : Fun K "blended" "blended" s_blended f_blended d_blended
  g_blended : mg "blended" = some (.ref f_blended)
  B_blended : Binds K d_blended ["series", "other"] []
  f_parting_counts : Addr
  d_parting_counts : FuncData
  F_parting_counts : Fun K "parting_counts" "parting_counts" s_parting_counts f_parting_counts d_parting_counts
  g_parting_counts : mg "parting_counts" = some (.ref f_parting_counts)
  B_parting_counts : Binds K d_parting_counts ["many"] []
  f__law_start : Addr
  d__law_start : FuncData
  F__law_start : Fun K "_law_start" "_law_start" s__law_start f__law_start d__law_start
  g__law_start : mg "_law_start" = some (.ref f__law_start)
  B__law_start : Binds K d__law_start ["script"] []
  f__law_below : Addr
  d__law_below : FuncData
  F__law_below : Fun K "_law_below" "_law_below" s__law_below f__law_below d__law_below
  g__law_below : mg "_law_below" = some (.ref f__law_below)
  B__law_below : Binds K d__law_below ["stream", "many"] []
  f__law_same : Addr
  d__law_same : FuncData
  F__law_same : Fun K "_law_same" "_law_same" s__law_same f__law_same d__law_same
  g__law_same : mg "_law_same" = some (.ref f__law_same)
  B__law_same : Binds K d__law_same ["found", "due"] []
  f__law_wways : Addr
  d__law_wways : FuncData
  F__law_wways : Fun K "_law_wways" "_law_wways" s__law_wways f__law_wways d__law_wways
  g__law_wways : mg "_law_wways" = some (.ref f__law_wways)
  B__law_wways : Binds K d__law_wways ["many", "some"] []
  f__law_wproduct : Addr
  d__law_wproduct : FuncData
  F__law_wproduct : Fun K "_law_wproduct" "_law_wproduct" s__law_wproduct f__law_wproduct d__law_wproduct
  g__law_wproduct : mg "_law_wproduct" = some (.ref f__law_wproduct)
  B__law_wproduct : Binds K d__law_wproduct ["numbers"] []
  f__law_wgrown : Addr
  d__law_wgrown : FuncData
  F__law_wgrown : Fun K "_law_wgrown" "_law_wgrown" s__law_wgrown f__law_wgrown d__law_wgrown
  g__law_wgrown : mg "_law_wgrown" = some (.ref f__law_wgrown)
  B__law_wgrown : Binds K d__law_wgrown ["series"] []
  f__law_wheapsof : Addr
  d__law_wheapsof : FuncData
  F__law_wheapsof : Fun K "_law_wheapsof" "_law_wheapsof" s__law_wheapsof f__law_wheapsof d__law_wheapsof
  g__law_wheapsof : mg "_law_wheapsof" = some (.ref f__law_wheapsof)
  B__law_wheapsof : Binds K d__law_wheapsof ["names"] []
  f_law : Addr
  d_law : FuncData
  F_law : Fun K "law" "law" s_law f_law d_law
  g_law : mg "law" = some (.ref f_law)
  B_law : Binds K d_law ["script"] []
end K30


set_option Elab.async false
set_option linter.all false
set_option maxRecDepth 100000
set_option maxHeartbeats 4000000
namespace K30
open PySem PySem.Spec PyProof.Rows L2 StX DL
local macro_rules | `(tactic| walk_at "dl") => `(tactic| with_reducible first
  | refine zs_seq ?_ | refine zs_set ?_ | refine zs_drop ?_ | refine zs_ret ?_ | refine zs_if ?_ | refine zs_next ?_ | refine zs_par ?_
  | refine ev_int ?_ | refine ev_bl ?_ | refine ev_str ?_ | refine ev_non ?_ | refine ev_ty ?_
  | refine ev_op ?_ | refine ev_un ?_ | refine ev_cb ?_ | refine ev_call ?_ | refine ea_cons ?_ | refine ea_nil ?_
  | refine ev_andV ?_ | refine ev_orV ?_ | refine ev_notV ?_ | refine ev_ifx ?_ | refine ev_chain ?_ | refine ev_sl ?_ | refine eo_none ?_ | refine eo_some ?_
  | refine et_test ?_ | refine et_B ?_ | refine et_and ?_ | refine et_or ?_ | refine et_not ?_ | refine et_yes ?_
  | refine r2_add _ _ rfl rfl ?_ | refine r2_sub _ _ rfl rfl ?_ | refine r2_lt _ _ rfl rfl ?_ | refine r2_le _ _ rfl rfl ?_ | refine r2_gt _ _ rfl rfl ?_ | refine r2_ge _ _ rfl rfl ?_
  | refine r1_neg _ rfl ?_ | refine ev_bm ?_ | refine ev_bm0 ?_ | refine ⟨dty0, ?_⟩ | refine ⟨dty1, ?_⟩ | refine ⟨dty2, ?_⟩ | refine ⟨_, SQ.lst _, ?_⟩ | refine ⟨_, sq0, ?_⟩ | refine ⟨_, sq1, ?_⟩ | refine ea_star ?_
  | refine ⟨_, rfl, ?_⟩ | refine iteT ?_ | refine iteF ?_ | refine iteNT ?_ | refine iteNF ?_)
local macro_rules | `(tactic| walk_at "dl") => `(tactic| ((with_reducible refine' ev_var ?hv ?_); (case hv => rfl)))
local macro_rules | `(tactic| walk_at "gle") => `(tactic| repeat (first | exact GLe.nil | apply GLe.s | apply GLe.n))
section
variable {P : Program} {w : World} {K : PySem.W.Frag} {mg : Str → Option Value} {base : Heap} (G : Glb K mg)
def S_is_integer : SpD := fun ds M Φ => ∃ i : Int, ds = [.int i] ∧ Φ (.bl true) M
include G in
theorem ok_is_integer : FnOk P w K mg base CX0 1 G.f_is_integer G.d_is_integer ["thing"] (spOf K S_is_integer) := by
  refine def_ok G.F_is_integer sc_is_integer (fun ds M Φ h => by obtain ⟨_, rfl, _⟩ := h; rfl) fun cdv A outer s H E hr => ⟨_, (pss_one (ps_ret (pe_and (pe_callB (call_isiK (K := K) rfl) (by rfl) G.b_isinstance boot_isinstance (pa_cons (pv 0) (pa_cons (pe_bltn (v := .ty "int") (by rfl) G.b_int boot_int rfl) pa_nil))) (pe_one (pe_not (pe_callB (call_isiK (K := K) rfl) (by rfl) G.b_isinstance boot_isinstance (pa_cons (pv 0) (pa_cons (pe_bltn (v := .ty "bool") (by rfl) G.b_bool boot_bool rfl) pa_nil)))))))), fun ds M Φ h => ?_⟩
  try dsimp only [cxOf, L2.Cx.nox, L2.Cx.wish]
  obtain ⟨i, rfl, q⟩ := h
  repeat walk_at "dl"
  refine rc_inl (rc_isi (.int i) "int" "int" true rfl (.int i) (by decide +kernel) ?_)
  repeat walk_at "dl"
  refine rc_inl (rc_isi (.int i) "int" "bool" false rfl (.int i) (by decide +kernel) ?_)
  repeat walk_at "dl"
  exact q
def S_is_between : SpD := fun ds M Φ => ∃ i a b : Int, ds = [.int i, .int a, .int b] ∧ Φ (.bl (decide (a ≤ i ∧ i ≤ b))) M
include G in
theorem ok_is_between : FnOk P w K mg base CX0 2 G.f_is_between G.d_is_between ["thing", "low", "high"] (spOf K S_is_between) := by
  refine def_ok G.F_is_between sc_is_between (fun ds M Φ h => by obtain ⟨_, _, _, rfl, _⟩ := h; rfl) fun cdv A outer s H E hr => ⟨_, (pss_one (ps_ret (pe_and (pe_call (ok_is_integer G) (hr.mono (by first | exact Nat.le_refl _ | decide)) (by rfl) G.g_is_integer G.F_is_integer.kp G.B_is_integer .nil pass0 (pa_cons (pv 0) pa_nil)) (pe_one (pe_chain op_le op_le (pv 1) (pv 0) (pv 2)))))), fun ds M Φ h => ?_⟩
  try dsimp only [cxOf, L2.Cx.nox, L2.Cx.wish]
  obtain ⟨i, a, b, rfl, q⟩ := h
  repeat walk_at "dl"
  refine ⟨i, rfl, ?_⟩
  repeat walk_at "dl"
  refine dite_bl (fun h1 => ?_) (fun h1 => ?_)
  · repeat walk_at "dl"
    have e : decide (i ≤ b) = decide (a ≤ i ∧ i ≤ b) := by simp [h1]
    rw [e]
    exact q
  · have e : false = decide (a ≤ i ∧ i ≤ b) := by simp [h1]
    rw [e]
    exact q
def S_is_list : SpD := fun ds M Φ => ∃ x n, ds = [x] ∧ TN M x n ∧ (n = "list" ∧ Φ (.bl true) M)
include G in
theorem ok_is_list : FnOk P w K mg base CX0 1 G.f_is_list G.d_is_list ["thing"] (spOf K S_is_list) := by
  refine def_ok G.F_is_list sc_is_list (fun ds M Φ h => by obtain ⟨_, _, rfl, _⟩ := h; rfl) fun cdv A outer s H E hr => ⟨_, (pss_one (ps_ret (pe_callB (call_isiK (K := K) rfl) (by rfl) G.b_isinstance boot_isinstance (pa_cons (pv 0) (pa_cons (pe_tup (pa_cons (pe_bltn (v := .ty "list") (by rfl) G.b_list boot_list rfl) (pa_cons (pe_bltn (v := .ty "tuple") (by rfl) G.b_tuple boot_tuple rfl) pa_nil))) pa_nil))))), fun ds M Φ h => ?_⟩
  try dsimp only [cxOf, L2.Cx.nox, L2.Cx.wish]
  obtain ⟨x, n, rfl, t, rfl, q⟩ := h
  repeat walk_at "dl"
  refine ev_own (en_tup ?_)
  repeat walk_at "dl"
  refine ⟨by decide, fun p => ?_⟩
  repeat walk_at "dl"
  refine rc_inr (rc_isiT x "list" ["list", "tuple"] true M rfl rfl t.cons (by decide +kernel) ?_)
  exact q
/-- a series: short, small -/
def Ser (ns : List Int) : Prop := ns.length ≤ 30 ∧ ∀ n ∈ ns, -1000000 ≤ n ∧ n ≤ 1000000
def S_is_series : SpD := fun ds M Φ => ∃ ns : List Int, ds = [LI ns] ∧ Ser ns ∧ Φ (.bl true) M
include G in
theorem ok_is_series : FnOk P w K mg base CX0 3 G.f_is_series G.d_is_series ["thing"] (spOf K S_is_series) := by
  refine def_ok G.F_is_series sc_is_series (fun ds M Φ h => by obtain ⟨_, rfl, _⟩ := h; rfl) fun cdv A outer s H E hr => ⟨_, (pss_cons (ps_if (PW.pt (pw_or (pt_not (pt_val (pe_call (ok_is_list G) (hr.mono (by first | exact Nat.le_refl _ | decide)) (by rfl) G.g_is_list G.F_is_list.kp G.B_is_list .nil pass0 (pa_cons (pv 0) pa_nil)))) (pw_or1 (pt_cmpR op_gt (pe_callB (call_lenK (K := K) rfl) (by rfl) G.b_len boot_len (pa_cons (pv 0) pa_nil)) (pe_glob (v := .int 30) (by rfl) G.c_THIRTY ⟨_, rfl⟩) (nomark _)))))
(pss_one ps_never)
pss_nil)
(pss_one (ps_ret (pe_callB (cr_allK (K := K) rfl rfl) (by rfl) G.b_all boot_all (pa_cons (pe_lc (own := [("one", 1)]) (g := (gName 1)) (tt := tYes) rfl sc_is_series.nd (pi_listK (K := K) rfl (pv 0)) (blkOk_by (N := n_is_series) (sc := defScope s_is_series) (by decide +kernel)) (fun _ _ _ _ _ => (pg_name (i := 1) sc_is_series.nd rfl (by first | exact .inl rfl | exact .inr rfl))) (fun _ _ _ _ _ => pts_nil) (fun _ _ _ _ _ => (pe_call (ok_is_between G) (hr.mono (by first | exact Nat.le_refl _ | decide)) (by rfl) G.g_is_between G.F_is_between.kp G.B_is_between .nil pass0 (pa_cons (pv 1) (pa_cons (pe_op op_sub pe_int (pe_glob (v := .int 1000000) (by rfl) G.c_MILLION ⟨_, rfl⟩)) (pa_cons (pe_glob (v := .int 1000000) (by rfl) G.c_MILLION ⟨_, rfl⟩) pa_nil)))))) pa_nil))))), fun ds M Φ h => ?_⟩
  try dsimp only [cxOf, L2.Cx.nox, L2.Cx.wish]
  obtain ⟨ns, rfl, hs, q⟩ := h
  repeat walk_at "dl"
  refine ⟨LI ns, "list", rfl, .lst _, rfl, ?_⟩
  repeat walk_at "dl"
  refine rc_len (LI ns) ns.length rfl ln_LI ?_
  repeat walk_at "dl"
  have e : decide ((30 : Int) < (ns.length : Int)) = false := decide_eq_false (by have := hs.1; omega)
  rw [e]
  repeat walk_at "dl"
  refine ev_frz (en_map (ei_list ?_))
  repeat walk_at "dl"
  refine ⟨ns.map .int, .inl rfl, by rw [List.length_map]; have := hs.1; omega, (ns.map fun _ => D.bl true), by rw [List.length_map, List.length_map], fun i d hx => eg_name' ?_, ?_⟩
  · rw [List.getElem?_map] at hx
    cases hn : ns[i]? with
    | none => rw [hn] at hx; cases hx
    | some n =>
      rw [hn] at hx
      cases hx
      repeat walk_at "dl"
      refine ⟨n, -1000000, 1000000, rfl, ?_, rfl⟩
      have := hs.2 n (List.mem_of_getElem? hn)
      rw [List.getElem?_map, hn, decide_eq_true (show -1000000 ≤ n ∧ n ≤ 1000000 from this)]
      rfl
  · repeat walk_at "dl"
    refine rc_all (.lst (ns.map fun _ => D.bl true)) (ns.map fun _ => true) rfl ?_ ?_
    · have := LQ.lst (M := M) (ns.map fun _ => D.bl true)
      rw [List.map_map]
      exact this
    · have e : (ns.map fun _ => true).all id = true := by
        rw [List.all_map]
        exact List.all_eq_true.mpr fun _ _ => rfl
      rw [e]
      exact q
def S_check_series : SpD := fun ds M Φ => ∃ ns : List Int, ds = [LI ns] ∧ Ser ns ∧ Φ .non M
include G in
theorem ok_check_series : FnOk P w K mg base CX0 4 G.f_check_series G.d_check_series ["series"] (spOf K S_check_series) := by
  refine def_ok G.F_check_series sc_check_series (fun ds M Φ h => by obtain ⟨_, rfl, _⟩ := h; rfl) fun cdv A outer s H E hr => ⟨_, (pss_one (ps_if (pt_not (pt_val (pe_call (ok_is_series G) (hr.mono (by first | exact Nat.le_refl _ | decide)) (by rfl) G.g_is_series G.F_is_series.kp G.B_is_series .nil pass0 (pa_cons (pv 0) pa_nil))))
(pss_one ps_never)
pss_nil)), fun ds M Φ h => ?_⟩
  try dsimp only [cxOf, L2.Cx.nox, L2.Cx.wish]
  obtain ⟨ns, rfl, hs, q⟩ := h
  repeat walk_at "dl"
  refine ⟨ns, rfl, hs, ?_⟩
  repeat walk_at "dl"
  exact q
/-- what choice_rows tells -/
def rowsD (n : Nat) : List D := (List.range n).map fun i => LI (rowOf i)
theorem rowsD_length (n : Nat) : (rowsD n).length = n := by
  unfold rowsD
  rw [List.length_map, List.length_range]
theorem rowsD_get {n i : Nat} (h : i < n) : (rowsD n)[i]? = some (LI (rowOf i)) := by
  unfold rowsD
  rw [List.getElem?_map, List.getElem?_range h]
  rfl
theorem rowsD_succ (n : Nat) : rowsD (n + 1) = rowsD n ++ [LI (rowOf n)] := by
  unfold rowsD
  rw [List.range_succ, List.map_append]
  rfl
def S_choice_rows : SpD := fun ds M Φ => ∃ n : Nat, ds = [.int n] ∧ n ≤ 60 ∧ Φ (.lst (rowsD (n + 1))) M
include G in
theorem ok_choice_rows : FnOk P w K mg base CX0 1 G.f_choice_rows G.d_choice_rows ["many"] (spOf K S_choice_rows) := by
  refine def_ok G.F_choice_rows sc_choice_rows (fun ds M Φ h => by obtain ⟨_, rfl, _⟩ := h; rfl) fun cdv A outer s H E hr => ⟨_, (pss_cons (ps_set (i := 1) sc_choice_rows.nd rfl (by first | exact .inl rfl | exact .inr rfl) (pe_lst (pa_cons (pe_lst (pa_cons pe_int pa_nil)) pa_nil)))
(pss_cons (ps_for PassesOwn.never rfl (pi_range1 (by rfl) G.b_range (pa_cons (pv 0) pa_nil)) (pg_name (i := 2) sc_choice_rows.nd rfl (by first | exact .inl rfl | exact .inr rfl))
(pss_cons (ps_set (i := 3) sc_choice_rows.nd rfl (by first | exact .inl rfl | exact .inr rfl) (pe_ix (ix_seqK (K := K) rfl) (pv 1) (pe_un un_neg pe_int) (fun _ _ => rfl)))
(pss_one (ps_expr (pe_bmK (K := K) rfl PySem.F.plainAttrs_list PySem.F.slot_list_append PySem.F.type_list_append mt_append (pv 1) (pa_cons (pe_lst (pa_cons pe_int (pa_starK (K := K) rfl (pe_lc (own := [("index", 4)]) (g := (gName 4)) (tt := tYes) rfl sc_choice_rows.nd (pi_range2 (by rfl) G.b_range (pa_cons pe_int (pa_cons (pe_callB (call_lenK (K := K) rfl) (by rfl) G.b_len boot_len (pa_cons (pv 3) pa_nil)) pa_nil))) (blkOk_by (N := n_choice_rows) (sc := defScope s_choice_rows) (by decide +kernel)) (fun _ _ _ _ _ => (pg_name (i := 4) sc_choice_rows.nd rfl (by first | exact .inl rfl | exact .inr rfl))) (fun _ _ _ _ _ => pts_nil) (fun _ _ _ _ _ => (pe_op (op_addK (K := K) rfl) (pe_ix (ix_seqK (K := K) rfl) (pv 3) (pe_op op_sub (pv 4) pe_int) (fun _ _ => rfl)) (pe_ix (ix_seqK (K := K) rfl) (pv 3) (pv 4) (fun _ _ => rfl))))) (pa_cons pe_int pa_nil)))) pa_nil))))))
(pss_one (ps_ret (pv 1))))), fun ds M Φ h => ?_⟩
  try dsimp only [cxOf, L2.Cx.nox, L2.Cx.wish]
  obtain ⟨n, rfl, hn, q⟩ := h
  repeat walk_at "dl"
  refine ev_own (en_lst ?_)
  repeat walk_at "dl"
  refine ev_frz (en_lst ?_)
  repeat walk_at "dl"
  refine ⟨by decide, ?_⟩
  repeat walk_at "dl"
  refine ⟨by decide, fun p => ?_⟩
  repeat walk_at "dl"
  refine zs_for [2] (ei_rng1 ?_)
  repeat walk_at "dl"
  refine ⟨by omega, by omega, fun i Γ' M' => Γ' = [some (.int n), some (.ptr p), none, none, none] ∧ M' = (p, .lst (rowsD (i + 1))) :: M, ⟨_, .s (.s (.n (.n (.n .nil)))), rfl, rfl⟩, fun i d Γ' M' hx hC => ?_, ?_⟩
  · obtain ⟨rfl, rfl⟩ := hC
    obtain ⟨hi, rfl⟩ := rngD_get hx
    refine eg_name' ?_
    repeat walk_at "dl"
    refine r2_ixL (-1) (.own (.head _)) rfl (by rw [rowsD_succ]; exact atI_last _ _) ?_
    repeat walk_at "dl"
    refine ev_frz (en_lst ?_)
    repeat walk_at "dl"
    refine ev_frz (en_map (ei_rng2 ?_))
    repeat walk_at "dl"
    refine rc_len (LI (rowOf i)) (i + 1) rfl (ln_of (.lst _) (by rw [List.length_map, rowOf_length])) ?_
    repeat walk_at "dl"
    refine ⟨1, ((i + 1 : Nat) : Int), rfl, by omega, ?_⟩
    have e1 : (((i + 1 : Nat) : Int) - 1).toNat = i := by omega
    rw [e1]
    refine ⟨by rw [rngD_length]; omega, ((List.range i).map fun k => ch i k + ch i (k + 1)).map .int, by rw [List.length_map, List.length_map, List.length_range, rngD_length], fun k d hk => eg_name' ?_, ?_⟩
    · obtain ⟨hk2, rfl⟩ := rngD_get hk
      repeat walk_at "dl"
      refine r2_ixL _ (.lst _) rfl (atI_of (k := k) (by omega) (by rw [List.getElem?_map, rowOf_get (by omega)]; rfl)) ?_
      repeat walk_at "dl"
      refine r2_ixL _ (.lst _) rfl (atI_of (k := k + 1) (by omega) (by rw [List.getElem?_map, rowOf_get (by omega)]; rfl)) ?_
      repeat walk_at "dl"
      refine ⟨?_, rfl⟩
      rw [List.getElem?_map, List.getElem?_map, List.getElem?_range hk2]
      rfl
    · repeat walk_at "dl"
      refine ⟨by simp; omega, ?_⟩
      repeat walk_at "dl"
      refine rm_append (ds := rowsD (i + 1)) 0 _ rfl rfl rfl (by rw [rowsD_length]; omega) ?_
      refine ⟨_, .s (.s (.n (.n (.n .nil)))), rfl, ?_⟩
      rw [rowsD_succ (i + 1), rowOf_succ i]
      show (p, _) :: M = (p, _) :: M
      rw [LI]
      simp [O.d]
  · rintro Γ' M' ⟨rfl, rfl⟩
    refine zs_ret (ev_letgo 0 rfl rfl ?_)
    rw [rngD_length]
    exact q
end
end K30


set_option Elab.async false
set_option linter.all false
set_option maxRecDepth 100000
set_option maxHeartbeats 4000000
namespace K30
open PySem PySem.Spec PyProof.Rows L2 StX DL
local macro_rules | `(tactic| walk_at "dl") => `(tactic| with_reducible first
  | refine zs_seq ?_ | refine zs_set ?_ | refine zs_drop ?_ | refine zs_ret ?_ | refine zs_if ?_ | refine zs_next ?_ | refine zs_par ?_
  | refine ev_int ?_ | refine ev_bl ?_ | refine ev_str ?_ | refine ev_non ?_ | refine ev_ty ?_
  | refine ev_op ?_ | refine ev_un ?_ | refine ev_cb ?_ | refine ev_call ?_ | refine ea_cons ?_ | refine ea_nil ?_
  | refine ev_andV ?_ | refine ev_orV ?_ | refine ev_notV ?_ | refine ev_ifx ?_ | refine ev_chain ?_ | refine ev_sl ?_ | refine eo_none ?_ | refine eo_some ?_
  | refine et_test ?_ | refine et_B ?_ | refine et_and ?_ | refine et_or ?_ | refine et_not ?_ | refine et_yes ?_
  | refine r2_add _ _ rfl rfl ?_ | refine r2_sub _ _ rfl rfl ?_ | refine r2_lt _ _ rfl rfl ?_ | refine r2_le _ _ rfl rfl ?_ | refine r2_gt _ _ rfl rfl ?_ | refine r2_ge _ _ rfl rfl ?_
  | refine r1_neg _ rfl ?_ | refine ev_bm ?_ | refine ev_bm0 ?_ | refine ⟨dty0, ?_⟩ | refine ⟨dty1, ?_⟩ | refine ⟨dty2, ?_⟩ | refine ⟨_, SQ.lst _, ?_⟩ | refine ⟨_, sq0, ?_⟩ | refine ⟨_, sq1, ?_⟩ | refine ea_star ?_
  | refine ⟨_, rfl, ?_⟩ | refine iteT ?_ | refine iteF ?_ | refine iteNT ?_ | refine iteNF ?_)
local macro_rules | `(tactic| walk_at "dl") => `(tactic| ((with_reducible refine' ev_var ?hv ?_); (case hv => rfl)))
local macro_rules | `(tactic| walk_at "gle") => `(tactic| repeat (first | exact GLe.nil | apply GLe.s | apply GLe.n))
section
variable {P : Program} {w : World} {K : PySem.W.Frag} {mg : Str → Option Value} {base : Heap} (G : Glb K mg)
theorem cm_l {i j : Int} (h : -(2 ^ 64) < i ∧ i < 2 ^ 64) : CMul i j := .inl h
theorem cm_r {i j : Int} (h : -(2 ^ 64) < j ∧ j < 2 ^ 64) : CMul i j := .inr h
theorem Ser.at {ns : List Int} (h : Ser ns) {k : Nat} (hk : k < ns.length) : -1000000 ≤ ns.getD k 0 ∧ ns.getD k 0 ≤ 1000000 := h.2 _ (getD_mem hk)
theorem ser_one {ns : List Int} (h : Ser ns) {k : Nat} (hk : k ≤ ns.length) : -1000000 ≤ (1 :: ns).getD k 0 ∧ (1 :: ns).getD k 0 ≤ 1000000 := by
  cases k with
  | zero => exact ⟨(by decide : (-1000000 : Int) ≤ 1), (by decide : (1 : Int) ≤ 1000000)⟩
  | succ k => exact h.at hk
theorem atI_i {ns : List Int} {i : Int} {k : Nat} (e : i = (k : Int)) (h : k < ns.length) : atI (ns.map D.int) i = some (.int (ns.getD k 0)) := by
  rw [e]
  exact atI_ints (getD_at h)
def S_grown : SpD := fun ds M Φ => ∃ ns : List Int, ds = [LI ns] ∧ Ser ns ∧ Φ (LI (grownT ns)) M
include G in
theorem ok_grown : FnOk P w K mg base CX0 5 G.f_grown G.d_grown ["series"] (spOf K S_grown) := by
  refine def_ok G.F_grown sc_grown (fun ds M Φ h => by obtain ⟨_, rfl, _⟩ := h; rfl) fun cdv A outer s H E hr => ⟨_, (pss_cons (ps_expr (pe_call (ok_check_series G) (hr.mono (by first | exact Nat.le_refl _ | decide)) (by rfl) G.g_check_series G.F_check_series.kp G.B_check_series .nil pass0 (pa_cons (pv 0) pa_nil)))
(pss_cons (ps_set (i := 1) sc_grown.nd rfl (by first | exact .inl rfl | exact .inr rfl) (pe_call (ok_choice_rows G) (hr.mono (by first | exact Nat.le_refl _ | decide)) (by rfl) G.g_choice_rows G.F_choice_rows.kp G.B_choice_rows .nil pass0 (pa_cons (pe_callB (call_lenK (K := K) rfl) (by rfl) G.b_len boot_len (pa_cons (pv 0) pa_nil)) pa_nil)))
(pss_cons (ps_set (i := 2) sc_grown.nd rfl (by first | exact .inl rfl | exact .inr rfl) (pe_lst (pa_cons pe_int pa_nil)))
(pss_cons (ps_for PassesOwn.never rfl (pi_range2 (by rfl) G.b_range (pa_cons pe_int (pa_cons (pe_op (op_addK (K := K) rfl) (pe_callB (call_lenK (K := K) rfl) (by rfl) G.b_len boot_len (pa_cons (pv 0) pa_nil)) pe_int) pa_nil))) (pg_name (i := 3) sc_grown.nd rfl (.inr rfl))
(pss_cons (ps_set (i := 4) sc_grown.nd rfl (by first | exact .inl rfl | exact .inr rfl) (pe_ix (ix_seqK (K := K) rfl) (pv 1) (pe_op op_sub (pv 3) pe_int) (fun _ _ => rfl)))
(pss_one (ps_expr (pe_bmK (K := K) rfl PySem.F.plainAttrs_list PySem.F.slot_list_append PySem.F.type_list_append mt_append (pv 2) (pa_cons (pe_callB (cr_sumK (K := K) rfl rfl) (by rfl) G.b_sum boot_sum (pa_cons (pe_lc (own := [("size", 5)]) (g := (gName 5)) (tt := tYes) rfl sc_grown.nd (pi_range2 (by rfl) G.b_range (pa_cons pe_int (pa_cons (pe_op (op_addK (K := K) rfl) (pv 3) pe_int) pa_nil))) (blkOk_by (N := n_grown) (sc := defScope s_grown) (by decide +kernel)) (fun _ _ _ _ _ => (pg_name (i := 5) sc_grown.nd rfl (by first | exact .inl rfl | exact .inr rfl))) (fun _ _ _ _ _ => pts_nil) (fun _ _ _ _ _ => (pe_op op_mulA (pe_op op_mulA (pe_ix (ix_seqK (K := K) rfl) (pv 4) (pe_op op_sub (pv 5) pe_int) (fun _ _ => rfl)) (pe_ix (ix_seqK (K := K) rfl) (pv 0) (pe_op op_sub (pv 5) pe_int) (fun _ _ => rfl))) (pe_ix (ix_seqK (K := K) rfl) (pv 2) (pe_op op_sub (pv 3) (pv 5)) (fun _ _ => rfl))))) pa_nil)) pa_nil))))))
(pss_one (ps_ret (pe_slice (sl_anyK (K := K) rfl) (pv 2) (po_some pe_int) po_none))))))), fun ds M Φ h => ?_⟩
  try dsimp only [cxOf, L2.Cx.nox, L2.Cx.wish]
  obtain ⟨a, rfl, hs, q⟩ := h
  have hl := hs.1
  repeat walk_at "dl"
  refine ⟨a, rfl, hs, ?_⟩
  repeat walk_at "dl"
  refine rc_len (LI a) a.length rfl ln_LI ?_
  repeat walk_at "dl"
  refine ⟨a.length, rfl, by omega, ?_⟩
  repeat walk_at "dl"
  refine ev_own (en_lst ?_)
  repeat walk_at "dl"
  refine ⟨by decide, fun p => ?_⟩
  repeat walk_at "dl"
  refine zs_for [3] (ei_rng2 ?_)
  repeat walk_at "dl"
  refine rc_len (LI a) a.length rfl ln_LI ?_
  repeat walk_at "dl"
  have e1 : ((a.length : Int) + 1 - 1).toNat = a.length := by omega
  refine ⟨1, (a.length : Int) + 1, rfl, by omega, ?_⟩
  rw [e1]
  refine ⟨fun i Γ' M' => Γ' = [some (LI a), some (.lst (rowsD (a.length + 1))), some (.ptr p), none, none, none] ∧ M' = (p, .lst ((grownL a i).map .int)) :: M, ⟨_, .s (.s (.s (.n (.n (.n .nil))))), rfl, rfl⟩, fun i d Γ' M' hx hC => ?_, ?_⟩
  · obtain ⟨rfl, rfl⟩ := hC
    obtain ⟨hi, rfl⟩ := rngD_get hx
    refine eg_name' ?_
    repeat walk_at "dl"
    refine r2_ixL _ (.lst _) rfl (atI_of (k := i) (by omega) (rowsD_get (by omega))) ?_
    repeat walk_at "dl"
    refine ev_frz (en_map (ei_rng2 ?_))
    repeat walk_at "dl"
    have e2 : ((1 : Int) + (i : Int) + 1 - 1).toNat = i + 1 := by omega
    refine ⟨1, (1 : Int) + (i : Int) + 1, rfl, by omega, ?_⟩
    rw [e2]
    refine ⟨by rw [rngD_length]; omega, ((List.range (i + 1)).map fun k => ch i k * a.getD k 0 * (grownL a i).getD (i - k) 0).map .int, by rw [List.length_map, List.length_map, List.length_range, rngD_length], fun k d hk => eg_name' ?_, ?_⟩
    · obtain ⟨hk2, rfl⟩ := rngD_get hk
      have b1 : 0 ≤ ch i k ∧ ch i k ≤ 2 ^ 30 := ⟨ch_nn i k, Int.le_trans (ch_le i k) (by have : (2 : Nat) ^ i ≤ 2 ^ 30 := Nat.pow_le_pow_right (by decide) (by omega); exact_mod_cast this)⟩
      have b2 := hs.at (k := k) (by omega)
      have b3 := mul_bd b1.1 b1.2 b2.1 b2.2
      repeat walk_at "dl"
      refine r2_ixL _ (.lst _) rfl (atI_of (k := k) (by omega) (by rw [List.getElem?_map, rowOf_get (by omega)]; rfl)) ?_
      repeat walk_at "dl"
      refine r2_ixL _ (.lst _) rfl (atI_i (k := k) (by omega) (by omega)) ?_
      repeat walk_at "dl"
      refine r2_mul _ _ rfl rfl (cm_l ⟨by omega, by omega⟩) ?_
      repeat walk_at "dl"
      refine r2_ixL _ lq0 rfl (atI_i (k := i - k) (by omega) (by rw [grownL_length]; omega)) ?_
      repeat walk_at "dl"
      refine r2_mul _ _ rfl rfl (cm_l ⟨by omega, by omega⟩) ?_
      refine ⟨?_, rfl⟩
      rw [List.getElem?_map, List.getElem?_map, List.getElem?_range hk2]
      rfl
    · repeat walk_at "dl"
      refine rc_sum _ _ rfl (.lst _) ?_
      repeat walk_at "dl"
      refine rm_append (ds := (grownL a i).map .int) 0 _ rfl rfl rfl (by rw [List.length_map, grownL_length]; omega) ?_
      refine ⟨_, .s (.s (.s (.n (.n (.n .nil))))), rfl, ?_⟩
      rw [grownL, List.map_append]
      rfl
  · rintro Γ' M' ⟨rfl, rfl⟩
    rw [rngD_length]
    refine es_letgo 2 0 rfl rfl ?_
    repeat walk_at "dl"
    refine rs_frz (rs_list (.lst _) ?_)
    have e3 : DL.cutD ((grownL a a.length).map .int) (some 1) none = (grownT a).map .int := by
      unfold grownT
      rw [show ((1 : Int)) = ((1 : Nat) : Int) from rfl, cutD_from (by rw [List.length_map, grownL_length]; omega), List.map_drop]
    show Φ (.lst (DL.cutD ((grownL a a.length).map .int) (some 1) none)) M
    rw [e3]
    exact q
def S_ungrown : SpD := fun ds M Φ => ∃ ns : List Int, ds = [LI ns] ∧ Ser ns ∧ Φ (LI (ungrownT ns)) M
include G in
theorem ok_ungrown : FnOk P w K mg base CX0 5 G.f_ungrown G.d_ungrown ["series"] (spOf K S_ungrown) := by
  refine def_ok G.F_ungrown sc_ungrown (fun ds M Φ h => by obtain ⟨_, rfl, _⟩ := h; rfl) fun cdv A outer s H E hr => ⟨_, (pss_cons (ps_expr (pe_call (ok_check_series G) (hr.mono (by first | exact Nat.le_refl _ | decide)) (by rfl) G.g_check_series G.F_check_series.kp G.B_check_series .nil pass0 (pa_cons (pv 0) pa_nil)))
(pss_cons (ps_set (i := 1) sc_ungrown.nd rfl (by first | exact .inl rfl | exact .inr rfl) (pe_call (ok_choice_rows G) (hr.mono (by first | exact Nat.le_refl _ | decide)) (by rfl) G.g_choice_rows G.F_choice_rows.kp G.B_choice_rows .nil pass0 (pa_cons (pe_callB (call_lenK (K := K) rfl) (by rfl) G.b_len boot_len (pa_cons (pv 0) pa_nil)) pa_nil)))
(pss_cons (ps_set (i := 2) sc_ungrown.nd rfl (by first | exact .inl rfl | exact .inr rfl) (pe_lst (pa_cons pe_int (pa_starK (K := K) rfl (pv 0) pa_nil))))
(pss_cons (ps_set (i := 3) sc_ungrown.nd rfl (by first | exact .inl rfl | exact .inr rfl) (pe_lst pa_nil))
(pss_cons (ps_for PassesOwn.never rfl (pi_range2 (by rfl) G.b_range (pa_cons pe_int (pa_cons (pe_op (op_addK (K := K) rfl) (pe_callB (call_lenK (K := K) rfl) (by rfl) G.b_len boot_len (pa_cons (pv 0) pa_nil)) pe_int) pa_nil))) (pg_name (i := 4) sc_ungrown.nd rfl (.inr rfl))
(pss_cons (ps_set (i := 5) sc_ungrown.nd rfl (by first | exact .inl rfl | exact .inr rfl) (pe_ix (ix_seqK (K := K) rfl) (pv 1) (pe_op op_sub (pv 4) pe_int) (fun _ _ => rfl)))
(pss_cons (ps_setLc (i := 6) (own := [("size", 7)]) (g := (gName 7)) (tt := tYes) rfl sc_ungrown.nd rfl rfl (sw_true rfl rfl rfl (by decide +kernel)) (pi_range2 (by rfl) G.b_range (pa_cons pe_int (pa_cons (pv 4) pa_nil))) (blkOk_by (N := n_ungrown) (sc := defScope s_ungrown) (by decide +kernel)) (fun _ _ _ _ _ => (pg_name (i := 7) sc_ungrown.nd rfl (by first | exact .inl rfl | exact .inr rfl))) (fun _ _ _ _ _ => pts_nil) (fun _ _ _ _ _ => (pe_op op_mulA (pe_op op_mulA (pe_ix (ix_seqK (K := K) rfl) (pv 5) (pe_op op_sub (pv 7) pe_int) (fun _ _ => rfl)) (pe_ix (ix_seqK (K := K) rfl) (pv 3) (pe_op op_sub (pv 7) pe_int) (fun _ _ => rfl))) (pe_ix (ix_seqK (K := K) rfl) (pv 2) (pe_op op_sub (pv 4) (pv 7)) (fun _ _ => rfl)))))
(pss_one (ps_expr (pe_bmK (K := K) rfl PySem.F.plainAttrs_list PySem.F.slot_list_append PySem.F.type_list_append mt_append (pv 3) (pa_cons (pe_op op_sub (pe_ix (ix_seqK (K := K) rfl) (pv 0) (pe_op op_sub (pv 4) pe_int) (fun _ _ => rfl)) (pe_callB (cr_sumK (K := K) rfl rfl) (by rfl) G.b_sum boot_sum (pa_cons (pv 6) pa_nil))) pa_nil)))))))
(pss_one (ps_ret (pv 3)))))))), fun ds M Φ h => ?_⟩
  try dsimp only [cxOf, L2.Cx.nox, L2.Cx.wish]
  obtain ⟨a, rfl, hs, q⟩ := h
  have hl := hs.1
  repeat walk_at "dl"
  refine ⟨a, rfl, hs, ?_⟩
  repeat walk_at "dl"
  refine rc_len (LI a) a.length rfl ln_LI ?_
  repeat walk_at "dl"
  refine ⟨a.length, rfl, by omega, ?_⟩
  repeat walk_at "dl"
  refine ev_frz (en_lst ?_)
  repeat walk_at "dl"
  refine ⟨by simp; omega, ?_⟩
  repeat walk_at "dl"
  refine ev_own (en_lst ?_)
  repeat walk_at "dl"
  refine ⟨by decide, fun p => ?_⟩
  repeat walk_at "dl"
  refine zs_for [4] (ei_rng2 ?_)
  repeat walk_at "dl"
  refine rc_len (LI a) a.length rfl ln_LI ?_
  repeat walk_at "dl"
  have e1 : ((a.length : Int) + 1 - 1).toNat = a.length := by omega
  refine ⟨1, (a.length : Int) + 1, rfl, by omega, ?_⟩
  rw [e1]
  refine ⟨fun i Γ' M' => Γ' = [some (LI a), some (.lst (rowsD (a.length + 1))), some (LI (1 :: a)), some (.ptr p), none, none, none, none] ∧ M' = (p, .lst ((ungrownL a i).map .int)) :: M, ⟨_, .s (.s (.s (.s (.n (.n (.n (.n .nil))))))), by simp [O.d], rfl⟩, fun i d Γ' M' hx hC => ?_, ?_⟩
  · obtain ⟨rfl, rfl⟩ := hC
    obtain ⟨hi, rfl⟩ := rngD_get hx
    refine eg_name' ?_
    repeat walk_at "dl"
    refine r2_ixL _ (.lst _) rfl (atI_of (k := i) (by omega) (rowsD_get (by omega))) ?_
    repeat walk_at "dl"
    refine ev_frz (en_map (ei_rng2 ?_))
    repeat walk_at "dl"
    have e2 : ((1 : Int) + (i : Int) - 1).toNat = i := by omega
    refine ⟨1, (1 : Int) + (i : Int), rfl, by omega, ?_⟩
    rw [e2]
    refine ⟨by rw [rngD_length]; omega, ((List.range i).map fun k => ch i k * (ungrownL a i).getD k 0 * (1 :: a).getD (i - k) 0).map .int, by rw [List.length_map, List.length_map, List.length_range, rngD_length], fun k d hk => eg_name' ?_, ?_⟩
    · obtain ⟨hk2, rfl⟩ := rngD_get hk
      have b2 := ser_one hs (k := i - k) (by omega)
      repeat walk_at "dl"
      refine r2_ixL _ (.lst _) rfl (atI_of (k := k) (by omega) (by rw [List.getElem?_map, rowOf_get (by omega)]; rfl)) ?_
      repeat walk_at "dl"
      refine r2_ixL _ lq0 rfl (atI_i (k := k) (by omega) (by rw [ungrownL_length]; omega)) ?_
      repeat walk_at "dl"
      refine r2_mul _ _ rfl rfl (cm_l (ch_lt (by omega))) ?_
      repeat walk_at "dl"
      refine r2_ixL _ (.lst _) rfl (atI_i (k := i - k) (by omega) (by rw [List.length_cons]; omega)) ?_
      repeat walk_at "dl"
      refine r2_mul _ _ rfl rfl (cm_r ⟨by omega, by omega⟩) ?_
      refine ⟨?_, rfl⟩
      rw [List.getElem?_map, List.getElem?_map, List.getElem?_range hk2]
      rfl
    · repeat walk_at "dl"
      refine r2_ixL _ (.lst _) rfl (atI_i (k := i) (by omega) (by omega)) ?_
      repeat walk_at "dl"
      refine rc_sum _ _ rfl (.lst _) ?_
      repeat walk_at "dl"
      refine rm_append (ds := (ungrownL a i).map .int) 0 _ rfl rfl rfl (by rw [List.length_map, ungrownL_length]; omega) ?_
      refine ⟨_, .s (.s (.s (.s (.n (.n (.n (.n .nil))))))), rfl, ?_⟩
      rw [ungrownL, List.map_append]
      rfl
  · rintro Γ' M' ⟨rfl, rfl⟩
    rw [rngD_length]
    refine zs_ret (ev_letgo 0 rfl rfl ?_)
    exact q
def S_blended : SpD := fun ds M Φ => ∃ a b : List Int, ds = [LI a, LI b] ∧ Ser a ∧ Ser b ∧ Φ (LI (blendT a b)) M
include G in
theorem ok_blended : FnOk P w K mg base CX0 5 G.f_blended G.d_blended ["series", "other"] (spOf K S_blended) := by
  refine def_ok G.F_blended sc_blended (fun ds M Φ h => by obtain ⟨_, _, rfl, _⟩ := h; rfl) fun cdv A outer s H E hr => ⟨_, (pss_cons (ps_expr (pe_call (ok_check_series G) (hr.mono (by first | exact Nat.le_refl _ | decide)) (by rfl) G.g_check_series G.F_check_series.kp G.B_check_series .nil pass0 (pa_cons (pv 0) pa_nil)))
(pss_cons (ps_expr (pe_call (ok_check_series G) (hr.mono (by first | exact Nat.le_refl _ | decide)) (by rfl) G.g_check_series G.F_check_series.kp G.B_check_series .nil pass0 (pa_cons (pv 1) pa_nil)))
(pss_cons (ps_set (i := 2) sc_blended.nd rfl (by first | exact .inl rfl | exact .inr rfl) (pe_callB (call_min2 rfl) (by rfl) G.b_min boot_min (pa_cons (pe_callB (call_lenK (K := K) rfl) (by rfl) G.b_len boot_len (pa_cons (pv 0) pa_nil)) (pa_cons (pe_callB (call_lenK (K := K) rfl) (by rfl) G.b_len boot_len (pa_cons (pv 1) pa_nil)) pa_nil))))
(pss_cons (ps_set (i := 3) sc_blended.nd rfl (by first | exact .inl rfl | exact .inr rfl) (pe_call (ok_choice_rows G) (hr.mono (by first | exact Nat.le_refl _ | decide)) (by rfl) G.g_choice_rows G.F_choice_rows.kp G.B_choice_rows .nil pass0 (pa_cons (pv 2) pa_nil)))
(pss_cons (ps_asg (pe_tup (pa_cons (pe_lst (pa_cons pe_int (pa_starK (K := K) rfl (pv 0) pa_nil))) (pa_cons (pe_lst (pa_cons pe_int (pa_starK (K := K) rfl (pv 1) pa_nil))) pa_nil))) (pg_tupK (K := K) rfl rfl (pgs_cons (pg_name (i := 6) sc_blended.nd rfl (.inr rfl)) (pgs_cons (pg_name (i := 7) sc_blended.nd rfl (.inr rfl)) pgs_nil))))
(pss_cons (ps_set (i := 4) sc_blended.nd rfl (by first | exact .inl rfl | exact .inr rfl) (pe_lst pa_nil))
(pss_cons (ps_for PassesOwn.never rfl (pi_range2 (by rfl) G.b_range (pa_cons pe_int (pa_cons (pe_op (op_addK (K := K) rfl) (pv 2) pe_int) pa_nil))) (pg_name (i := 5) sc_blended.nd rfl (.inr rfl))
(pss_one (ps_expr (pe_bmK (K := K) rfl PySem.F.plainAttrs_list PySem.F.slot_list_append PySem.F.type_list_append mt_append (pv 4) (pa_cons (pe_callB (cr_sumK (K := K) rfl rfl) (by rfl) G.b_sum boot_sum (pa_cons (pe_lc (own := [("size", 8)]) (g := (gName 8)) (tt := tYes) rfl sc_blended.nd (pi_range1 (by rfl) G.b_range (pa_cons (pe_op (op_addK (K := K) rfl) (pv 5) pe_int) pa_nil)) (blkOk_by (N := n_blended) (sc := defScope s_blended) (by decide +kernel)) (fun _ _ _ _ _ => (pg_name (i := 8) sc_blended.nd rfl (by first | exact .inl rfl | exact .inr rfl))) (fun _ _ _ _ _ => pts_nil) (fun _ _ _ _ _ => (pe_op op_mulA (pe_op op_mulA (pe_ix (ix_seqK (K := K) rfl) (pe_ix (ix_seqK (K := K) rfl) (pv 3) (pv 5) (fun _ _ => rfl)) (pv 8) (fun _ _ => rfl)) (pe_ix (ix_seqK (K := K) rfl) (pv 6) (pv 8) (fun _ _ => rfl))) (pe_ix (ix_seqK (K := K) rfl) (pv 7) (pe_op op_sub (pv 5) (pv 8)) (fun _ _ => rfl))))) pa_nil)) pa_nil)))))
(pss_one (ps_ret (pv 4)))))))))), fun ds M Φ h => ?_⟩
  try dsimp only [cxOf, L2.Cx.nox, L2.Cx.wish]
  obtain ⟨a, b, rfl, ha, hb, q⟩ := h
  have hla := ha.1
  have hlb := hb.1
  repeat walk_at "dl"
  refine ⟨a, rfl, ha, ?_⟩
  repeat walk_at "dl"
  refine ⟨b, rfl, hb, ?_⟩
  repeat walk_at "dl"
  refine rc_len (LI a) a.length rfl ln_LI ?_
  repeat walk_at "dl"
  refine rc_len (LI b) b.length rfl ln_LI ?_
  repeat walk_at "dl"
  refine rc_min2 _ _ rfl ?_
  have em : (if (b.length : Int) < (a.length : Int) then (b.length : Int) else (a.length : Int)) = ((min a.length b.length : Nat) : Int) := by
    split <;> omega
  rw [em]
  repeat walk_at "dl"
  refine ⟨min a.length b.length, rfl, by omega, ?_⟩
  repeat walk_at "dl"
  refine zs_asg (own := [6, 7]) (ev_frz (en_tup ?_))
  repeat walk_at "dl"
  refine ev_frz (en_lst ?_)
  repeat walk_at "dl"
  refine ⟨by simp; omega, ?_⟩
  repeat walk_at "dl"
  refine ev_frz (en_lst ?_)
  repeat walk_at "dl"
  refine ⟨by simp; omega, ?_⟩
  repeat walk_at "dl"
  refine ⟨by simp, eg_tup rfl rfl (egs_cons (eg_name (by simp) (egs_cons (eg_name (by simp) (egs_nil ?_)))))⟩
  repeat walk_at "dl"
  refine ev_own (en_lst ?_)
  repeat walk_at "dl"
  refine ⟨by decide, fun p => ?_⟩
  repeat walk_at "dl"
  refine zs_for [5] (ei_rng2 ?_)
  repeat walk_at "dl"
  have e1 : (((min a.length b.length : Nat) : Int) + 1 - 1).toNat = min a.length b.length := by omega
  refine ⟨1, ((min a.length b.length : Nat) : Int) + 1, rfl, by omega, ?_⟩
  rw [e1]
  refine ⟨fun i Γ' M' => Γ' = [none, none, none, some (.lst (rowsD (min a.length b.length + 1))), some (.ptr p), none, some (LI (1 :: a)), some (LI (1 :: b)), none] ∧ M' = (p, .lst ((blendL a b i).map .int)) :: M, ⟨_, .n (.n (.n (.s (.s (.n (.s (.s (.n .nil)))))))), by simp [O.d], rfl⟩, fun i d Γ' M' hx hC => ?_, ?_⟩
  · obtain ⟨rfl, rfl⟩ := hC
    obtain ⟨hi, rfl⟩ := rngD_get hx
    have hia : i < a.length := by omega
    have hib : i < b.length := by omega
    refine eg_name' ?_
    repeat walk_at "dl"
    refine ev_frz (en_map (ei_rng1 ?_))
    repeat walk_at "dl"
    have e2 : ((1 : Int) + (i : Int) + 1).toNat = i + 2 := by omega
    rw [e2]
    refine ⟨by omega, by omega, by rw [rngD_length]; omega, ((List.range (i + 2)).map fun k => ch (i + 1) k * (1 :: a).getD k 0 * (1 :: b).getD (i + 1 - k) 0).map .int, by rw [List.length_map, List.length_map, List.length_range, rngD_length], fun k d hk => eg_name' ?_, ?_⟩
    · obtain ⟨hk2, rfl⟩ := rngD_get hk
      have b2 := ser_one hb (k := i + 1 - k) (by omega)
      repeat walk_at "dl"
      refine r2_ixL _ (.lst _) rfl (atI_of (k := i + 1) (by omega) (rowsD_get (by omega))) ?_
      repeat walk_at "dl"
      refine r2_ixL _ (.lst _) rfl (atI_of (k := k) (by omega) (by rw [List.getElem?_map, rowOf_get (by omega)]; rfl)) ?_
      repeat walk_at "dl"
      refine r2_ixL _ (.lst _) rfl (atI_i (k := k) (by omega) (by rw [List.length_cons]; omega)) ?_
      repeat walk_at "dl"
      refine r2_mul _ _ rfl rfl (cm_l (ch_lt (by omega))) ?_
      repeat walk_at "dl"
      refine r2_ixL _ (.lst _) rfl (atI_i (k := i + 1 - k) (by omega) (by rw [List.length_cons]; omega)) ?_
      repeat walk_at "dl"
      refine r2_mul _ _ rfl rfl (cm_r ⟨by omega, by omega⟩) ?_
      refine ⟨?_, rfl⟩
      rw [List.getElem?_map, List.getElem?_map, List.getElem?_range hk2]
      rfl
    · repeat walk_at "dl"
      refine rc_sum _ _ rfl (.lst _) ?_
      repeat walk_at "dl"
      refine rm_append (ds := (blendL a b i).map .int) 0 _ rfl rfl rfl (by simp [blendL]; omega) ?_
      refine ⟨_, .n (.n (.n (.s (.s (.n (.s (.s (.n .nil)))))))), rfl, ?_⟩
      rw [blendL_succ, List.map_append]
      rfl
  · rintro Γ' M' ⟨rfl, rfl⟩
    rw [rngD_length]
    refine zs_ret (ev_letgo 0 rfl rfl ?_)
    exact q
def S_parting_counts : SpD := fun ds M Φ => ∃ n : Nat, ds = [.int n] ∧ n ≤ 30 ∧ Φ (LI (partL n)) M
include G in
theorem ok_parting_counts : FnOk P w K mg base CX0 3 G.f_parting_counts G.d_parting_counts ["many"] (spOf K S_parting_counts) := by
  refine def_ok G.F_parting_counts sc_parting_counts (fun ds M Φ h => by obtain ⟨_, rfl, _⟩ := h; rfl) fun cdv A outer s H E hr => ⟨_, (pss_cons (ps_if (pt_not (pt_val (pe_call (ok_is_between G) (hr.mono (by first | exact Nat.le_refl _ | decide)) (by rfl) G.g_is_between G.F_is_between.kp G.B_is_between .nil pass0 (pa_cons (pv 0) (pa_cons pe_int (pa_cons (pe_glob (v := .int 30) (by rfl) G.c_THIRTY ⟨_, rfl⟩) pa_nil))))))
(pss_one ps_never)
pss_nil)
(pss_cons (ps_set (i := 1) sc_parting_counts.nd rfl (by first | exact .inl rfl | exact .inr rfl) (pe_lst (pa_cons pe_int pa_nil)))
(pss_cons (ps_for PassesOwn.never rfl (pi_range1 (by rfl) G.b_range (pa_cons (pv 0) pa_nil)) (pg_name (i := 2) sc_parting_counts.nd rfl (by first | exact .inl rfl | exact .inr rfl))
(pss_cons (ps_setLc (i := 3) (own := [("_", 2)]) (g := (gName 2)) (tt := tYes) rfl sc_parting_counts.nd rfl rfl (sw_true rfl rfl rfl (by decide +kernel)) (pi_range1 (by rfl) G.b_range (pa_cons (pe_op (op_addK (K := K) rfl) (pe_callB (call_lenK (K := K) rfl) (by rfl) G.b_len boot_len (pa_cons (pv 1) pa_nil)) pe_int) pa_nil)) (blkOk_by (N := n_parting_counts) (sc := defScope s_parting_counts) (by decide +kernel)) (fun _ _ _ _ _ => (pg_name (i := 2) sc_parting_counts.nd rfl (by first | exact .inl rfl | exact .inr rfl))) (fun _ _ _ _ _ => pts_nil) (fun _ _ _ _ _ => pe_int))
(pss_cons (ps_for PassesOwn.never rfl (pi_enumK (K := K) rfl (by rfl) G.b_enumerate (pa_cons (pv 1) pa_nil)) (pg_tupK (K := K) rfl rfl (pgs_cons (pg_name (i := 4) sc_parting_counts.nd rfl (by first | exact .inl rfl | exact .inr rfl)) (pgs_cons (pg_name (i := 5) sc_parting_counts.nd rfl (by first | exact .inl rfl | exact .inr rfl)) pgs_nil)))
(pss_cons (ps_augS (pv 3) (pv 4) (pget_listK (K := K) rfl) (pe_op op_mulA (pv 4) (pv 5)) ip_add set_list)
(pss_one (ps_augS (pv 3) (pe_op (op_addK (K := K) rfl) (pv 4) pe_int) (pget_listK (K := K) rfl) (pv 5) ip_add set_list))))
(pss_one (ps_set (i := 1) sc_parting_counts.nd rfl (by first | exact .inl rfl | exact .inr rfl) (pv 3))))))
(pss_one (ps_ret (pv 1)))))), fun ds M Φ h => ?_⟩
  try dsimp only [cxOf, L2.Cx.nox, L2.Cx.wish]
  obtain ⟨n, rfl, hn, q⟩ := h
  repeat walk_at "dl"
  refine ⟨n, 0, 30, rfl, ?_⟩
  rw [decide_eq_true (show (0 : Int) ≤ (n : Int) ∧ (n : Int) ≤ 30 by omega)]
  repeat walk_at "dl"
  refine ev_frz (en_lst ?_)
  repeat walk_at "dl"
  refine ⟨by decide, ?_⟩
  repeat walk_at "dl"
  refine zs_for [2] (ei_rng1 ?_)
  repeat walk_at "dl"
  refine ⟨by omega, by omega, fun i Γ' M' => Γ' = [none, some (LI (partL i)), none, none, none, none] ∧ M' = M, ⟨_, .n (.s (.n (.n (.n (.n .nil))))), rfl, rfl⟩, fun i d Γ' M' hx hC => ?_, ?_⟩
  · obtain ⟨rfl, rfl⟩ := hC
    obtain ⟨hi, rfl⟩ := rngD_get hx
    refine eg_name' ?_
    repeat walk_at "dl"
    refine ev_own (en_map (ei_rng1 ?_))
    repeat walk_at "dl"
    refine rc_len (LI (partL i)) (partL i).length rfl ln_LI ?_
    repeat walk_at "dl"
    have hpl := partL_length i
    have e2 : (((partL i).length : Int) + 1).toNat = (partL i).length + 1 := by omega
    rw [e2]
    refine ⟨by omega, by omega, by rw [rngD_length]; omega, (List.replicate ((partL i).length + 1) (0 : Int)).map .int, by rw [List.length_map, List.length_replicate, rngD_length], fun k d hk => eg_name' ?_, fun p => ?_⟩
    · obtain ⟨hk2, rfl⟩ := rngD_get hk
      repeat walk_at "dl"
      refine ⟨?_, rfl⟩
      rw [List.getElem?_map, List.getElem?_replicate, if_pos hk2]
      rfl
    · repeat walk_at "dl"
      refine zs_for [4, 5] (ei_enum ?_)
      repeat walk_at "dl"
      refine ⟨LI (partL i), (partL i).map .int, rfl, .inl rfl, fun j Γ2 M2 => Γ2 = [none, some (LI (partL i)), none, some (.ptr p), none, none] ∧ M2 = (p, .lst ((scat (partL i) j).map .int)) :: M', ⟨_, .n (.s (.n (.s (.n (.n .nil))))), rfl, rfl⟩, fun j d Γ2 M2 hx2 hC => ?_, ?_⟩
      · obtain ⟨rfl, rfl⟩ := hC
        obtain ⟨x, hx3, rfl⟩ := enumD_get hx2
        have hj : j < (partL i).length := by
          have := (List.getElem?_eq_some_iff.mp hx3).1
          rw [List.length_map] at this
          exact this
        rw [List.getElem?_map, getD_at hj] at hx3
        cases hx3
        have hsl := scat_length (partL i) j
        refine eg_tup rfl rfl (egs_cons (eg_name (by simp) (egs_cons (eg_name (by simp) (egs_nil ?_)))))
        repeat walk_at "dl"
        refine zs_augL ?_
        repeat walk_at "dl"
        refine ⟨0, j, p, (scat (partL i) j).map .int, (scat (partL i) j).getD j 0, rfl, rfl, rfl, by omega, by rw [List.getElem?_map, getD_at (by omega)]; rfl, ?_⟩
        repeat walk_at "dl"
        refine r2_mul _ _ rfl rfl (cm_l ⟨by omega, by omega⟩) ?_
        refine ⟨_, (scat (partL i) j).map .int, rfl, rfl, by rw [List.length_map]; omega, ?_⟩
        rw [← List.map_set]
        refine zs_augL ?_
        repeat walk_at "dl"
        refine ⟨0, j + 1, p, ((scat (partL i) j).set j ((scat (partL i) j).getD j 0 + (j : Int) * (partL i).getD j 0)).map .int, ((scat (partL i) j).set j ((scat (partL i) j).getD j 0 + (j : Int) * (partL i).getD j 0)).getD (j + 1) 0, rfl, rfl, rfl, by omega, by rw [List.getElem?_map, getD_at (by rw [List.length_set]; omega)]; rfl, ?_⟩
        repeat walk_at "dl"
        refine ⟨_, ((scat (partL i) j).set j ((scat (partL i) j).getD j 0 + (j : Int) * (partL i).getD j 0)).map .int, rfl, rfl, by rw [List.length_map, List.length_set]; omega, ?_⟩
        rw [← List.map_set]
        exact ⟨_, .n (.s (.n (.s (.n (.n .nil))))), rfl, rfl⟩
      · rintro Γ2 M2 ⟨rfl, rfl⟩
        rw [enumD_length, List.length_map]
        refine es_letgo 3 0 rfl rfl ?_
        repeat walk_at "dl"
        exact ⟨_, .n (.s (.n (.n (.n (.n .nil))))), rfl, rfl⟩
  · rintro Γ' M' ⟨rfl, rfl⟩
    rw [rngD_length]
    repeat walk_at "dl"
    exact q
end
end K30


set_option Elab.async false
set_option linter.all false
set_option maxRecDepth 100000
set_option maxHeartbeats 4000000
namespace K30
open PySem PySem.Spec PyProof.Rows L2 StX DL
local macro_rules | `(tactic| walk_at "dl") => `(tactic| with_reducible first
  | refine zs_seq ?_ | refine zs_set ?_ | refine zs_drop ?_ | refine zs_ret ?_ | refine zs_if ?_ | refine zs_next ?_ | refine zs_par ?_
  | refine ev_int ?_ | refine ev_bl ?_ | refine ev_str ?_ | refine ev_non ?_ | refine ev_ty ?_
  | refine ev_op ?_ | refine ev_un ?_ | refine ev_cb ?_ | refine ev_call ?_ | refine ea_cons ?_ | refine ea_nil ?_
  | refine ev_andV ?_ | refine ev_orV ?_ | refine ev_notV ?_ | refine ev_ifx ?_ | refine ev_chain ?_ | refine ev_sl ?_ | refine eo_none ?_ | refine eo_some ?_
  | refine et_test ?_ | refine et_B ?_ | refine et_and ?_ | refine et_or ?_ | refine et_not ?_ | refine et_yes ?_
  | refine r2_add _ _ rfl rfl ?_ | refine r2_sub _ _ rfl rfl ?_ | refine r2_lt _ _ rfl rfl ?_ | refine r2_le _ _ rfl rfl ?_ | refine r2_gt _ _ rfl rfl ?_ | refine r2_ge _ _ rfl rfl ?_
  | refine r1_neg _ rfl ?_ | refine ev_bm ?_ | refine ev_bm0 ?_ | refine ⟨dty0, ?_⟩ | refine ⟨dty1, ?_⟩ | refine ⟨dty2, ?_⟩ | refine ⟨_, SQ.lst _, ?_⟩ | refine ⟨_, sq0, ?_⟩ | refine ⟨_, sq1, ?_⟩ | refine ea_star ?_
  | refine ⟨_, rfl, ?_⟩ | refine iteT ?_ | refine iteF ?_ | refine iteNT ?_ | refine iteNF ?_)
local macro_rules | `(tactic| walk_at "dl") => `(tactic| ((with_reducible refine' ev_var ?hv ?_); (case hv => rfl)))
local macro_rules | `(tactic| walk_at "gle") => `(tactic| repeat (first | exact GLe.nil | apply GLe.s | apply GLe.n))
section
variable {P : Program} {w : World} {K : PySem.W.Frag} {mg : Str → Option Value} {base : Heap} (G : Glb K mg)
/-- the spring of draws, owned; so many were drawn at most -/
inductive Strm (a : Addr) (n : Int) (B M : Ms) : Prop
  | mk (c : Addr) (cells : List Int) (cur cnt mix : Int) : 0 ≤ cur → 0 ≤ mix → mix < 2147483647 → 0 ≤ cnt → cnt ≤ n → M = (a, .lst [.ptr c, .int cur, .int cnt, .int mix]) :: (c, .lst (cells.map .int)) :: B → Strm a n B M
theorem Strm.mono {a : Addr} {n m : Int} {B M : Ms} (h : Strm a n B M) (e : n ≤ m) : Strm a m B M := by
  obtain ⟨c, cells, cur, cnt, mix, h1, h2, h3, h4, h5, rfl⟩ := h
  exact ⟨c, cells, cur, cnt, mix, h1, h2, h3, h4, by omega, rfl⟩
def S__law_start : SpD := fun ds M Φ => ∃ ns : List Int, ds = [.rol (ns.map .int)] ∧ ns.length ≤ 1000 ∧ ∀ a M', Strm a 0 M M' → Φ (.ptr a) M'
include G in
theorem ok__law_start : FnOk P w K mg base CX0 1 G.f__law_start G.d__law_start ["script"] (spOf K S__law_start) := by
  refine def_ok G.F__law_start sc__law_start (fun ds M Φ h => by obtain ⟨_, rfl, _⟩ := h; rfl) fun cdv A outer s H E hr => ⟨_, (pss_one (ps_ret (pe_lst (pa_cons (pe_callTy (call_listK (K := K) rfl) (by rfl) G.b_list boot_list (pa_cons (pv 0) pa_nil)) (pa_cons pe_int (pa_cons pe_int (pa_cons pe_int pa_nil))))))), fun ds M Φ h => ?_⟩
  try dsimp only [cxOf, L2.Cx.nox, L2.Cx.wish]
  obtain ⟨ns, rfl, hn, q⟩ := h
  repeat walk_at "dl"
  refine ev_own (en_lst ?_)
  repeat walk_at "dl"
  refine rc_own (rc_list (ds := ns.map .int) (.rol (ns.map .int)) rfl (.l (.rol _)) fun c => ?_)
  repeat walk_at "dl"
  refine ⟨by simp, fun a => q a _ ⟨c, ns, 0, 0, 83, by decide, by decide, by decide, by decide, by decide, rfl⟩⟩
def S__law_below : SpD := fun ds M Φ => ∃ (a : Addr) (m n : Int) (B : Ms), ds = [.ptr a, .int m] ∧ 0 < m ∧ m < 1073741824 ∧ n ≤ 1000000000 ∧ Strm a n B M ∧ ∀ r M', 0 ≤ r → r < m → Strm a (n + 1) B M' → Φ (.int r) M'
include G in
theorem ok__law_below : FnOk P w K mg base CX0 1 G.f__law_below G.d__law_below ["stream", "many"] (spOf K S__law_below) := by
  refine def_ok G.F__law_below sc__law_below (fun ds M Φ h => by obtain ⟨_, _, _, _, rfl, _⟩ := h; rfl) fun cdv A outer s H E hr => ⟨_, (pss_cons (ps_asg (pe_op (op_addK (K := K) rfl) (pe_ix (ix_seqK (K := K) rfl) (pv 0) pe_int (fun _ _ => rfl)) pe_int) (pg_sub (pv 0) pe_int set_list))
(pss_cons (ps_while PassesOwn.never (PW.pt (pw_and (pt_cmpR (op_eqK (K := K) rfl hr.units) (pe_ix (ix_seqK (K := K) rfl) (pv 0) pe_int (fun _ _ => rfl)) pe_int (nomark _)) (pw_and1 (pt_cmpR (op_neK (K := K) rfl hr.units) (pe_ix (ix_seqK (K := K) rfl) (pv 0) pe_int (fun _ _ => rfl)) (pe_lst pa_nil) (nomark _)))))
(pss_cons (ps_set (i := 3) sc__law_below.nd rfl (by first | exact .inl rfl | exact .inr rfl) (pe_bmK (K := K) rfl PySem.F.plainAttrs_list PySem.F.slot_list_pop PySem.F.type_list_pop mt_popAt (pe_ix (ix_seqK (K := K) rfl) (pv 0) pe_int (fun _ _ => rfl)) (pa_cons pe_int pa_nil)))
(pss_cons (ps_asg (pe_op op_mod (pe_callTy call_int1 (by rfl) G.b_int boot_int (pa_cons (pe_op (op_addK (K := K) rfl) (pe_op (op_addK (K := K) rfl) (pe_op op_mulA (pe_ix (ix_seqK (K := K) rfl) (pv 0) pe_int (fun _ _ => rfl)) pe_int) (pv 3)) pe_int) pa_nil)) pe_int) (pg_sub (pv 0) pe_int set_list))
(pss_one (ps_asg (pe_ifExp (pt_cmpR op_ge (pv 3) (pe_op op_pow pe_int pe_int) (nomark _)) (pv 3) pe_int) (pg_sub (pv 0) pe_int set_list))))))
(pss_cons (ps_if (pt_cmpR op_gt (pe_ix (ix_seqK (K := K) rfl) (pv 0) pe_int (fun _ _ => rfl)) pe_int (nomark _))
(pss_cons (ps_set (i := 4) sc__law_below.nd rfl (by first | exact .inl rfl | exact .inr rfl) (pe_op op_mod (pe_callTy call_int1 (by rfl) G.b_int boot_int (pa_cons (pe_ix (ix_seqK (K := K) rfl) (pv 0) pe_int (fun _ _ => rfl)) pa_nil)) (pv 1)))
(pss_cons (ps_asg (pe_op op_fdiv (pe_ix (ix_seqK (K := K) rfl) (pv 0) pe_int (fun _ _ => rfl)) (pv 1)) (pg_sub (pv 0) pe_int set_list))
(pss_one (ps_ret (pv 4)))))
pss_nil)
(pss_cons (ps_set (i := 2) sc__law_below.nd rfl (by first | exact .inl rfl | exact .inr rfl) (pe_op op_mod (pe_callTy call_int1 (by rfl) G.b_int boot_int (pa_cons (pe_op op_pow (pe_op (op_addK (K := K) rfl) (pe_op (op_addK (K := K) rfl) (pe_ix (ix_seqK (K := K) rfl) (pv 0) pe_int (fun _ _ => rfl)) (pe_op op_mulA pe_int (pe_ix (ix_seqK (K := K) rfl) (pv 0) pe_int (fun _ _ => rfl)))) pe_int) pe_int) pa_nil)) pe_int))
(pss_one (ps_ret (pe_op op_mod (pe_op op_mod (pe_callTy call_int1 (by rfl) G.b_int boot_int (pa_cons (pe_op op_pow (pe_op (op_addK (K := K) rfl) (pe_op (op_addK (K := K) rfl) (pe_op op_mulA (pv 2) pe_int) (pe_op op_mulA pe_int (pe_ix (ix_seqK (K := K) rfl) (pv 0) pe_int (fun _ _ => rfl)))) pe_int) pe_int) pa_nil)) pe_int) (pv 1)))))))), fun ds M Φ h => ?_⟩
  try dsimp only [cxOf, L2.Cx.nox, L2.Cx.wish]
  obtain ⟨a, m, n, B, rfl, hm0, hm1, hn, ⟨c, cells, cur, cnt, mix, h1, h2, h3, h4, h5, rfl⟩, q⟩ := h
  repeat walk_at "dl"
  refine zs_asg (own := []) ?_
  repeat walk_at "dl"
  refine r2_ixL 2 lq0 rfl rfl ?_
  repeat walk_at "dl"
  refine eg_setL ?_
  repeat walk_at "dl"
  refine ⟨0, 2, a, _, rfl, rfl, rfl, by simp, ?_⟩
  refine zs_cut (fun Γ' M' => Γ' = [some (.ptr a), some (.int m), none, none, none] ∧ ∃ (cells : List Int) (cur mix : Int), 0 ≤ cur ∧ 0 ≤ mix ∧ mix < 2147483647 ∧ M' = (a, .lst [.ptr c, .int cur, .int (cnt + 1), .int mix]) :: (c, .lst (cells.map .int)) :: B)
    (zs_while (fun k Γ' M' => Γ' = [some (.ptr a), some (.int m), none, none, none] ∧ ∃ (cells : List Int) (cur mix : Int), cells.length = k ∧ 0 ≤ cur ∧ 0 ≤ mix ∧ mix < 2147483647 ∧ M' = (a, .lst [.ptr c, .int cur, .int (cnt + 1), .int mix]) :: (c, .lst (cells.map .int)) :: B) cells.length _ (.s (.s (.n (.n (.n .nil))))) ⟨rfl, cells, cur, mix, rfl, h1, h2, h3, rfl⟩ fun k Γ' M' hC => ?_) ?_
  · obtain ⟨rfl, cells, cur, mix, rfl, h1, h2, h3, rfl⟩ := hC
    repeat walk_at "dl"
    refine r2_ixL 1 lq0 rfl rfl ?_
    repeat walk_at "dl"
    refine r2_eqI _ _ rfl rfl ?_
    repeat walk_at "dl"
    refine dite_bl (fun e0 => ?_) (fun _ => ?_)
    · repeat walk_at "dl"
      refine r2_ixL 0 lq0 rfl rfl ?_
      repeat walk_at "dl"
      refine ev_frz (en_lst ?_)
      repeat walk_at "dl"
      refine ⟨by simp, ?_⟩
      refine r2_neLI cells [] (.own (.tail _ (.head _))) .nil ?_
      repeat walk_at "dl"
      refine ndite_bl (fun hne => ?_) (fun _ => ?_)
      · obtain ⟨z, r, rfl⟩ : ∃ z r, cells = z :: r := by
          cases cells with
          | nil => exact absurd rfl hne
          | cons z r => exact ⟨z, r, rfl⟩
        repeat walk_at "dl"
        refine r2_ixL 0 lq0 rfl rfl ?_
        repeat walk_at "dl"
        refine rm_pop0 (d := .int z) (ds := r.map .int) 1 rfl rfl rfl ?_
        refine zs_seq (zs_asg (own := []) ?_)
        repeat walk_at "dl"
        refine r2_ixL 3 lq0 rfl rfl ?_
        repeat walk_at "dl"
        refine r2_mul _ _ rfl rfl (.inr ⟨by decide, by decide⟩) ?_
        repeat walk_at "dl"
        refine rc_intI _ rfl ?_
        repeat walk_at "dl"
        refine r2_mod _ _ rfl rfl (by decide) ?_
        refine eg_setL ?_
        repeat walk_at "dl"
        refine ⟨0, 3, a, _, rfl, rfl, rfl, by simp, ?_⟩
        refine zs_asg (own := []) ?_
        generalize hx : (mix * 68483 + z + 23) % 2147483647 = mix2
        have k1 := Int.emod_nonneg (mix * 68483 + z + 23) (show (2147483647 : Int) ≠ 0 by decide)
        have k2 := Int.emod_lt_of_pos (mix * 68483 + z + 23) (show (0 : Int) < 2147483647 by decide)
        rw [hx] at k1 k2
        repeat walk_at "dl"
        refine r2_pow _ _ rfl rfl ⟨by decide, by decide, by decide⟩ ?_
        repeat walk_at "dl"
        refine dite_bl (fun h9 => ?_) (fun h9 => ?_)
        · repeat walk_at "dl"
          refine eg_setL ?_
          repeat walk_at "dl"
          have h10 : (0 : Int) ≤ 10 ^ (Int.toNat 18) := by decide
          exact ⟨0, 1, a, _, rfl, rfl, rfl, by simp, r.length, _, by simp, .s (.s (.n (.n (.n .nil)))), rfl, r, z, mix2, rfl, by omega, k1, k2, rfl⟩
        · repeat walk_at "dl"
          refine eg_setL ?_
          repeat walk_at "dl"
          exact ⟨0, 1, a, _, rfl, rfl, rfl, by simp, r.length, _, by simp, .s (.s (.n (.n (.n .nil)))), rfl, r, 0, mix2, rfl, by omega, k1, k2, rfl⟩
      · exact ⟨rfl, cells, cur, mix, h1, h2, h3, rfl⟩
    · exact ⟨rfl, cells, cur, mix, h1, h2, h3, rfl⟩
  · rintro Γ' M' ⟨rfl, cells, cur, mix, h1, h2, h3, rfl⟩
    repeat walk_at "dl"
    refine r2_ixL 1 lq0 rfl rfl ?_
    repeat walk_at "dl"
    refine dite_bl (fun h9 => ?_) (fun h9 => ?_)
    · repeat walk_at "dl"
      refine r2_ixL 1 lq0 rfl rfl ?_
      repeat walk_at "dl"
      refine rc_intI _ rfl ?_
      repeat walk_at "dl"
      refine r2_mod _ _ rfl rfl hm0 ?_
      repeat walk_at "dl"
      refine zs_asg (own := []) ?_
      repeat walk_at "dl"
      refine r2_ixL 1 lq0 rfl rfl ?_
      repeat walk_at "dl"
      refine r2_fdiv _ _ rfl rfl ⟨hm0, hm1⟩ ?_
      refine eg_setL ?_
      repeat walk_at "dl"
      refine ⟨0, 1, a, _, rfl, rfl, rfl, by simp, ?_⟩
      repeat walk_at "dl"
      exact q _ _ (Int.emod_nonneg _ (by omega)) (Int.emod_lt_of_pos _ hm0) ⟨c, cells, cur / m, cnt + 1, mix, Int.ediv_nonneg h1 (by omega), h2, h3, by omega, by omega, rfl⟩
    · repeat walk_at "dl"
      refine r2_ixL 3 lq0 rfl rfl ?_
      repeat walk_at "dl"
      refine r2_ixL 2 lq0 rfl rfl ?_
      repeat walk_at "dl"
      refine r2_mul _ _ rfl rfl (.inl ⟨by decide, by decide⟩) ?_
      repeat walk_at "dl"
      refine r2_pow _ _ rfl rfl ⟨by decide, by decide, by omega⟩ ?_
      repeat walk_at "dl"
      refine rc_intI _ rfl ?_
      repeat walk_at "dl"
      refine r2_mod _ _ rfl rfl (by decide) ?_
      generalize hx : (mix + 9283 * (cnt + 1) + 140009) ^ (Int.toNat 5) % 2147483629 = mixed
      have k1 := Int.emod_nonneg ((mix + 9283 * (cnt + 1) + 140009) ^ (Int.toNat 5)) (show (2147483629 : Int) ≠ 0 by decide)
      have k2 := Int.emod_lt_of_pos ((mix + 9283 * (cnt + 1) + 140009) ^ (Int.toNat 5)) (show (0 : Int) < 2147483629 by decide)
      rw [hx] at k1 k2
      repeat walk_at "dl"
      refine r2_mul _ _ rfl rfl (.inr ⟨by decide, by decide⟩) ?_
      repeat walk_at "dl"
      refine r2_ixL 2 lq0 rfl rfl ?_
      repeat walk_at "dl"
      refine r2_mul _ _ rfl rfl (.inl ⟨by decide, by decide⟩) ?_
      repeat walk_at "dl"
      refine r2_pow _ _ rfl rfl ⟨by decide, by decide, by omega⟩ ?_
      repeat walk_at "dl"
      refine rc_intI _ rfl ?_
      repeat walk_at "dl"
      refine r2_mod _ _ rfl rfl (by decide) ?_
      repeat walk_at "dl"
      refine r2_mod _ _ rfl rfl hm0 ?_
      exact q _ _ (Int.emod_nonneg _ (by omega)) (Int.emod_lt_of_pos _ hm0) ⟨c, cells, cur, cnt + 1, mix, h1, h2, h3, by omega, by omega, rfl⟩
end
end K30


set_option Elab.async false
set_option linter.all false
set_option maxRecDepth 100000
set_option maxHeartbeats 4000000
namespace K30
open PySem PySem.Spec PyProof.Rows L2 StX DL
local macro_rules | `(tactic| walk_at "dl") => `(tactic| with_reducible first
  | refine zs_seq ?_ | refine zs_set ?_ | refine zs_drop ?_ | refine zs_ret ?_ | refine zs_if ?_ | refine zs_next ?_ | refine zs_par ?_
  | refine ev_int ?_ | refine ev_bl ?_ | refine ev_str ?_ | refine ev_non ?_ | refine ev_ty ?_
  | refine ev_op ?_ | refine ev_un ?_ | refine ev_cb ?_ | refine ev_call ?_ | refine ea_cons ?_ | refine ea_nil ?_
  | refine ev_andV ?_ | refine ev_orV ?_ | refine ev_notV ?_ | refine ev_ifx ?_ | refine ev_chain ?_ | refine ev_sl ?_ | refine eo_none ?_ | refine eo_some ?_
  | refine et_test ?_ | refine et_B ?_ | refine et_and ?_ | refine et_or ?_ | refine et_not ?_ | refine et_yes ?_
  | refine r2_add _ _ rfl rfl ?_ | refine r2_sub _ _ rfl rfl ?_ | refine r2_lt _ _ rfl rfl ?_ | refine r2_le _ _ rfl rfl ?_ | refine r2_gt _ _ rfl rfl ?_ | refine r2_ge _ _ rfl rfl ?_
  | refine r1_neg _ rfl ?_ | refine ev_bm ?_ | refine ev_bm0 ?_ | refine ⟨dty0, ?_⟩ | refine ⟨dty1, ?_⟩ | refine ⟨dty2, ?_⟩ | refine ⟨_, SQ.lst _, ?_⟩ | refine ⟨_, sq0, ?_⟩ | refine ⟨_, sq1, ?_⟩ | refine ea_star ?_
  | refine ⟨_, rfl, ?_⟩ | refine iteT ?_ | refine iteF ?_ | refine iteNT ?_ | refine iteNF ?_)
local macro_rules | `(tactic| walk_at "dl") => `(tactic| ((with_reducible refine' ev_var ?hv ?_); (case hv => rfl)))
local macro_rules | `(tactic| walk_at "gle") => `(tactic| repeat (first | exact GLe.nil | apply GLe.s | apply GLe.n))
section
variable {P : Program} {w : World} {K : PySem.W.Frag} {mg : Str → Option Value} {base : Heap} (G : Glb K mg)
/-- data that _law_same goes through, less than r deep -/
def SameD : Nat → D → Prop
  | 0, _ => False
  | r + 1, d => (∃ i, d = .int i) ∨ (∃ b, d = .bl b) ∨ ∃ ds, d = .lst ds ∧ ds.length ≤ 1000 ∧ ∀ x ∈ ds, SameD r x
def S__law_same (r : Nat) : SpD := fun ds M Φ => ∃ d, ds = [d, d] ∧ SameD r d ∧ Φ (.bl true) M
include G in
theorem ok__law_same (r : Nat) (ih : FnOk P w K mg base CX0 r G.f__law_same G.d__law_same ["found", "due"] (spOf K (S__law_same r))) : FnOk P w K mg base CX0 (r + 1) G.f__law_same G.d__law_same ["found", "due"] (spOf K (S__law_same (r + 1))) := by
  refine def_ok G.F__law_same sc__law_same (fun ds M Φ h => by obtain ⟨_, rfl, _⟩ := h; rfl) fun cdv A outer s H E hr => ⟨_, (pss_cons (ps_if (pt_val (pe_callB (call_isiK (K := K) rfl) (by rfl) G.b_isinstance boot_isinstance (pa_cons (pv 1) (pa_cons (pe_tup (pa_cons (pe_bltn (v := .ty "list") (by rfl) G.b_list boot_list rfl) (pa_cons (pe_bltn (v := .ty "tuple") (by rfl) G.b_tuple boot_tuple rfl) pa_nil))) pa_nil))))
(pss_cons (ps_if (PW.pt (pw_or (pt_cmpR (op_neK (K := K) rfl hr.units) (pe_callB (call_isiK (K := K) rfl) (by rfl) G.b_isinstance boot_isinstance (pa_cons (pv 0) (pa_cons (pe_bltn (v := .ty "list") (by rfl) G.b_list boot_list rfl) pa_nil))) (pe_callB (call_isiK (K := K) rfl) (by rfl) G.b_isinstance boot_isinstance (pa_cons (pv 1) (pa_cons (pe_bltn (v := .ty "list") (by rfl) G.b_list boot_list rfl) pa_nil))) (nomark _)) (pw_or1 (pt_cmpR (op_neK (K := K) rfl hr.units) (pe_callB (call_isiK (K := K) rfl) (by rfl) G.b_isinstance boot_isinstance (pa_cons (pv 0) (pa_cons (pe_bltn (v := .ty "tuple") (by rfl) G.b_tuple boot_tuple rfl) pa_nil))) (pe_callB (call_isiK (K := K) rfl) (by rfl) G.b_isinstance boot_isinstance (pa_cons (pv 1) (pa_cons (pe_bltn (v := .ty "tuple") (by rfl) G.b_tuple boot_tuple rfl) pa_nil))) (nomark _)))))
(pss_one ps_never)
pss_nil)
(pss_one (ps_ret (pe_and (pe_cmpR (op_eqK (K := K) rfl hr.units) (pe_callB (call_lenK (K := K) rfl) (by rfl) G.b_len boot_len (pa_cons (pv 0) pa_nil)) (pe_callB (call_lenK (K := K) rfl) (by rfl) G.b_len boot_len (pa_cons (pv 1) pa_nil)) (nomark _)) (pe_one (pe_callB (cr_allK (K := K) rfl rfl) (by rfl) G.b_all boot_all (pa_cons (pe_lc (own := [("x", 2), ("y", 3)]) (g := (gTup K 2 (gCons (gName 2) (gCons (gName 3) gNil)))) (tt := tYes) rfl sc__law_same.nd (pi_zipK (K := K) rfl (by rfl) G.b_zip (pa_cons (pv 0) (pa_cons (pv 1) pa_nil))) (blkOk_by (N := n__law_same) (sc := defScope s__law_same) (by decide +kernel)) (fun _ _ _ _ _ => (pg_tupK (K := K) rfl rfl (pgs_cons (pg_name (i := 2) sc__law_same.nd rfl (by first | exact .inl rfl | exact .inr rfl)) (pgs_cons (pg_name (i := 3) sc__law_same.nd rfl (by first | exact .inl rfl | exact .inr rfl)) pgs_nil)))) (fun _ _ _ _ _ => pts_nil) (fun _ _ _ _ _ => (pe_call (ih) (hr.mono (by first | exact Nat.le_refl _ | decide)) (by rfl) G.g__law_same G.F__law_same.kp G.B__law_same .nil pass0 (pa_cons (pv 2) (pa_cons (pv 3) pa_nil))))) pa_nil)))))))
pss_nil)
(pss_cons (ps_if (pt_val (pe_callB (call_isiK (K := K) rfl) (by rfl) G.b_isinstance boot_isinstance (pa_cons (pv 1) (pa_cons (pe_bltn (v := .ty "dict") (by rfl) G.b_dict boot_dict rfl) pa_nil))))
(pss_one ps_never)
pss_nil)
(pss_cons (ps_if (pt_val (pe_callB (call_isiK (K := K) rfl) (by rfl) G.b_isinstance boot_isinstance (pa_cons (pv 1) (pa_cons (pe_bltn (v := .ty "int") (by rfl) G.b_int boot_int rfl) pa_nil))))
(pss_one (ps_ret (pe_and (pe_callB (call_isiK (K := K) rfl) (by rfl) G.b_isinstance boot_isinstance (pa_cons (pv 0) (pa_cons (pe_bltn (v := .ty "int") (by rfl) G.b_int boot_int rfl) pa_nil))) (pe_and (pe_cmpR (op_eqK (K := K) rfl hr.units) (pe_callB (call_isiK (K := K) rfl) (by rfl) G.b_isinstance boot_isinstance (pa_cons (pv 0) (pa_cons (pe_bltn (v := .ty "bool") (by rfl) G.b_bool boot_bool rfl) pa_nil))) (pe_callB (call_isiK (K := K) rfl) (by rfl) G.b_isinstance boot_isinstance (pa_cons (pv 1) (pa_cons (pe_bltn (v := .ty "bool") (by rfl) G.b_bool boot_bool rfl) pa_nil))) (nomark _)) (pe_one (pe_cmpR (op_eqK (K := K) rfl hr.units) (pv 0) (pv 1) (nomark _)))))))
pss_nil)
(pss_cons (ps_if (pt_cmpR op_isN (pv 1) pe_non (nomark _))
(pss_one ps_never)
pss_nil)
(pss_cons (ps_if (pt_val (pe_callB (call_isiK (K := K) rfl) (by rfl) G.b_isinstance boot_isinstance (pa_cons (pv 1) (pa_cons (pe_bltn (v := .ty "str") (by rfl) G.b_str boot_str rfl) pa_nil))))
(pss_one ps_never)
pss_nil)
(pss_one ps_never)))))), fun ds M Φ h => ?_⟩
  try dsimp only [cxOf, L2.Cx.nox, L2.Cx.wish]
  obtain ⟨d, rfl, hd, q⟩ := h
  rcases hd with ⟨i, rfl⟩ | ⟨b, rfl⟩ | ⟨ds, rfl, hl, hi⟩
  · repeat walk_at "dl"
    refine ev_own (en_tup ?_)
    repeat walk_at "dl"
    refine ⟨by decide, fun p => ?_⟩
    repeat walk_at "dl"
    refine rc_inr (rc_isiT (.int i) "int" ["list", "tuple"] false M rfl rfl (.int i) (by decide +kernel) ?_)
    repeat walk_at "dl"
    refine rc_inl (rc_isi (.int i) "int" "dict" false rfl (.int i) (by decide +kernel) ?_)
    repeat walk_at "dl"
    refine rc_inl (rc_isi (.int i) "int" "int" true rfl (.int i) (by decide +kernel) ?_)
    repeat walk_at "dl"
    refine rc_inl (rc_isi (.int i) "int" "int" true rfl (.int i) (by decide +kernel) ?_)
    repeat walk_at "dl"
    refine rc_inl (rc_isi (.int i) "int" "bool" false rfl (.int i) (by decide +kernel) ?_)
    repeat walk_at "dl"
    refine rc_inl (rc_isi (.int i) "int" "bool" false rfl (.int i) (by decide +kernel) ?_)
    repeat walk_at "dl"
    refine r2_eqB1 false rfl rfl ?_
    repeat walk_at "dl"
    exact r2_eqI1 i rfl rfl q
  · repeat walk_at "dl"
    refine ev_own (en_tup ?_)
    repeat walk_at "dl"
    refine ⟨by decide, fun p => ?_⟩
    repeat walk_at "dl"
    refine rc_inr (rc_isiT (.bl b) "bool" ["list", "tuple"] false M rfl rfl (.bl b) (by decide +kernel) ?_)
    repeat walk_at "dl"
    refine rc_inl (rc_isi (.bl b) "bool" "dict" false rfl (.bl b) (by decide +kernel) ?_)
    repeat walk_at "dl"
    refine rc_inl (rc_isi (.bl b) "bool" "int" true rfl (.bl b) (by decide +kernel) ?_)
    repeat walk_at "dl"
    refine rc_inl (rc_isi (.bl b) "bool" "int" true rfl (.bl b) (by decide +kernel) ?_)
    repeat walk_at "dl"
    refine rc_inl (rc_isi (.bl b) "bool" "bool" true rfl (.bl b) (by decide +kernel) ?_)
    repeat walk_at "dl"
    refine rc_inl (rc_isi (.bl b) "bool" "bool" true rfl (.bl b) (by decide +kernel) ?_)
    repeat walk_at "dl"
    refine r2_eqB1 true rfl rfl ?_
    repeat walk_at "dl"
    exact r2_eqB1 b rfl rfl q
  · repeat walk_at "dl"
    refine ev_own (en_tup ?_)
    repeat walk_at "dl"
    refine ⟨by decide, fun p => ?_⟩
    repeat walk_at "dl"
    refine rc_inr (rc_isiT (.lst ds) "list" ["list", "tuple"] true M rfl rfl (.lst ds) (by decide +kernel) ?_)
    repeat walk_at "dl"
    refine rc_inl (rc_isi (.lst ds) "list" "list" true rfl (.lst ds) (by decide +kernel) ?_)
    repeat walk_at "dl"
    refine rc_inl (rc_isi (.lst ds) "list" "list" true rfl (.lst ds) (by decide +kernel) ?_)
    repeat walk_at "dl"
    refine r2_neB1 true rfl rfl ?_
    repeat walk_at "dl"
    refine rc_inl (rc_isi (.lst ds) "list" "tuple" false rfl (.lst ds) (by decide +kernel) ?_)
    repeat walk_at "dl"
    refine rc_inl (rc_isi (.lst ds) "list" "tuple" false rfl (.lst ds) (by decide +kernel) ?_)
    repeat walk_at "dl"
    refine r2_neB1 false rfl rfl ?_
    repeat walk_at "dl"
    refine rc_len (.lst ds) ds.length rfl (ln_of (.lst _) rfl) ?_
    repeat walk_at "dl"
    refine rc_len (.lst ds) ds.length rfl (ln_of (.lst _) rfl) ?_
    repeat walk_at "dl"
    refine r2_eqI1 _ rfl rfl ?_
    repeat walk_at "dl"
    refine ev_frz (en_map (ei_zip ?_))
    repeat walk_at "dl"
    have hz : (zipD ds ds).length = ds.length := by rw [zipD_length]; omega
    refine ⟨.lst ds, .lst ds, ds, ds, rfl, .inl rfl, .inl rfl, by omega, ds.map fun _ => .bl true, by rw [List.length_map, hz], fun i d hx => ?_, ?_⟩
    · obtain ⟨x, y, hx1, hx2, rfl⟩ := zipD_get hx
      rw [hx1] at hx2
      cases hx2
      refine eg_tup rfl rfl (egs_cons (eg_name (by simp) (egs_cons (eg_name (by simp) (egs_nil ?_)))))
      repeat walk_at "dl"
      refine ⟨x, rfl, hi x (List.mem_of_getElem? hx1), ?_, rfl⟩
      rw [List.getElem?_map, hx1]
      rfl
    · repeat walk_at "dl"
      refine rc_all _ (ds.map fun _ => true) rfl ?_ ?_
      · have := LQ.lst (M := M) (ds.map fun _ => D.bl true)
        rw [List.map_map]
        exact this
      · have e : (ds.map fun _ => true).all id = true := by
          rw [List.all_map]
          exact List.all_eq_true.mpr fun _ _ => rfl
        rw [e]
        exact q
/-- the promise at each depth -/
theorem ok_same (G : Glb K mg) : ∀ r : Nat, FnOk P w K mg base CX0 r G.f__law_same G.d__law_same ["found", "due"] (spOf K (S__law_same r))
  | 0 => by
    refine ⟨fun vs H Q E h => ?_, fun A outer s H args us vs Q E _ _ _ _ h => ?_⟩
    · obtain ⟨_, _, _, _, _, _, ⟨_, _, h, _⟩, _⟩ := h
      exact h.elim
    · obtain ⟨_, _, _, _, _, _, ⟨_, _, h, _⟩, _⟩ := h
      exact h.elim
  | r + 1 => ok__law_same G r (ok_same G r)
/-- the ways to choose, going on -/
theorem ch_next : ∀ n k : Nat, ch n (k + 1) * ((k : Int) + 1) = ch n k * ((n : Int) - k)
  | 0, 0 => by decide
  | 0, k + 1 => by rw [ch, ch]; simp
  | n + 1, 0 => by
    have h := ch_next n 0
    rw [ch_zero] at h
    rw [show ch (n + 1) (0 + 1) = ch n 0 + ch n (0 + 1) from rfl, ch_zero, ch_zero]
    omega
  | n + 1, k + 1 => by
    have h1 := ch_next n k
    have h2 := ch_next n (k + 1)
    rw [show ch (n + 1) (k + 1 + 1) = ch n (k + 1) + ch n (k + 1 + 1) from rfl, show ch (n + 1) (k + 1) = ch n k + ch n (k + 1) from rfl]
    grind
def S__law_wways : SpD := fun ds M Φ => ∃ n k : Nat, ds = [.int n, .int k] ∧ k ≤ n ∧ n ≤ 60 ∧ Φ (.int (ch n k)) M
include G in
theorem ok__law_wways : FnOk P w K mg base CX0 1 G.f__law_wways G.d__law_wways ["many", "some"] (spOf K S__law_wways) := by
  refine def_ok G.F__law_wways sc__law_wways (fun ds M Φ h => by obtain ⟨_, _, rfl, _⟩ := h; rfl) fun cdv A outer s H E hr => ⟨_, (pss_cons (ps_if (PW.pt (pw_or (pt_cmpR op_lt (pv 1) pe_int (nomark _)) (pw_or1 (pt_cmpR op_gt (pv 1) (pv 0) (nomark _)))))
(pss_one (ps_ret pe_int))
pss_nil)
(pss_cons (ps_set (i := 2) sc__law_wways.nd rfl (by first | exact .inl rfl | exact .inr rfl) pe_int)
(pss_cons (ps_for PassesOwn.never rfl (pi_range1 (by rfl) G.b_range (pa_cons (pv 1) pa_nil)) (pg_name (i := 3) sc__law_wways.nd rfl (by first | exact .inl rfl | exact .inr rfl))
(pss_one (ps_set (i := 2) sc__law_wways.nd rfl (by first | exact .inl rfl | exact .inr rfl) (pe_op op_fdiv (pe_op op_mulA (pv 2) (pe_op op_sub (pv 0) (pv 3))) (pe_op (op_addK (K := K) rfl) (pv 3) pe_int)))))
(pss_one (ps_ret (pv 2)))))), fun ds M Φ h => ?_⟩
  try dsimp only [cxOf, L2.Cx.nox, L2.Cx.wish]
  obtain ⟨n, k, rfl, hk, hn, q⟩ := h
  repeat walk_at "dl"
  refine dite_bl (fun z => absurd z (by omega)) (fun _ => ?_)
  repeat walk_at "dl"
  refine dite_bl (fun z => absurd z (by omega)) (fun _ => ?_)
  repeat walk_at "dl"
  refine zs_for [3] (ei_rng1 ?_)
  repeat walk_at "dl"
  refine ⟨by omega, by omega, fun i Γ' M' => Γ' = [some (.int n), some (.int k), some (.int (ch n i)), none] ∧ M' = M, ⟨_, .s (.s (.s (.n .nil))), by rw [ch_zero], rfl⟩, fun i d Γ' M' hx hC => ?_, ?_⟩
  · obtain ⟨rfl, rfl⟩ := hC
    obtain ⟨hi, rfl⟩ := rngD_get hx
    refine eg_name' ?_
    repeat walk_at "dl"
    refine r2_mul _ _ rfl rfl (.inr ⟨by omega, by omega⟩) ?_
    repeat walk_at "dl"
    refine r2_fdiv _ _ rfl rfl ⟨by omega, by omega⟩ ?_
    refine ⟨_, .s (.s (.s (.n .nil))), ?_, rfl⟩
    have e : ch n i * ((n : Int) - (0 + (i : Int))) / (0 + (i : Int) + 1) = ch n (i + 1) := by
      have h := ch_next n i
      rw [show (0 : Int) + (i : Int) = (i : Int) by omega, ← h]
      exact Int.mul_ediv_cancel _ (by omega)
    rw [e]
  · rintro Γ' M' ⟨rfl, rfl⟩
    rw [rngD_length]
    repeat walk_at "dl"
    exact q
def S__law_wproduct : SpD := fun ds M Φ => ∃ ns : List Int, ds = [LI ns] ∧ ns.length ≤ 1000 ∧ (∀ n ∈ ns, -(2 ^ 64) < n ∧ n < 2 ^ 64) ∧ Φ (.int (prodI ns)) M
include G in
theorem ok__law_wproduct : FnOk P w K mg base CX0 1 G.f__law_wproduct G.d__law_wproduct ["numbers"] (spOf K S__law_wproduct) := by
  refine def_ok G.F__law_wproduct sc__law_wproduct (fun ds M Φ h => by obtain ⟨_, rfl, _⟩ := h; rfl) fun cdv A outer s H E hr => ⟨_, (pss_cons (ps_set (i := 1) sc__law_wproduct.nd rfl (by first | exact .inl rfl | exact .inr rfl) pe_int)
(pss_cons (ps_for PassesOwn.never rfl (pi_listK (K := K) rfl (pv 0)) (pg_name (i := 2) sc__law_wproduct.nd rfl (by first | exact .inl rfl | exact .inr rfl))
(pss_one (ps_set (i := 1) sc__law_wproduct.nd rfl (by first | exact .inl rfl | exact .inr rfl) (pe_op op_mulA (pv 1) (pv 2)))))
(pss_one (ps_ret (pv 1))))), fun ds M Φ h => ?_⟩
  try dsimp only [cxOf, L2.Cx.nox, L2.Cx.wish]
  obtain ⟨ns, rfl, hl, hn, q⟩ := h
  repeat walk_at "dl"
  refine zs_for [2] (ei_list ?_)
  repeat walk_at "dl"
  refine ⟨_, .inl rfl, fun i Γ' M' => Γ' = [none, some (.int (prodI (ns.take i))), none] ∧ M' = M, ⟨_, .n (.s (.n .nil)), rfl, rfl⟩, fun i d Γ' M' hx hC => ?_, ?_⟩
  · obtain ⟨rfl, rfl⟩ := hC
    rw [List.getElem?_map] at hx
    cases hn2 : ns[i]? with
    | none => rw [hn2] at hx; cases hx
    | some z =>
      rw [hn2] at hx
      cases hx
      refine eg_name' ?_
      repeat walk_at "dl"
      refine r2_mul _ _ rfl rfl (.inr (hn z (List.mem_of_getElem? hn2))) ?_
      refine ⟨_, .n (.s (.n .nil)), ?_, rfl⟩
      have e : prodI (ns.take (i + 1)) = prodI (ns.take i) * z := by
        unfold prodI
        rw [List.take_add_one, hn2, List.foldl_append]
        rfl
      rw [e]
  · rintro Γ' M' ⟨rfl, rfl⟩
    rw [List.length_map, List.take_length]
    repeat walk_at "dl"
    exact q
/-- a series whose products stay small on one side -/
def GOk (a : List Int) : Prop := a.length ≤ 30 ∧ ∀ m, m < a.length → ∀ k, k ≤ m → CMul (ch m k * a.getD k 0) ((grownL a m).getD (m - k) 0)
def S__law_wgrown : SpD := fun ds M Φ => ∃ ns : List Int, ds = [LI ns] ∧ GOk ns ∧ Φ (LI (grownT ns)) M
include G in
theorem ok__law_wgrown : FnOk P w K mg base CX0 2 G.f__law_wgrown G.d__law_wgrown ["series"] (spOf K S__law_wgrown) := by
  refine def_ok G.F__law_wgrown sc__law_wgrown (fun ds M Φ h => by obtain ⟨_, rfl, _⟩ := h; rfl) fun cdv A outer s H E hr => ⟨_, (pss_cons (ps_set (i := 1) sc__law_wgrown.nd rfl (by first | exact .inl rfl | exact .inr rfl) (pe_lst (pa_cons pe_int pa_nil)))
(pss_cons (ps_for PassesOwn.never rfl (pi_range2 (by rfl) G.b_range (pa_cons pe_int (pa_cons (pe_op (op_addK (K := K) rfl) (pe_callB (call_lenK (K := K) rfl) (by rfl) G.b_len boot_len (pa_cons (pv 0) pa_nil)) pe_int) pa_nil))) (pg_name (i := 2) sc__law_wgrown.nd rfl (.inr rfl))
(pss_one (ps_expr (pe_bmK (K := K) rfl PySem.F.plainAttrs_list PySem.F.slot_list_append PySem.F.type_list_append mt_append (pv 1) (pa_cons (pe_callB (cr_sumK (K := K) rfl rfl) (by rfl) G.b_sum boot_sum (pa_cons (pe_lc (own := [("k", 3)]) (g := (gName 3)) (tt := tYes) rfl sc__law_wgrown.nd (pi_range2 (by rfl) G.b_range (pa_cons pe_int (pa_cons (pe_op (op_addK (K := K) rfl) (pv 2) pe_int) pa_nil))) (blkOk_by (N := n__law_wgrown) (sc := defScope s__law_wgrown) (by decide +kernel)) (fun _ _ _ _ _ => (pg_name (i := 3) sc__law_wgrown.nd rfl (by first | exact .inl rfl | exact .inr rfl))) (fun _ _ _ _ _ => pts_nil) (fun _ _ _ _ _ => (pe_op op_mulA (pe_op op_mulA (pe_call (ok__law_wways G) (hr.mono (by first | exact Nat.le_refl _ | decide)) (by rfl) G.g__law_wways G.F__law_wways.kp G.B__law_wways .nil pass0 (pa_cons (pe_op op_sub (pv 2) pe_int) (pa_cons (pe_op op_sub (pv 3) pe_int) pa_nil))) (pe_ix (ix_seqK (K := K) rfl) (pv 0) (pe_op op_sub (pv 3) pe_int) (fun _ _ => rfl))) (pe_ix (ix_seqK (K := K) rfl) (pv 1) (pe_op op_sub (pv 2) (pv 3)) (fun _ _ => rfl))))) pa_nil)) pa_nil)))))
(pss_one (ps_ret (pe_slice (sl_anyK (K := K) rfl) (pv 1) (po_some pe_int) po_none))))), fun ds M Φ h => ?_⟩
  try dsimp only [cxOf, L2.Cx.nox, L2.Cx.wish]
  obtain ⟨a, rfl, hs, q⟩ := h
  have hl := hs.1
  repeat walk_at "dl"
  refine ev_own (en_lst ?_)
  repeat walk_at "dl"
  refine ⟨by decide, fun p => ?_⟩
  repeat walk_at "dl"
  refine zs_for [2] (ei_rng2 ?_)
  repeat walk_at "dl"
  refine rc_len (LI a) a.length rfl ln_LI ?_
  repeat walk_at "dl"
  have e1 : ((a.length : Int) + 1 - 1).toNat = a.length := by omega
  refine ⟨1, (a.length : Int) + 1, rfl, by omega, ?_⟩
  rw [e1]
  refine ⟨fun i Γ' M' => Γ' = [some (LI a), some (.ptr p), none, none] ∧ M' = (p, .lst ((grownL a i).map .int)) :: M, ⟨_, .s (.s (.n (.n .nil))), rfl, rfl⟩, fun i d Γ' M' hx hC => ?_, ?_⟩
  · obtain ⟨rfl, rfl⟩ := hC
    obtain ⟨hi, rfl⟩ := rngD_get hx
    refine eg_name' ?_
    repeat walk_at "dl"
    refine ev_frz (en_map (ei_rng2 ?_))
    repeat walk_at "dl"
    have e2 : ((1 : Int) + (i : Int) + 1 - 1).toNat = i + 1 := by omega
    refine ⟨1, (1 : Int) + (i : Int) + 1, rfl, by omega, ?_⟩
    rw [e2]
    refine ⟨by rw [rngD_length]; omega, ((List.range (i + 1)).map fun k => ch i k * a.getD k 0 * (grownL a i).getD (i - k) 0).map .int, by rw [List.length_map, List.length_map, List.length_range, rngD_length], fun k d hk => eg_name' ?_, ?_⟩
    · obtain ⟨hk2, rfl⟩ := rngD_get hk
      repeat walk_at "dl"
      refine ⟨i, k, by rw [show (1 : Int) + (i : Int) - 1 = (i : Int) by omega, show (1 : Int) + (k : Int) - 1 = (k : Int) by omega], by omega, by omega, ?_⟩
      repeat walk_at "dl"
      refine r2_ixL _ (.lst _) rfl (atI_i (k := k) (by omega) (by omega)) ?_
      repeat walk_at "dl"
      refine r2_mul _ _ rfl rfl (cm_l (ch_lt (by omega))) ?_
      repeat walk_at "dl"
      refine r2_ixL _ lq0 rfl (atI_i (k := i - k) (by omega) (by rw [grownL_length]; omega)) ?_
      repeat walk_at "dl"
      refine r2_mul _ _ rfl rfl (hs.2 i (by omega) k (by omega)) ?_
      refine ⟨?_, rfl⟩
      rw [List.getElem?_map, List.getElem?_map, List.getElem?_range hk2]
      rfl
    · repeat walk_at "dl"
      refine rc_sum _ _ rfl (.lst _) ?_
      repeat walk_at "dl"
      refine rm_append (ds := (grownL a i).map .int) 0 _ rfl rfl rfl (by rw [List.length_map, grownL_length]; omega) ?_
      refine ⟨_, .s (.s (.n (.n .nil))), rfl, ?_⟩
      rw [grownL, List.map_append]
      rfl
  · rintro Γ' M' ⟨rfl, rfl⟩
    rw [rngD_length]
    refine es_letgo 1 0 rfl rfl ?_
    repeat walk_at "dl"
    refine rs_frz (rs_list (.lst _) ?_)
    have e3 : DL.cutD ((grownL a a.length).map .int) (some 1) none = (grownT a).map .int := by
      unfold grownT
      rw [show ((1 : Int)) = ((1 : Nat) : Int) from rfl, cutD_from (by rw [List.length_map, grownL_length]; omega), List.map_drop]
    show Φ (.lst (DL.cutD ((grownL a a.length).map .int) (some 1) none)) M
    rw [e3]
    exact q
end
end K30


set_option Elab.async false
set_option linter.all false
set_option maxRecDepth 100000
set_option maxHeartbeats 4000000
namespace K30
open PySem PySem.Spec PyProof.Rows L2 StX DL
local macro_rules | `(tactic| walk_at "dl") => `(tactic| with_reducible first
  | refine zs_seq ?_ | refine zs_set ?_ | refine zs_drop ?_ | refine zs_ret ?_ | refine zs_if ?_ | refine zs_next ?_ | refine zs_par ?_
  | refine ev_int ?_ | refine ev_bl ?_ | refine ev_str ?_ | refine ev_non ?_ | refine ev_ty ?_
  | refine ev_op ?_ | refine ev_un ?_ | refine ev_cb ?_ | refine ev_call ?_ | refine ea_cons ?_ | refine ea_nil ?_
  | refine ev_andV ?_ | refine ev_orV ?_ | refine ev_notV ?_ | refine ev_ifx ?_ | refine ev_chain ?_ | refine ev_sl ?_ | refine eo_none ?_ | refine eo_some ?_
  | refine et_test ?_ | refine et_B ?_ | refine et_and ?_ | refine et_or ?_ | refine et_not ?_ | refine et_yes ?_
  | refine r2_add _ _ rfl rfl ?_ | refine r2_sub _ _ rfl rfl ?_ | refine r2_lt _ _ rfl rfl ?_ | refine r2_le _ _ rfl rfl ?_ | refine r2_gt _ _ rfl rfl ?_ | refine r2_ge _ _ rfl rfl ?_
  | refine r1_neg _ rfl ?_ | refine ev_bm ?_ | refine ev_bm0 ?_ | refine ⟨dty0, ?_⟩ | refine ⟨dty1, ?_⟩ | refine ⟨dty2, ?_⟩ | refine ⟨_, SQ.lst _, ?_⟩ | refine ⟨_, sq0, ?_⟩ | refine ⟨_, sq1, ?_⟩ | refine ea_star ?_
  | refine ⟨_, rfl, ?_⟩ | refine iteT ?_ | refine iteF ?_ | refine iteNT ?_ | refine iteNF ?_)
local macro_rules | `(tactic| walk_at "dl") => `(tactic| ((with_reducible refine' ev_var ?hv ?_); (case hv => rfl)))
local macro_rules | `(tactic| walk_at "gle") => `(tactic| repeat (first | exact GLe.nil | apply GLe.s | apply GLe.n))
section
variable {P : Program} {w : World} {K : PySem.W.Frag} {mg : Str → Option Value} {base : Heap} (G : Glb K mg)
abbrev LL (hs : List (List Int)) : D := .lst (hs.map LI)
abbrev LLL (f : List (List (List Int))) : D := .lst (f.map LL)
def S__law_wheapsof : SpD := fun ds M Φ => ∃ ns : List Int, ds = [LI ns] ∧ ns.length ≤ 6 ∧ Φ (LLL (heapsL ns)) M
include G in
theorem ok__law_wheapsof : FnOk P w K mg base CX0 1 G.f__law_wheapsof G.d__law_wheapsof ["names"] (spOf K S__law_wheapsof) := by
  refine def_ok G.F__law_wheapsof sc__law_wheapsof (fun ds M Φ h => by obtain ⟨_, rfl, _⟩ := h; rfl) fun cdv A outer s H E hr => ⟨_, (pss_cons (ps_set (i := 1) sc__law_wheapsof.nd rfl (by first | exact .inl rfl | exact .inr rfl) (pe_lst (pa_cons (pe_lst pa_nil) pa_nil)))
(pss_cons (ps_for PassesOwn.never rfl (pi_listK (K := K) rfl (pv 0)) (pg_name (i := 2) sc__law_wheapsof.nd rfl (.inr rfl))
(pss_cons (ps_set (i := 3) sc__law_wheapsof.nd rfl (by first | exact .inl rfl | exact .inr rfl) (pe_lst pa_nil))
(pss_cons (ps_for PassesOwn.never rfl (pi_listK (K := K) rfl (pv 1)) (pg_name (i := 4) sc__law_wheapsof.nd rfl (.inr rfl))
(pss_one (ps_set (i := 3) sc__law_wheapsof.nd rfl (by first | exact .inl rfl | exact .inr rfl) (pe_op (op_addK (K := K) rfl) (pe_op (op_addK (K := K) rfl) (pv 3) (pe_lc (own := [("at", 5)]) (g := (gName 5)) (tt := tYes) rfl sc__law_wheapsof.nd (pi_range1 (by rfl) G.b_range (pa_cons (pe_callB (call_lenK (K := K) rfl) (by rfl) G.b_len boot_len (pa_cons (pv 4) pa_nil)) pa_nil)) (blkOk_by (N := n__law_wheapsof) (sc := defScope s__law_wheapsof) (by decide +kernel)) (fun _ _ _ _ _ => (pg_name (i := 5) sc__law_wheapsof.nd rfl (by first | exact .inl rfl | exact .inr rfl))) (fun _ _ _ _ _ => pts_nil) (fun _ _ _ _ _ => (pe_op (op_addK (K := K) rfl) (pe_op (op_addK (K := K) rfl) (pe_slice (sl_anyK (K := K) rfl) (pv 4) po_none (po_some (pv 5))) (pe_lst (pa_cons (pe_op (op_addK (K := K) rfl) (pe_ix (ix_seqK (K := K) rfl) (pv 4) (pv 5) (fun _ _ => rfl)) (pe_lst (pa_cons (pv 2) pa_nil))) pa_nil))) (pe_slice (sl_anyK (K := K) rfl) (pv 4) (po_some (pe_op (op_addK (K := K) rfl) (pv 5) pe_int)) po_none))))) (pe_lst (pa_cons (pe_op (op_addK (K := K) rfl) (pv 4) (pe_lst (pa_cons (pe_lst (pa_cons (pv 2) pa_nil)) pa_nil))) pa_nil))))))
(pss_one (ps_set (i := 1) sc__law_wheapsof.nd rfl (by first | exact .inl rfl | exact .inr rfl) (pv 3))))))
(pss_one (ps_ret (pv 1))))), fun ds M Φ h => ?_⟩
  try dsimp only [cxOf, L2.Cx.nox, L2.Cx.wish]
  obtain ⟨ns, rfl, hl, q⟩ := h
  repeat walk_at "dl"
  refine ev_frz (en_lst ?_)
  repeat walk_at "dl"
  refine ev_frz (en_lst ?_)
  repeat walk_at "dl"
  refine ⟨by decide, ?_⟩
  repeat walk_at "dl"
  refine ⟨by simp, ?_⟩
  repeat walk_at "dl"
  refine zs_for [2] (ei_list ?_)
  repeat walk_at "dl"
  refine ⟨_, .inl rfl, fun i Γ' M' => Γ' = [none, some (LLL (heapsL (ns.take i))), none, none, none, none] ∧ M' = M, ⟨_, .n (.s (.n (.n (.n (.n .nil))))), rfl, rfl⟩, fun i d Γ' M' hx hC => ?_, ?_⟩
  · obtain ⟨rfl, rfl⟩ := hC
    rw [List.getElem?_map] at hx
    cases hn2 : ns[i]? with
    | none => rw [hn2] at hx; cases hx
    | some z =>
      rw [hn2] at hx
      cases hx
      have hi : i < ns.length := (List.getElem?_eq_some_iff.mp hn2).1
      have hti : (ns.take i).length = i := by rw [List.length_take]; omega
      obtain ⟨hb1, hb2⟩ := heapsL_ok i (ns.take i) hti
      have hb3 := heapBd_le (i := i) (by omega)
      have htn : ns.take (i + 1) = ns.take i ++ [z] := by rw [List.take_add_one, hn2]; rfl
      generalize hf : heapsL (ns.take i) = f at hb1 hb2
      refine eg_name' ?_
      repeat walk_at "dl"
      refine ev_frz (en_lst ?_)
      repeat walk_at "dl"
      refine ⟨by decide, ?_⟩
      repeat walk_at "dl"
      refine zs_for [4] (ei_list ?_)
      repeat walk_at "dl"
      refine ⟨_, .inl rfl, fun j Γ2 M2 => Γ2 = [none, none, some (.int z), some (LLL ((f.take j).map (heapStep z)).flatten), none, none] ∧ M2 = M', ⟨_, .n (.n (.s (.s (.n (.n .nil))))), rfl, rfl⟩, fun j d Γ2 M2 hx2 hC => ?_, ?_⟩
      · obtain ⟨rfl, rfl⟩ := hC
        rw [List.getElem?_map] at hx2
        cases hh : f[j]? with
        | none => rw [hh] at hx2; cases hx2
        | some hs =>
          rw [hh] at hx2
          cases hx2
          have hok := hb2 hs (List.mem_of_getElem? hh)
          have hjl : j < f.length := (List.getElem?_eq_some_iff.mp hh).1
          have hsz := flatten_le (heapStep z) (i + 1) (f.take j) fun x hx => by
            rw [heapStep_length]
            have := (hb2 x (List.mem_of_mem_take hx)).1
            omega
          have hsz2 : ((f.take j).map (heapStep z)).flatten.length ≤ 720 * 7 := Nat.le_trans hsz (Nat.mul_le_mul (by rw [List.length_take]; omega) (by omega))
          have hok1 := hok.1
          refine eg_name' ?_
          repeat walk_at "dl"
          refine ev_frz (en_map (ei_rng1 ?_))
          repeat walk_at "dl"
          refine rc_len (LL hs) hs.length rfl (ln_of (.lst _) (by rw [List.length_map])) ?_
          repeat walk_at "dl"
          have e0 : ((hs.length : Int)).toNat = hs.length := by omega
          rw [e0]
          refine ⟨by omega, by omega, by rw [rngD_length]; omega, ((List.range hs.length).map fun k => hs.take k ++ [hs.getD k [] ++ [z]] ++ hs.drop (k + 1)).map LL, by rw [List.length_map, List.length_map, List.length_range, rngD_length], fun k d hk => eg_name' ?_, ?_⟩
          · obtain ⟨hk2, rfl⟩ := rngD_get hk
            have hgk : hs[k]? = some (hs.getD k []) := by
              rw [List.getD_eq_getElem?_getD, List.getElem?_eq_getElem hk2]
              rfl
            have hlk := hok.2 _ (List.mem_of_getElem? hgk)
            repeat walk_at "dl"
            refine rs_frz (rs_list (.lst _) ?_)
            repeat walk_at "dl"
            refine ev_frz (en_lst ?_)
            repeat walk_at "dl"
            refine r2_ixL _ (.lst _) rfl (atI_of (k := k) (by omega) (by rw [List.getElem?_map, hgk]; rfl)) ?_
            repeat walk_at "dl"
            refine ev_frz (en_lst ?_)
            repeat walk_at "dl"
            refine ⟨by simp, ?_⟩
            refine r2_frz (r2_cat (.lst _) (.lst _) (by simp only [List.length_map, List.length_cons, List.length_nil]; omega) ?_)
            repeat walk_at "dl"
            refine ⟨by simp, ?_⟩
            have ec : DL.cutD (hs.map LI) none (some (0 + (k : Int))) = (hs.take k).map LI := by
              rw [show (0 : Int) + (k : Int) = (k : Int) by omega, cutD_to (by rw [List.length_map]; omega), List.map_take]
            have ed : DL.cutD (hs.map LI) (some (0 + (k : Int) + 1)) none = (hs.drop (k + 1)).map LI := by
              rw [show (0 : Int) + (k : Int) + 1 = ((k + 1 : Nat) : Int) by omega, cutD_from (by rw [List.length_map]; omega), List.map_drop]
            refine r2_frz (r2_cat (.lst _) (.lst _) (by rw [ec]; simp; omega) ?_)
            repeat walk_at "dl"
            refine rs_frz (rs_list (.lst _) ?_)
            refine r2_frz (r2_cat (.lst _) (.lst _) (by rw [ec, ed]; simp; omega) ?_)
            refine ⟨?_, rfl⟩
            rw [ec, ed, List.getElem?_map, List.getElem?_map, List.getElem?_range hk2]
            simp [LL, LI, O.d]
          · refine r2_frz (r2_cat (.lst _) (.lst _) (by rw [List.length_map, List.length_map, List.length_map, List.length_range]; omega) ?_)
            repeat walk_at "dl"
            refine ev_frz (en_lst ?_)
            repeat walk_at "dl"
            refine ev_frz (en_lst ?_)
            repeat walk_at "dl"
            refine ev_frz (en_lst ?_)
            repeat walk_at "dl"
            refine ⟨by simp, ?_⟩
            repeat walk_at "dl"
            refine ⟨by simp, ?_⟩
            refine r2_frz (r2_cat (.lst _) (.lst _) (by simp; omega) ?_)
            repeat walk_at "dl"
            refine ⟨by simp, ?_⟩
            refine r2_frz (r2_cat (.lst _) (.lst _) (by simp only [List.length_append, List.length_map, List.length_range, List.length_cons, List.length_nil]; omega) ?_)
            refine ⟨_, .n (.n (.s (.s (.n (.n .nil))))), ?_, rfl⟩
            rw [List.take_add_one, hh, List.map_append, List.flatten_append]
            simp [LLL, LL, LI, O.d, heapStep]
      · rintro Γ2 M2 ⟨rfl, rfl⟩
        rw [List.length_map, List.take_length]
        repeat walk_at "dl"
        refine ⟨_, .n (.s (.n (.n (.n (.n .nil))))), ?_, rfl⟩
        rw [htn, heapsL_snoc, hf]
  · rintro Γ' M' ⟨rfl, rfl⟩
    rw [List.length_map, List.take_length]
    repeat walk_at "dl"
    exact q
end
end K30


set_option Elab.async false
set_option linter.all false
set_option maxRecDepth 100000
set_option maxHeartbeats 4000000
namespace K30
open PySem PySem.Spec PyProof.Rows L2 StX DL
local macro_rules | `(tactic| walk_at "dl") => `(tactic| with_reducible first
  | refine zs_seq ?_ | refine zs_set ?_ | refine zs_drop ?_ | refine zs_ret ?_ | refine zs_if ?_ | refine zs_next ?_ | refine zs_par ?_
  | refine ev_int ?_ | refine ev_bl ?_ | refine ev_str ?_ | refine ev_non ?_ | refine ev_ty ?_
  | refine ev_op ?_ | refine ev_un ?_ | refine ev_cb ?_ | refine ev_call ?_ | refine ea_cons ?_ | refine ea_nil ?_
  | refine ev_andV ?_ | refine ev_orV ?_ | refine ev_notV ?_ | refine ev_ifx ?_ | refine ev_chain ?_ | refine ev_sl ?_ | refine eo_none ?_ | refine eo_some ?_
  | refine et_test ?_ | refine et_B ?_ | refine et_and ?_ | refine et_or ?_ | refine et_not ?_ | refine et_yes ?_
  | refine r2_add _ _ rfl rfl ?_ | refine r2_sub _ _ rfl rfl ?_ | refine r2_lt _ _ rfl rfl ?_ | refine r2_le _ _ rfl rfl ?_ | refine r2_gt _ _ rfl rfl ?_ | refine r2_ge _ _ rfl rfl ?_
  | refine r1_neg _ rfl ?_ | refine ev_bm ?_ | refine ev_bm0 ?_ | refine ⟨dty0, ?_⟩ | refine ⟨dty1, ?_⟩ | refine ⟨dty2, ?_⟩ | refine ⟨_, SQ.lst _, ?_⟩ | refine ⟨_, sq0, ?_⟩ | refine ⟨_, sq1, ?_⟩ | refine ea_star ?_
  | refine ⟨_, rfl, ?_⟩ | refine iteT ?_ | refine iteF ?_ | refine iteNT ?_ | refine iteNF ?_)
local macro_rules | `(tactic| walk_at "dl") => `(tactic| ((with_reducible refine' ev_var ?hv ?_); (case hv => rfl)))
local macro_rules | `(tactic| walk_at "gle") => `(tactic| repeat (first | exact GLe.nil | apply GLe.s | apply GLe.n))
section
variable {P : Program} {w : World} {K : PySem.W.Frag} {mg : Str → Option Value} {base : Heap} (G : Glb K mg)
theorem rngD_Z (lo : Int) (n : Nat) : rngD lo n = (rangeZ lo n).map .int := by
  unfold rngD rangeZ
  rw [List.map_map]
  rfl
/-- a list of draws -/
theorem en_draws {wi : TI} {j : Nat} {vs : List Nat} {Γ : Gm} {M : Ms} {Φ : O → Ms → Prop} {a : Addr} {B : Ms} (m c : Int) (hm : 0 < m ∧ m < 1073741824) (hj : j ∈ vs) (hj1 : j ≠ 1) (hv : (wipeG Γ vs)[1]? = some (some (.ptr a)))
    (h : EI K wi Γ M fun xs M1 => ∃ n : Int, xs.length ≤ 100 ∧ n + xs.length ≤ 1000000000 ∧ Strm a n B M1 ∧ ∀ (zs : List Int) M2, zs.length = xs.length → (∀ z ∈ zs, -c ≤ z ∧ z < m - c) → Strm a (n + xs.length) B M2 → Φ (.lst (zs.map .int)) M2) :
    EN K (tLc wi (gName j) tYes (tOp (rI0 fun i j => V.int (i - j)) (tCall (spOf K S__law_below) [] E0 (tCons (tVar 1) (tCons (tC (V.int m)) tNil))) (tC (V.int c))) vs) Γ M Φ := by
  refine en_lc ?_
  intro σ F H S R Rw q
  refine h σ F H S R Rw fun J F' H' xs M' x r jk ⟨n, hl, hn, hs, k⟩ => q J F' H' xs M' x r jk ⟨by omega, fun i acc M2 => ∃ zs : List Int, acc = zs.map .int ∧ zs.length = i ∧ (∀ z ∈ zs, -c ≤ z ∧ z < m - c) ∧ Strm a (n + i) B M2, ⟨[], rfl, rfl, (fun z hz => absurd hz List.not_mem_nil), by simpa using hs⟩, ?_, ?_⟩
  · rintro i d acc M2 hx ⟨zs, rfl, hzl, hz, hs2⟩
    have hi : i < xs.length := (List.getElem?_eq_some_iff.mp hx).1
    refine eg_name hj (et_yes (iteT ?_))
    refine ev_op (ev_call (ea_cons (ev_var (by rw [List.getElem?_set_ne hj1]; exact hv) (ea_cons (ev_int (ea_nil ⟨a, m, n + i, B, rfl, hm.1, hm.2, by omega, hs2, fun r M3 h1 h2 h3 => ev_int (r2_sub _ _ rfl rfl ?_)⟩))))))
    refine ⟨zs ++ [r - c], by rw [List.map_append]; rfl, by rw [List.length_append, hzl]; rfl, fun z hz2 => ?_, h3.mono (by omega)⟩
    rcases List.mem_append.mp hz2 with hz2 | hz2
    · exact hz z hz2
    · have e : z = r - c := by simpa using hz2
      omega
  · rintro acc M2 ⟨zs, rfl, hzl, hz, hs2⟩
    exact k zs M2 hzl hz hs2
theorem same_LI {r : Nat} {ns : List Int} (h : ns.length ≤ 1000) : SameD (r + 2) (LI ns) :=
  .inr (.inr ⟨_, rfl, by rw [List.length_map]; exact h, fun x hx => by obtain ⟨n, _, rfl⟩ := List.mem_map.mp hx; exact .inl ⟨n, rfl⟩⟩)
theorem same_bl {r : Nat} (b : Bool) : SameD (r + 1) (.bl b) := .inr (.inl ⟨b, rfl⟩)
theorem same_int {r : Nat} (i : Int) : SameD (r + 1) (.int i) := .inl ⟨i, rfl⟩
theorem same_2 {r : Nat} {x y : D} (hx : SameD r x) (hy : SameD r y) : SameD (r + 1) (.lst [x, y]) := .inr (.inr ⟨_, rfl, by simp, fun z hz => by
  rcases List.mem_cons.mp hz with rfl | hz
  · exact hx
  · have e : z = y := by simpa using hz
    subst e
    exact hy⟩)
theorem same_3 {r : Nat} {x y u : D} (hx : SameD r x) (hy : SameD r y) (hu : SameD r u) : SameD (r + 1) (.lst [x, y, u]) := .inr (.inr ⟨_, rfl, by simp, fun z hz => by
  rcases List.mem_cons.mp hz with rfl | hz
  · exact hx
  · rcases List.mem_cons.mp hz with rfl | hz
    · exact hy
    · have e : z = u := by simpa using hz
      subst e
      exact hu⟩)
theorem GOk.ser {a : List Int} (h : Ser a) : GOk a := ⟨h.1, fun m hm k hk => by
  have hl := h.1
  have b1 : 0 ≤ ch m k ∧ ch m k ≤ 2 ^ 30 := ⟨ch_nn m k, Int.le_trans (ch_le m k) (by have : (2 : Nat) ^ m ≤ 2 ^ 30 := Nat.pow_le_pow_right (by decide) (by omega); exact_mod_cast this)⟩
  have b2 := h.at (k := k) (by omega)
  have b3 := mul_bd b1.1 b1.2 b2.1 b2.2
  exact .inl ⟨by omega, by omega⟩⟩
theorem mem_at {α : Type} {l : List α} {f : α → D} {i : Nat} {d : D} (h : (l.map f)[i]? = some d) : ∃ x, l[i]? = some x ∧ d = f x := by
  rw [List.getElem?_map] at h
  cases hx : l[i]? with
  | none => rw [hx] at h; cases h
  | some x => rw [hx] at h; exact ⟨x, rfl, (Option.some.inj h).symm⟩
theorem map_at {α β : Type} {l : List α} {g : α → β} {f : β → D} {i : Nat} {x : α} (h : l[i]? = some x) : ((l.map g).map f)[i]? = some (f (g x)) := by
  rw [List.getElem?_map, List.getElem?_map, h]
  rfl
theorem prodI_bd (c : Int) (hc : 0 ≤ c) : ∀ (l : List Int) (s : Int), (∀ z ∈ l, -c ≤ z ∧ z ≤ c) → -(c ^ l.length * s.natAbs) ≤ l.foldl (· * ·) s ∧ l.foldl (· * ·) s ≤ c ^ l.length * s.natAbs
  | [], s, _ => by
    simp
    omega
  | z :: r, s, h => by
    have hz := h z List.mem_cons_self
    have ih := prodI_bd c hc r (s * z) fun y hy => h y (List.mem_cons_of_mem _ hy)
    have e : (((s * z).natAbs : Nat) : Int) ≤ s.natAbs * c := by
      rw [Int.natAbs_mul]
      push_cast
      exact Int.mul_le_mul_of_nonneg_left (by omega) (by omega)
    have k : c ^ r.length * ((s * z).natAbs : Int) ≤ c ^ (r.length + 1) * s.natAbs := by
      rw [Int.pow_succ, Int.mul_assoc, Int.mul_comm c]
      exact Int.mul_le_mul_of_nonneg_left e (Int.pow_nonneg hc)
    rw [List.foldl_cons, List.length_cons]
    omega
theorem prodI_lt {l : List Int} (hl : l.length ≤ 6) (h : ∀ z ∈ l, -6 ≤ z ∧ z ≤ 6) : -(2 ^ 64) < prodI l ∧ prodI l < 2 ^ 64 := by
  have h1 := prodI_bd 6 (by decide) l 1 h
  have h2 : (6 : Int) ^ l.length ≤ 6 ^ 6 := by
    have : (6 : Nat) ^ l.length ≤ 6 ^ 6 := Nat.pow_le_pow_right (by decide) hl
    exact_mod_cast this
  have h3 : (6 : Int) ^ 6 < 2 ^ 64 := by decide
  unfold prodI
  simp at h1
  omega
theorem ungrownT_length (a : List Int) : (ungrownT a).length = a.length := ungrownL_length a _
theorem ev_pick {p : Prop} [Decidable p] {Γ : Gm} {M : Ms} {Φ : D → Ms → Prop} {ta : TE} {x c : Int} (h1 : ∀ Φ' : D → Ms → Prop, Φ' (.int x) M → EV K ta Γ M Φ') (h : Φ (.int (if p then x else c)) M) : if decide p = true then EV K ta Γ M Φ else EV K (tC (.int c)) Γ M Φ := by
  refine dite_bl (fun hp => h1 Φ ?_) (fun hp => ev_int ?_)
  · rw [if_pos hp] at h
    exact h
  · rw [if_neg hp] at h
    exact h
theorem atI_neg1 {ns : List Int} {k : Nat} {x : Int} (hl : ns.length = k + 1) (hx : ns[k]? = some x) : atI (ns.map D.int) (-1) = some (.int x) := by
  obtain ⟨hk, hx⟩ := List.getElem?_eq_some_iff.mp hx
  have e : ns = ns.take k ++ [x] := by
    conv => lhs; rw [← List.take_append_drop k ns]
    rw [List.drop_eq_getElem_cons hk, hx, List.drop_eq_nil_of_le (by omega)]
  rw [e, List.map_append]
  exact atI_last _ _
/-- the product of what a parting's lists have -/
theorem ev_term1 {Γ : Gm} {M : Ms} {Φ : D → Ms → Prop} {small : List Int} {hs : List (List Int)} {n : Nat} (hg : Γ.length = 24) (h3 : Γ[3]? = some (some (LI small))) (h19 : Γ[19]? = some (some (LL hs))) (ok : HeapOk n hs) (hn : n ≤ small.length) (h6 : small.length ≤ 6)
    (hsm : ∀ z ∈ small, -4 ≤ z ∧ z < 9 - 4) (q : Φ (.int (term1 small hs)) M) : EV K (tCall (spOf K S__law_wproduct) [] E0 (tCons (tLc (iList K (tVar 19)) (gName 23) tYes (tOp (rIx K) (tVar 3) (tOp (rI0 fun i j => V.int (i - j))
      (tCB (fun xs H Q => ∃ x n, xs = [x] ∧ LenV K x H n ∧ Q (V.int (n : Nat)) H) (tCons (tVar 23) tNil)) (tC (V.int 1)))) [23]) tNil)) Γ M Φ := by
  have hok1 := ok.1
  have e3 : ∀ d, ((wipeG Γ [23]).set 23 (some d))[3]? = some (some (LI small)) := fun d => by
    show ((Γ.set 23 none).set 23 (some d))[3]? = _
    rw [List.getElem?_set_ne (by decide), List.getElem?_set_ne (by decide)]
    exact h3
  have e23 : ∀ d, ((wipeG Γ [23]).set 23 (some d))[23]? = some (some d) := fun d => by
    show ((Γ.set 23 none).set 23 (some d))[23]? = _
    rw [List.getElem?_set_self (by rw [List.length_set]; omega)]
  repeat walk_at "dl"
  refine ev_frz (en_map (ei_list (ev_var h19 ?_)))
  refine ⟨_, .inl rfl, by rw [List.length_map]; omega, (hs.map fun h : List Int => small.getD (h.length - 1) 0).map .int, by rw [List.length_map, List.length_map, List.length_map], fun k d hk => eg_name' ?_, ?_⟩
  · obtain ⟨h, hk2, rfl⟩ := mem_at hk
    have hl := ok.2 h (List.mem_of_getElem? hk2)
    refine ev_op (ev_var (e3 _) (ev_op (ev_cb (ea_cons (ev_var (e23 _) (ea_nil ?_))))))
    refine rc_len (LI h) h.length rfl ln_LI ?_
    repeat walk_at "dl"
    refine r2_ixL _ (.lst _) rfl (atI_i (k := h.length - 1) (by omega) (by omega)) ?_
    exact ⟨map_at hk2, rfl⟩
  · repeat walk_at "dl"
    refine ⟨hs.map fun h : List Int => small.getD (h.length - 1) 0, rfl, by rw [List.length_map]; omega, fun z hz => ?_, q⟩
    obtain ⟨h, hh, rfl⟩ := List.mem_map.mp hz
    have hl := ok.2 h hh
    have := hsm _ (getD_mem (a := small) (k := h.length - 1) (by omega))
    omega
theorem GOk.un {a : List Int} (h : Ser a) : GOk (ungrownT a) := ⟨by rw [ungrownT, ungrownL_length]; exact h.1, fun m hm k hk => .inr (by
  rw [ungrownT, ungrownL_length] at hm
  rw [grownL_un a (by omega)]
  have e : ((1 :: a).take (m + 1)).getD (m - k) 0 = (1 :: a).getD (m - k) 0 := by
    rw [List.getD_eq_getElem?_getD, List.getD_eq_getElem?_getD, List.getElem?_take, if_pos (by omega)]
  rw [e]
  have := ser_one h (k := m - k) (by omega)
  omega)⟩
theorem rep_int (n : Nat) (z : Int) : (List.replicate n [D.int z]).flatten = (List.replicate n z).map .int := by
  induction n with
  | zero => rfl
  | succ n ih => rw [List.replicate_succ, List.flatten_cons, ih, List.replicate_succ, List.map_cons]; rfl
def S_law : SpD := fun ds M Φ => ∃ ns : List Int, ds = [.rol (ns.map .int)] ∧ ns.length ≤ 63 ∧ ∀ M', Φ (.bl true) M'
include G in
theorem ok_law : FnOk P w K mg base CX0 6 G.f_law G.d_law ["script"] (spOf K S_law) := by
  refine def_ok G.F_law sc_law (fun ds M Φ h => by obtain ⟨_, rfl, _⟩ := h; rfl) fun cdv A outer s H E hr => ⟨_, (pss_cons (ps_set (i := 1) sc_law.nd rfl (by first | exact .inl rfl | exact .inr rfl) (pe_call (ok__law_start G) (hr.mono (by first | exact Nat.le_refl _ | decide)) (by rfl) G.g__law_start G.F__law_start.kp G.B__law_start .nil pass0 (pa_cons (pv 0) pa_nil)))
(pss_cons (ps_for PassesOwn.never rfl (pi_range1 (by rfl) G.b_range (pa_cons pe_int pa_nil)) (pg_name (i := 2) sc_law.nd rfl (by first | exact .inl rfl | exact .inr rfl))
(pss_cons (ps_set (i := 3) sc_law.nd rfl (by first | exact .inl rfl | exact .inr rfl) (pe_lc (own := [("k", 18)]) (g := (gName 18)) (tt := tYes) rfl sc_law.nd (pi_range1 (by rfl) G.b_range (pa_cons (pe_op (op_addK (K := K) rfl) pe_int (pe_call (ok__law_below G) (hr.mono (by first | exact Nat.le_refl _ | decide)) (by rfl) G.g__law_below G.F__law_below.kp G.B__law_below .nil pass0 (pa_cons (pv 1) (pa_cons pe_int pa_nil)))) pa_nil)) (blkOk_by (N := n_law) (sc := defScope s_law) (by decide +kernel)) (fun _ _ _ _ _ => (pg_name (i := 18) sc_law.nd rfl (by first | exact .inl rfl | exact .inr rfl))) (fun _ _ _ _ _ => pts_nil) (fun _ _ _ _ _ => (pe_op op_sub (pe_call (ok__law_below G) (hr.mono (by first | exact Nat.le_refl _ | decide)) (by rfl) G.g__law_below G.F__law_below.kp G.B__law_below .nil pass0 (pa_cons (pv 1) (pa_cons pe_int pa_nil))) pe_int))))
(pss_cons (ps_set (i := 4) sc_law.nd rfl (by first | exact .inl rfl | exact .inr rfl) (pe_lst pa_nil))
(pss_cons (ps_for PassesOwn.never rfl (pi_range2 (by rfl) G.b_range (pa_cons pe_int (pa_cons (pe_op (op_addK (K := K) rfl) (pe_callB (call_lenK (K := K) rfl) (by rfl) G.b_len boot_len (pa_cons (pv 3) pa_nil)) pe_int) pa_nil))) (pg_name (i := 5) sc_law.nd rfl (.inr rfl))
(pss_one (ps_expr (pe_bmK (K := K) rfl PySem.F.plainAttrs_list PySem.F.slot_list_append PySem.F.type_list_append mt_append (pv 4) (pa_cons (pe_callB (cr_sumK (K := K) rfl rfl) (by rfl) G.b_sum boot_sum (pa_cons (pe_lc (own := [("heaps", 19)]) (g := (gName 19)) (tt := tYes) rfl sc_law.nd (pi_listK (K := K) rfl (pe_call (ok__law_wheapsof G) (hr.mono (by first | exact Nat.le_refl _ | decide)) (by rfl) G.g__law_wheapsof G.F__law_wheapsof.kp G.B__law_wheapsof .nil pass0 (pa_cons (pe_listRg rfl (by rfl) G.b_list (prg_1 (by rfl) G.b_range (pv 5))) pa_nil))) (blkOk_by (N := n_law) (sc := defScope s_law) (by decide +kernel)) (fun _ _ _ _ _ => (pg_name (i := 19) sc_law.nd rfl (by first | exact .inl rfl | exact .inr rfl))) (fun _ _ _ _ _ => pts_nil) (fun _ _ _ _ _ => (pe_call (ok__law_wproduct G) (hr.mono (by first | exact Nat.le_refl _ | decide)) (by rfl) G.g__law_wproduct G.F__law_wproduct.kp G.B__law_wproduct .nil pass0 (pa_cons (pe_lc (own := [("heap", 23)]) (g := (gName 23)) (tt := tYes) rfl sc_law.nd (pi_listK (K := K) rfl (pv 19)) (blkOk_by (N := n_law) (sc := L2.relS _ (defScope s_law)) (by decide +kernel)) (fun _ _ _ _ _ => (pg_name (i := 23) sc_law.nd rfl (by first | exact .inl rfl | exact .inr rfl))) (fun _ _ _ _ _ => pts_nil) (fun _ _ _ _ _ => (pe_ix (ix_seqK (K := K) rfl) (pv 3) (pe_op op_sub (pe_callB (call_lenK (K := K) rfl) (by rfl) G.b_len boot_len (pa_cons (pv 23) pa_nil)) pe_int) (fun _ _ => rfl)))) pa_nil)))) pa_nil)) pa_nil)))))
(pss_cons (ps_if (PW.pt (pw_or (pt_not (pt_val (pe_call (ok_same G 5) (hr.mono (by first | exact Nat.le_refl _ | decide)) (by rfl) G.g__law_same G.F__law_same.kp G.B__law_same .nil pass0 (pa_cons (pe_lst (pa_cons (pe_call (ok_grown G) (hr.mono (by first | exact Nat.le_refl _ | decide)) (by rfl) G.g_grown G.F_grown.kp G.B_grown .nil pass0 (pa_cons (pv 3) pa_nil)) (pa_cons (pe_call (ok_is_series G) (hr.mono (by first | exact Nat.le_refl _ | decide)) (by rfl) G.g_is_series G.F_is_series.kp G.B_is_series .nil pass0 (pa_cons (pv 3) pa_nil)) pa_nil))) (pa_cons (pe_lst (pa_cons (pv 4) (pa_cons pe_bl pa_nil))) pa_nil))))) (pw_or1 (pt_cmpR (op_neK (K := K) rfl hr.units) (pv 4) (pe_call (ok__law_wgrown G) (hr.mono (by first | exact Nat.le_refl _ | decide)) (by rfl) G.g__law_wgrown G.F__law_wgrown.kp G.B__law_wgrown .nil pass0 (pa_cons (pv 3) pa_nil)) (nomark _)))))
(pss_one ps_never)
pss_nil)
(pss_cons (ps_if (PW.pt (pw_and (pt_cmpR op_le (pe_callB (cr_maxK (K := K) rfl rfl) (by rfl) G.b_max boot_max (pa_cons (pe_lc (own := [("number", 20)]) (g := (gName 20)) (tt := tYes) rfl sc_law.nd (pi_listK (K := K) rfl (pv 4)) (blkOk_by (N := n_law) (sc := defScope s_law) (by decide +kernel)) (fun _ _ _ _ _ => (pg_name (i := 20) sc_law.nd rfl (by first | exact .inl rfl | exact .inr rfl))) (fun _ _ _ _ _ => pts_nil) (fun _ _ _ _ _ => (pe_callB call_abs (by rfl) G.b_abs boot_abs (pa_cons (pv 20) pa_nil)))) pa_nil)) pe_int (nomark _)) (pw_and1 (pt_not (pt_val (pe_call (ok_same G 5) (hr.mono (by first | exact Nat.le_refl _ | decide)) (by rfl) G.g__law_same G.F__law_same.kp G.B__law_same .nil pass0 (pa_cons (pe_call (ok_ungrown G) (hr.mono (by first | exact Nat.le_refl _ | decide)) (by rfl) G.g_ungrown G.F_ungrown.kp G.B_ungrown .nil pass0 (pa_cons (pv 4) pa_nil)) (pa_cons (pv 3) pa_nil))))))))
(pss_one ps_never)
pss_nil)
(pss_cons (ps_set (i := 6) sc_law.nd rfl (by first | exact .inl rfl | exact .inr rfl) (pe_lst pa_nil))
(pss_cons (ps_for PassesOwn.never rfl (pi_range2 (by rfl) G.b_range (pa_cons pe_int (pa_cons (pe_op (op_addK (K := K) rfl) (pe_callB (call_lenK (K := K) rfl) (by rfl) G.b_len boot_len (pa_cons (pv 3) pa_nil)) pe_int) pa_nil))) (pg_name (i := 5) sc_law.nd rfl (.inr rfl))
(pss_cons (ps_set (i := 13) sc_law.nd rfl (by first | exact .inl rfl | exact .inr rfl) (pe_call (ok__law_wheapsof G) (hr.mono (by first | exact Nat.le_refl _ | decide)) (by rfl) G.g__law_wheapsof G.F__law_wheapsof.kp G.B__law_wheapsof .nil pass0 (pa_cons (pe_listRg rfl (by rfl) G.b_list (prg_1 (by rfl) G.b_range (pv 5))) pa_nil)))
(pss_one (ps_expr (pe_bmK (K := K) rfl PySem.F.plainAttrs_list PySem.F.slot_list_append PySem.F.type_list_append mt_append (pv 6) (pa_cons (pe_callB (cr_sumK (K := K) rfl rfl) (by rfl) G.b_sum boot_sum (pa_cons (pe_lc (own := [("heaps", 19)]) (g := (gName 19)) (tt := tYes) rfl sc_law.nd (pi_listK (K := K) rfl (pv 13)) (blkOk_by (N := n_law) (sc := defScope s_law) (by decide +kernel)) (fun _ _ _ _ _ => (pg_name (i := 19) sc_law.nd rfl (by first | exact .inl rfl | exact .inr rfl))) (fun _ _ _ _ _ => pts_nil) (fun _ _ _ _ _ => (pe_op op_mulA (pe_op op_mulA (pe_call (ok__law_wproduct G) (hr.mono (by first | exact Nat.le_refl _ | decide)) (by rfl) G.g__law_wproduct G.F__law_wproduct.kp G.B__law_wproduct .nil pass0 (pa_cons (pe_lc (own := [("heap", 23)]) (g := (gName 23)) (tt := tYes) rfl sc_law.nd (pi_listK (K := K) rfl (pv 19)) (blkOk_by (N := n_law) (sc := L2.relS _ (defScope s_law)) (by decide +kernel)) (fun _ _ _ _ _ => (pg_name (i := 23) sc_law.nd rfl (by first | exact .inl rfl | exact .inr rfl))) (fun _ _ _ _ _ => pts_nil) (fun _ _ _ _ _ => (pe_ix (ix_seqK (K := K) rfl) (pv 3) (pe_op op_sub (pe_callB (call_lenK (K := K) rfl) (by rfl) G.b_len boot_len (pa_cons (pv 23) pa_nil)) pe_int) (fun _ _ => rfl)))) pa_nil)) (pe_call (ok__law_wproduct G) (hr.mono (by first | exact Nat.le_refl _ | decide)) (by rfl) G.g__law_wproduct G.F__law_wproduct.kp G.B__law_wproduct .nil pass0 (pa_cons (pe_listRg rfl (by rfl) G.b_list (prg_2 (by rfl) G.b_range pe_int (pe_callB (call_lenK (K := K) rfl) (by rfl) G.b_len boot_len (pa_cons (pv 19) pa_nil)))) pa_nil))) (pe_ifExp (pt_cmpR (op_eqK (K := K) rfl hr.units) (pe_op op_mod (pe_callTy call_int1 (by rfl) G.b_int boot_int (pa_cons (pe_callB (call_lenK (K := K) rfl) (by rfl) G.b_len boot_len (pa_cons (pv 19) pa_nil)) pa_nil)) pe_int) pe_int (nomark _)) pe_int (pe_un un_neg pe_int))))) pa_nil)) pa_nil))))))
(pss_cons (ps_if (pt_not (pt_val (pe_call (ok_same G 5) (hr.mono (by first | exact Nat.le_refl _ | decide)) (by rfl) G.g__law_same G.F__law_same.kp G.B__law_same .nil pass0 (pa_cons (pe_call (ok_ungrown G) (hr.mono (by first | exact Nat.le_refl _ | decide)) (by rfl) G.g_ungrown G.F_ungrown.kp G.B_ungrown .nil pass0 (pa_cons (pv 3) pa_nil)) (pa_cons (pv 6) pa_nil)))))
(pss_one ps_never)
pss_nil)
(pss_cons (ps_setLc (i := 7) (own := [("k", 18)]) (g := (gName 18)) (tt := tYes) rfl sc_law.nd rfl rfl (sw_true rfl rfl rfl (by decide +kernel)) (pi_range1 (by rfl) G.b_range (pa_cons (pe_op (op_addK (K := K) rfl) pe_int (pe_call (ok__law_below G) (hr.mono (by first | exact Nat.le_refl _ | decide)) (by rfl) G.g__law_below G.F__law_below.kp G.B__law_below .nil pass0 (pa_cons (pv 1) (pa_cons pe_int pa_nil)))) pa_nil)) (blkOk_by (N := n_law) (sc := defScope s_law) (by decide +kernel)) (fun _ _ _ _ _ => (pg_name (i := 18) sc_law.nd rfl (by first | exact .inl rfl | exact .inr rfl))) (fun _ _ _ _ _ => pts_nil) (fun _ _ _ _ _ => (pe_op op_sub (pe_call (ok__law_below G) (hr.mono (by first | exact Nat.le_refl _ | decide)) (by rfl) G.g__law_below G.F__law_below.kp G.B__law_below .nil pass0 (pa_cons (pv 1) (pa_cons pe_int pa_nil))) pe_int)))
(pss_cons (ps_setLc (i := 8) (own := [("k", 18)]) (g := (gName 18)) (tt := tYes) rfl sc_law.nd rfl rfl (sw_true rfl rfl rfl (by decide +kernel)) (pi_range1 (by rfl) G.b_range (pa_cons (pe_op (op_addK (K := K) rfl) pe_int (pe_call (ok__law_below G) (hr.mono (by first | exact Nat.le_refl _ | decide)) (by rfl) G.g__law_below G.F__law_below.kp G.B__law_below .nil pass0 (pa_cons (pv 1) (pa_cons pe_int pa_nil)))) pa_nil)) (blkOk_by (N := n_law) (sc := defScope s_law) (by decide +kernel)) (fun _ _ _ _ _ => (pg_name (i := 18) sc_law.nd rfl (by first | exact .inl rfl | exact .inr rfl))) (fun _ _ _ _ _ => pts_nil) (fun _ _ _ _ _ => (pe_op op_sub (pe_call (ok__law_below G) (hr.mono (by first | exact Nat.le_refl _ | decide)) (by rfl) G.g__law_below G.F__law_below.kp G.B__law_below .nil pass0 (pa_cons (pv 1) (pa_cons pe_int pa_nil))) pe_int)))
(pss_cons (ps_set (i := 9) sc_law.nd rfl (by first | exact .inl rfl | exact .inr rfl) (pe_call (ok_ungrown G) (hr.mono (by first | exact Nat.le_refl _ | decide)) (by rfl) G.g_ungrown G.F_ungrown.kp G.B_ungrown .nil pass0 (pa_cons (pv 7) pa_nil)))
(pss_cons (ps_if (PW.pt (pw_or (pt_not (pt_val (pe_call (ok_same G 5) (hr.mono (by first | exact Nat.le_refl _ | decide)) (by rfl) G.g__law_same G.F__law_same.kp G.B__law_same .nil pass0 (pa_cons (pe_lst (pa_cons (pe_call (ok_grown G) (hr.mono (by first | exact Nat.le_refl _ | decide)) (by rfl) G.g_grown G.F_grown.kp G.B_grown .nil pass0 (pa_cons (pv 7) pa_nil)) (pa_cons (pe_callB (call_lenK (K := K) rfl) (by rfl) G.b_len boot_len (pa_cons (pv 9) pa_nil)) pa_nil))) (pa_cons (pe_lst (pa_cons (pe_call (ok__law_wgrown G) (hr.mono (by first | exact Nat.le_refl _ | decide)) (by rfl) G.g__law_wgrown G.F__law_wgrown.kp G.B__law_wgrown .nil pass0 (pa_cons (pv 7) pa_nil)) (pa_cons (pe_callB (call_lenK (K := K) rfl) (by rfl) G.b_len boot_len (pa_cons (pv 7) pa_nil)) pa_nil))) pa_nil))))) (pw_or1 (pt_cmpR (op_neK (K := K) rfl hr.units) (pe_call (ok__law_wgrown G) (hr.mono (by first | exact Nat.le_refl _ | decide)) (by rfl) G.g__law_wgrown G.F__law_wgrown.kp G.B__law_wgrown .nil pass0 (pa_cons (pv 9) pa_nil)) (pv 7) (nomark _)))))
(pss_one ps_never)
pss_nil)
(pss_cons (ps_set (i := 10) sc_law.nd rfl (by first | exact .inl rfl | exact .inr rfl) (pe_callB (call_min2 rfl) (by rfl) G.b_min boot_min (pa_cons (pe_callB (call_lenK (K := K) rfl) (by rfl) G.b_len boot_len (pa_cons (pv 7) pa_nil)) (pa_cons (pe_callB (call_lenK (K := K) rfl) (by rfl) G.b_len boot_len (pa_cons (pv 8) pa_nil)) pa_nil))))
(pss_cons (ps_asg (pe_tup (pa_cons (pe_op (op_addK (K := K) rfl) (pe_lst (pa_cons pe_int pa_nil)) (pv 7)) (pa_cons (pe_op (op_addK (K := K) rfl) (pe_lst (pa_cons pe_int pa_nil)) (pv 8)) pa_nil))) (pg_tupK (K := K) rfl rfl (pgs_cons (pg_name (i := 14) sc_law.nd rfl (.inr rfl)) (pgs_cons (pg_name (i := 15) sc_law.nd rfl (.inr rfl)) pgs_nil))))
(pss_cons (ps_setLc (i := 4) (own := [("n", 5)]) (g := (gName 5)) (tt := tYes) rfl sc_law.nd rfl rfl (sw_true rfl rfl rfl (by decide +kernel)) (pi_range2 (by rfl) G.b_range (pa_cons pe_int (pa_cons (pe_op (op_addK (K := K) rfl) (pv 10) pe_int) pa_nil))) (blkOk_by (N := n_law) (sc := defScope s_law) (by decide +kernel)) (fun _ _ _ _ _ => (pg_name (i := 5) sc_law.nd rfl (by first | exact .inl rfl | exact .inr rfl))) (fun _ _ _ _ _ => pts_nil) (fun _ _ _ _ _ => (pe_callB (cr_sumK (K := K) rfl rfl) (by rfl) G.b_sum boot_sum (pa_cons (pe_lc (own := [("k", 18)]) (g := (gName 18)) (tt := tYes) rfl sc_law.nd (pi_range1 (by rfl) G.b_range (pa_cons (pe_op (op_addK (K := K) rfl) (pv 5) pe_int) pa_nil)) (blkOk_by (N := n_law) (sc := L2.relS _ (defScope s_law)) (by decide +kernel)) (fun _ _ _ _ _ => (pg_name (i := 18) sc_law.nd rfl (by first | exact .inl rfl | exact .inr rfl))) (fun _ _ _ _ _ => pts_nil) (fun _ _ _ _ _ => (pe_op op_mulA (pe_op op_mulA (pe_call (ok__law_wways G) (hr.mono (by first | exact Nat.le_refl _ | decide)) (by rfl) G.g__law_wways G.F__law_wways.kp G.B__law_wways .nil pass0 (pa_cons (pv 5) (pa_cons (pv 18) pa_nil))) (pe_ix (ix_seqK (K := K) rfl) (pv 14) (pv 18) (fun _ _ => rfl))) (pe_ix (ix_seqK (K := K) rfl) (pv 15) (pe_op op_sub (pv 5) (pv 18)) (fun _ _ => rfl))))) pa_nil))))
(pss_cons (ps_if (pt_not (pt_val (pe_call (ok_same G 5) (hr.mono (by first | exact Nat.le_refl _ | decide)) (by rfl) G.g__law_same G.F__law_same.kp G.B__law_same .nil pass0 (pa_cons (pe_lst (pa_cons (pe_call (ok_blended G) (hr.mono (by first | exact Nat.le_refl _ | decide)) (by rfl) G.g_blended G.F_blended.kp G.B_blended .nil pass0 (pa_cons (pv 7) (pa_cons (pv 8) pa_nil))) (pa_cons (pe_call (ok_blended G) (hr.mono (by first | exact Nat.le_refl _ | decide)) (by rfl) G.g_blended G.F_blended.kp G.B_blended .nil pass0 (pa_cons (pv 8) (pa_cons (pv 7) pa_nil))) pa_nil))) (pa_cons (pe_lst (pa_cons (pv 4) (pa_cons (pv 4) pa_nil))) pa_nil)))))
(pss_one ps_never)
pss_nil)
(pss_cons (ps_par (i := 16) (j := 17) rfl sc_law.nd rfl rfl (by decide) rfl rfl (pa_cons (pe_lc (own := [("k", 18)]) (g := (gName 18)) (tt := tYes) rfl sc_law.nd (pi_range1 (by rfl) G.b_range (pa_cons pe_int pa_nil)) (blkOk_by (N := n_law) (sc := defScope s_law) (by decide +kernel)) (fun _ _ _ _ _ => (pg_name (i := 18) sc_law.nd rfl (by first | exact .inl rfl | exact .inr rfl))) (fun _ _ _ _ _ => pts_nil) (fun _ _ _ _ _ => (pe_op op_sub (pe_call (ok__law_below G) (hr.mono (by first | exact Nat.le_refl _ | decide)) (by rfl) G.g__law_below G.F__law_below.kp G.B__law_below .nil pass0 (pa_cons (pv 1) (pa_cons pe_int pa_nil))) pe_int))) (pa_cons (pe_lc (own := [("k", 18)]) (g := (gName 18)) (tt := tYes) rfl sc_law.nd (pi_range1 (by rfl) G.b_range (pa_cons pe_int pa_nil)) (blkOk_by (N := n_law) (sc := defScope s_law) (by decide +kernel)) (fun _ _ _ _ _ => (pg_name (i := 18) sc_law.nd rfl (by first | exact .inl rfl | exact .inr rfl))) (fun _ _ _ _ _ => pts_nil) (fun _ _ _ _ _ => (pe_op op_sub (pe_call (ok__law_below G) (hr.mono (by first | exact Nat.le_refl _ | decide)) (by rfl) G.g__law_below G.F__law_below.kp G.B__law_below .nil pass0 (pa_cons (pv 1) (pa_cons pe_int pa_nil))) pe_int))) pa_nil)) (by rfl))
(pss_cons (ps_if (pt_not (pt_val (pe_call (ok_same G 5) (hr.mono (by first | exact Nat.le_refl _ | decide)) (by rfl) G.g__law_same G.F__law_same.kp G.B__law_same .nil pass0 (pa_cons (pe_call (ok_ungrown G) (hr.mono (by first | exact Nat.le_refl _ | decide)) (by rfl) G.g_ungrown G.F_ungrown.kp G.B_ungrown .nil pass0 (pa_cons (pe_call (ok_blended G) (hr.mono (by first | exact Nat.le_refl _ | decide)) (by rfl) G.g_blended G.F_blended.kp G.B_blended .nil pass0 (pa_cons (pv 16) (pa_cons (pv 17) pa_nil))) pa_nil)) (pa_cons (pe_lc (own := [("a", 21), ("b", 22)]) (g := (gTup K 2 (gCons (gName 21) (gCons (gName 22) gNil)))) (tt := tYes) rfl sc_law.nd (pi_zipK (K := K) rfl (by rfl) G.b_zip (pa_cons (pe_call (ok_ungrown G) (hr.mono (by first | exact Nat.le_refl _ | decide)) (by rfl) G.g_ungrown G.F_ungrown.kp G.B_ungrown .nil pass0 (pa_cons (pv 16) pa_nil)) (pa_cons (pe_call (ok_ungrown G) (hr.mono (by first | exact Nat.le_refl _ | decide)) (by rfl) G.g_ungrown G.F_ungrown.kp G.B_ungrown .nil pass0 (pa_cons (pv 17) pa_nil)) pa_nil))) (blkOk_by (N := n_law) (sc := defScope s_law) (by decide +kernel)) (fun _ _ _ _ _ => (pg_tupK (K := K) rfl rfl (pgs_cons (pg_name (i := 21) sc_law.nd rfl (by first | exact .inl rfl | exact .inr rfl)) (pgs_cons (pg_name (i := 22) sc_law.nd rfl (by first | exact .inl rfl | exact .inr rfl)) pgs_nil)))) (fun _ _ _ _ _ => pts_nil) (fun _ _ _ _ _ => (pe_op (op_addK (K := K) rfl) (pv 21) (pv 22)))) pa_nil)))))
(pss_one ps_never)
pss_nil)
(pss_cons (ps_set (i := 11) sc_law.nd rfl (by first | exact .inl rfl | exact .inr rfl) (pe_call (ok__law_below G) (hr.mono (by first | exact Nat.le_refl _ | decide)) (by rfl) G.g__law_below G.F__law_below.kp G.B__law_below .nil pass0 (pa_cons (pv 1) (pa_cons pe_int pa_nil))))
(pss_cons (ps_set (i := 12) sc_law.nd rfl (by first | exact .inl rfl | exact .inr rfl) (pe_lst (pa_cons pe_int pa_nil)))
(pss_cons (ps_for PassesOwn.never rfl (pi_range1 (by rfl) G.b_range (pa_cons (pv 11) pa_nil)) (pg_name (i := 5) sc_law.nd rfl (.inr rfl))
(pss_one (ps_set (i := 12) sc_law.nd rfl (by first | exact .inl rfl | exact .inr rfl) (pe_lc (own := [("k", 18)]) (g := (gName 18)) (tt := tYes) rfl sc_law.nd (pi_range1 (by rfl) G.b_range (pa_cons (pe_op (op_addK (K := K) rfl) (pv 5) pe_int) pa_nil)) (blkOk_by (N := n_law) (sc := defScope s_law) (by decide +kernel)) (fun _ _ _ _ _ => (pg_name (i := 18) sc_law.nd rfl (by first | exact .inl rfl | exact .inr rfl))) (fun _ _ _ _ _ => pts_nil) (fun _ _ _ _ _ => (pe_op (op_addK (K := K) rfl) (pe_ifExp (pt_cmpR op_gt (pv 18) pe_int (nomark _)) (pe_ix (ix_seqK (K := K) rfl) (pv 12) (pe_op op_sub (pv 18) pe_int) (fun _ _ => rfl)) pe_int) (pe_ifExp (pt_cmpR op_le (pv 18) (pv 5) (nomark _)) (pe_op op_mulA (pv 18) (pe_ix (ix_seqK (K := K) rfl) (pv 12) (pv 18) (fun _ _ => rfl))) pe_int)))))))
(pss_one (ps_if (pt_not (pt_val (pe_call (ok_same G 5) (hr.mono (by first | exact Nat.le_refl _ | decide)) (by rfl) G.g__law_same G.F__law_same.kp G.B__law_same .nil pass0 (pa_cons (pe_lst (pa_cons (pe_call (ok_parting_counts G) (hr.mono (by first | exact Nat.le_refl _ | decide)) (by rfl) G.g_parting_counts G.F_parting_counts.kp G.B_parting_counts .nil pass0 (pa_cons (pv 11) pa_nil)) (pa_cons (pe_ix (ix_seqK (K := K) rfl) (pe_call (ok_grown G) (hr.mono (by first | exact Nat.le_refl _ | decide)) (by rfl) G.g_grown G.F_grown.kp G.B_grown .nil pass0 (pa_cons (pe_op op_mulA (pe_lst (pa_cons pe_int pa_nil)) (pe_ifExp (pt_cmpR op_gt (pv 11) pe_int (nomark _)) (pv 11) pe_int)) pa_nil)) (pe_un un_neg pe_int) (fun _ _ => rfl)) (pa_cons (pe_call (ok_ungrown G) (hr.mono (by first | exact Nat.le_refl _ | decide)) (by rfl) G.g_ungrown G.F_ungrown.kp G.B_ungrown .nil pass0 (pa_cons (pe_op op_mulA (pe_lst (pa_cons pe_int pa_nil)) pe_int) pa_nil)) pa_nil)))) (pa_cons (pe_lst (pa_cons (pv 12) (pa_cons (pe_ifExp (pt_cmpR op_gt (pv 11) pe_int (nomark _)) (pe_callB (cr_sumK (K := K) rfl rfl) (by rfl) G.b_sum boot_sum (pa_cons (pv 12) pa_nil)) pe_int) (pa_cons (pe_op (op_addK (K := K) rfl) (pe_lst (pa_cons pe_int pa_nil)) (pe_op op_mulA (pe_lst (pa_cons pe_int pa_nil)) pe_int)) pa_nil)))) pa_nil)))))
(pss_one ps_never)
pss_nil))))))))))))))))))))))))
(pss_one (ps_ret pe_bl)))), fun ds M Φ h => ?_⟩
  try dsimp only [cxOf, L2.Cx.nox, L2.Cx.wish]
  obtain ⟨ns, rfl, hl, q⟩ := h
  repeat walk_at "dl"
  refine ⟨ns, rfl, by omega, fun a M1 hs => ?_⟩
  repeat walk_at "dl"
  refine zs_for [2] (ei_rng1 ?_)
  repeat walk_at "dl"
  refine ⟨by decide, by decide, fun i Γ' M' => Γ' = [none, some (.ptr a), none, none, none, none, none, none, none, none, none, none, none, none, none, none, none, none, none, none, none, none, none, none] ∧ Strm a (100 * i) M M', ⟨_, .n (.s (.n (.n (.n (.n (.n (.n (.n (.n (.n (.n (.n (.n (.n (.n (.n (.n (.n (.n (.n (.n (.n (.n .nil))))))))))))))))))))))), rfl, by simpa using hs⟩, fun t d Γ' M' hx hC => ?_, fun Γ' M' hC => ?_⟩
  · obtain ⟨rfl, hs⟩ := hC
    obtain ⟨ht, rfl⟩ := rngD_get hx
    have ht4 : t < 4 := ht
    refine eg_name' ?_
    -- small
    repeat walk_at "dl"
    refine ev_frz (en_draws (a := a) (B := M) 9 4 ⟨by decide, by decide⟩ (by simp) (by decide) rfl (ei_rng1 ?_))
    repeat walk_at "dl"
    refine ⟨a, 6, _, M, rfl, by decide, by decide, by omega, hs, fun r M2 hr0 hr1 hs2 => ?_⟩
    repeat walk_at "dl"
    refine ⟨by omega, by omega, _, by rw [rngD_length]; omega, by rw [rngD_length]; omega, hs2, fun small M3 hsl hsm hs3 => ?_⟩
    rw [rngD_length] at hsl hs3
    have hs3 := hs3.mono (show _ ≤ (100 * (t : Int) + 10) by omega)
    have hsl1 : 1 ≤ small.length ∧ small.length ≤ 6 := by omega
    have hser : Ser small := ⟨by omega, fun z hz => by have := hsm z hz; omega⟩
    -- due
    repeat walk_at "dl"
    refine ev_own (en_lst ?_)
    repeat walk_at "dl"
    refine ⟨by decide, fun p => ?_⟩
    repeat walk_at "dl"
    refine zs_for [5] (ei_rng2 ?_)
    repeat walk_at "dl"
    refine rc_len (LI small) small.length rfl ln_LI ?_
    repeat walk_at "dl"
    have e1 : ((small.length : Int) + 1 - 1).toNat = small.length := by omega
    refine ⟨1, (small.length : Int) + 1, rfl, by omega, ?_⟩
    rw [e1]
    refine ⟨fun i Γ' M' => Γ' = [none, some (.ptr a), none, some (LI small), some (.ptr p), none, none, none, none, none, none, none, none, none, none, none, none, none, none, none, none, none, none, none] ∧ M' = (p, .lst ((dueL small i).map .int)) :: M3, ⟨_, by walk_at "gle", rfl, rfl⟩, fun i d Γ' M' hx hC => ?_, ?_⟩
    · obtain ⟨rfl, rfl⟩ := hC
      obtain ⟨hi, rfl⟩ := rngD_get hx
      have e2 : ((1 : Int) + (i : Int)).toNat = i + 1 := by omega
      obtain ⟨hb1, hb2⟩ := heapsL_ok (i + 1) (rangeZ 0 (i + 1)) (rangeZ_length _ _)
      have hb3 := heapBd_le (i := i + 1) (by omega)
      refine eg_name' ?_
      repeat walk_at "dl"
      refine ev_frz (en_map (ei_list ?_))
      repeat walk_at "dl"
      refine ev_frz (en_listRg1 ?_)
      repeat walk_at "dl"
      refine ⟨by omega, by omega, ?_⟩
      rw [e2, rngD_Z]
      repeat walk_at "dl"
      refine ⟨rangeZ 0 (i + 1), rfl, by rw [rangeZ_length]; omega, ?_⟩
      refine ⟨_, .inl rfl, by rw [List.length_map]; omega, ((heapsL (rangeZ 0 (i + 1))).map (term1 small)).map .int, by rw [List.length_map, List.length_map, List.length_map], fun k d hk => eg_name' ?_, ?_⟩
      · obtain ⟨hs2, hk2, rfl⟩ := mem_at hk
        exact ev_term1 rfl rfl rfl (hb2 _ (List.mem_of_getElem? hk2)) (by omega) (by omega) hsm ⟨map_at hk2, rfl⟩
      · repeat walk_at "dl"
        refine rc_sum _ _ rfl (.lst _) ?_
        repeat walk_at "dl"
        refine rm_append (ds := (dueL small i).map .int) 0 _ rfl rfl rfl (by rw [List.length_map, dueL_length]; omega) ?_
        refine ⟨_, by walk_at "gle", rfl, ?_⟩
        rw [dueL_succ, List.map_append]
        rfl
    rintro Γ' M' ⟨rfl, rfl⟩
    rw [rngD_length]
    refine es_letgo 4 0 rfl rfl ?_
    have hdue := due_grown hsl1.2
    rw [hdue]
    -- if not same or
    repeat walk_at "dl"
    refine ev_frz (en_lst ?_)
    repeat walk_at "dl"
    refine ⟨small, rfl, hser, ?_⟩
    repeat walk_at "dl"
    refine ⟨small, rfl, hser, ?_⟩
    repeat walk_at "dl"
    refine ⟨by simp, ?_⟩
    repeat walk_at "dl"
    refine ev_frz (en_lst ?_)
    repeat walk_at "dl"
    refine ⟨by simp, ?_⟩
    repeat walk_at "dl"
    refine ⟨.lst [LI (grownT small), .bl true], rfl, same_2 (same_LI (by rw [grownT_length]; omega)) (same_bl _), ?_⟩
    repeat walk_at "dl"
    refine ⟨small, rfl, GOk.ser hser, ?_⟩
    refine r2_neLI _ _ (.lst _) (.lst _) ?_
    repeat walk_at "dl"
    refine ndite_bl (fun z => absurd rfl z) (fun _ => ?_)
    refine zs_next ?_
    refine zs_cut (fun Γ' M' => Γ' = [none, some (.ptr a), none, some (LI small), some (LI (grownT small)), none, none, none, none, none, none, none, none, none, none, none, none, none, none, none, none, none, none, none] ∧ M3 = M') ?_ ?_
    · repeat walk_at "dl"
      -- max
      refine ev_frz (en_map (ei_list ?_))
      repeat walk_at "dl"
      refine ⟨_, .inl rfl, by rw [List.length_map, grownT_length]; omega, ((grownT small).map fun z => if z < 0 then -z else z).map .int, by rw [List.length_map, List.length_map, List.length_map], fun k d hk => eg_name' ?_, ?_⟩
      · obtain ⟨z, hk2, rfl⟩ := mem_at hk
        repeat walk_at "dl"
        refine rc_abs z rfl ?_
        exact ⟨map_at hk2, rfl⟩
      repeat walk_at "dl"
      refine rc_max _ _ rfl (.lst _) (fun e => by have h0 := congrArg List.length e; rw [List.length_map, grownT_length] at h0; exact absurd (show small.length = 0 from h0) (by omega)) (fun mx hm1 hm2 => ?_)
      repeat walk_at "dl"
      refine dite_bl (fun hle => ?_) (fun _ => ?_)
      · repeat walk_at "dl"
        refine ⟨grownT small, rfl, ⟨by rw [grownT_length]; omega, fun z hz => ?_⟩, ?_⟩
        · have := hm2 _ (List.mem_map.mpr ⟨z, hz, rfl⟩)
          split at this <;> omega
        rw [un_grown]
        repeat walk_at "dl"
        refine ⟨_, rfl, same_LI (by omega), ?_⟩
        repeat walk_at "dl"
        exact ⟨rfl, rfl⟩
      · repeat walk_at "dl"
        exact ⟨rfl, rfl⟩
    rintro Γ' M' ⟨rfl, rfl⟩
    -- own
    repeat walk_at "dl"
    refine ev_own (en_lst ?_)
    repeat walk_at "dl"
    refine ⟨by decide, fun p => ?_⟩
    repeat walk_at "dl"
    refine zs_for [5] (ei_rng2 ?_)
    repeat walk_at "dl"
    refine rc_len (LI small) small.length rfl ln_LI ?_
    repeat walk_at "dl"
    refine ⟨1, (small.length : Int) + 1, rfl, by omega, ?_⟩
    rw [e1]
    refine ⟨fun i Γ' M' => Γ' = [none, some (.ptr a), none, some (LI small), some (LI (grownT small)), none, some (.ptr p), none, none, none, none, none, none, none, none, none, none, none, none, none, none, none, none, none] ∧ M' = (p, .lst ((ownL small i).map .int)) :: M3, ⟨_, by walk_at "gle", rfl, rfl⟩, fun i d Γ' M' hx hC => ?_, ?_⟩
    · obtain ⟨rfl, rfl⟩ := hC
      obtain ⟨hi, rfl⟩ := rngD_get hx
      have e2 : ((1 : Int) + (i : Int)).toNat = i + 1 := by omega
      obtain ⟨hb1, hb2⟩ := heapsL_ok (i + 1) (rangeZ 0 (i + 1)) (rangeZ_length _ _)
      have hb3 := heapBd_le (i := i + 1) (by omega)
      refine eg_name' ?_
      repeat walk_at "dl"
      refine ev_frz (en_listRg1 ?_)
      repeat walk_at "dl"
      refine ⟨by omega, by omega, ?_⟩
      rw [e2, rngD_Z]
      repeat walk_at "dl"
      refine ⟨rangeZ 0 (i + 1), rfl, by rw [rangeZ_length]; omega, ?_⟩
      repeat walk_at "dl"
      refine ev_frz (en_map (ei_list ?_))
      repeat walk_at "dl"
      refine ⟨_, .inl rfl, by rw [List.length_map]; omega, ((heapsL (rangeZ 0 (i + 1))).map (term2 small)).map .int, by rw [List.length_map, List.length_map, List.length_map], fun k d hk => eg_name' ?_, ?_⟩
      · obtain ⟨hs2, hk2, rfl⟩ := mem_at hk
        have hok := hb2 _ (List.mem_of_getElem? hk2)
        refine ev_op (ev_op (ev_term1 rfl rfl rfl hok (by omega) (by omega) hsm ?_))
        repeat walk_at "dl"
        refine ev_frz (en_listRg2 ?_)
        repeat walk_at "dl"
        refine rc_len (LL hs2) hs2.length rfl (ln_of (.lst _) (by rw [List.length_map])) ?_
        have ho1 := hok.1
        refine ⟨1, (hs2.length : Int), rfl, rfl, by omega, ?_⟩
        have e3 : ((hs2.length : Int) - 1).toNat = hs2.length - 1 := by omega
        rw [e3, rngD_Z]
        repeat walk_at "dl"
        have hp1 : ∀ z ∈ rangeZ 1 (hs2.length - 1), -6 ≤ z ∧ z ≤ 6 := fun z hz => by
          obtain ⟨j, hj, rfl⟩ := List.mem_map.mp hz
          have := List.mem_range.mp hj
          omega
        refine ⟨rangeZ 1 (hs2.length - 1), rfl, by rw [rangeZ_length]; omega, fun z hz => by have := hp1 z hz; omega, ?_⟩
        refine r2_mul _ _ rfl rfl (.inr (prodI_lt (by rw [rangeZ_length]; omega) hp1)) ?_
        repeat walk_at "dl"
        refine rc_len (LL hs2) hs2.length rfl (ln_of (.lst _) (by rw [List.length_map])) ?_
        repeat walk_at "dl"
        refine rc_intI _ rfl ?_
        repeat walk_at "dl"
        refine r2_mod _ _ rfl rfl (by decide) ?_
        repeat walk_at "dl"
        refine r2_eqI _ _ rfl rfl ?_
        repeat walk_at "dl"
        have fin : (((heapsL (rangeZ 0 (i + 1))).map (term2 small)).map D.int)[k]? = some (.int (term2 small hs2)) := map_at hk2
        rw [term2, sgn] at fin
        refine dite_bl (fun h1 => ?_) (fun h1 => ?_)
        · rw [if_pos (by omega)] at fin
          repeat walk_at "dl"
          exact r2_mul _ _ rfl rfl (.inr ⟨by decide, by decide⟩) ⟨fin, rfl⟩
        · rw [if_neg (by omega)] at fin
          repeat walk_at "dl"
          exact r2_mul _ _ rfl rfl (.inr ⟨by decide, by decide⟩) ⟨fin, rfl⟩
      · repeat walk_at "dl"
        refine rc_sum _ _ rfl (.lst _) ?_
        repeat walk_at "dl"
        refine rm_append (ds := (ownL small i).map .int) 0 _ rfl rfl rfl (by rw [List.length_map, ownL_length]; omega) ?_
        refine ⟨_, by walk_at "gle", rfl, ?_⟩
        rw [ownL_succ, List.map_append]
        rfl
    rintro Γ' M' ⟨rfl, rfl⟩
    rw [rngD_length]
    refine es_letgo 6 0 rfl rfl ?_
    have hown := own_ungrown hsl1.2
    rw [hown]
    repeat walk_at "dl"
    refine ⟨small, rfl, hser, ?_⟩
    repeat walk_at "dl"
    refine ⟨_, rfl, same_LI (by rw [ungrownT_length]; omega), ?_⟩
    repeat walk_at "dl"
    -- long
    refine ev_frz (en_draws (a := a) (B := M) 2000001 1000000 ⟨by decide, by decide⟩ (by simp) (by decide) rfl (ei_rng1 ?_))
    repeat walk_at "dl"
    refine ⟨a, 30, _, M, rfl, by decide, by decide, by omega, hs3, fun r2 M4 hr20 hr21 hs4 => ?_⟩
    repeat walk_at "dl"
    refine ⟨by omega, by omega, _, by rw [rngD_length]; omega, by rw [rngD_length]; omega, hs4, fun long M5 hll hlm hs5 => ?_⟩
    rw [rngD_length] at hll hs5
    have hs5 := hs5.mono (show _ ≤ (100 * (t : Int) + 41) by omega)
    have hlser : Ser long := ⟨by omega, fun z hz => by have := hlm z hz; omega⟩
    have hl30 := hlser.1
    -- more
    repeat walk_at "dl"
    refine ev_frz (en_draws (a := a) (B := M) 19 9 ⟨by decide, by decide⟩ (by simp) (by decide) rfl (ei_rng1 ?_))
    repeat walk_at "dl"
    refine ⟨a, 30, _, M, rfl, by decide, by decide, by omega, hs5, fun r3 M6 hr30 hr31 hs6 => ?_⟩
    repeat walk_at "dl"
    refine ⟨by omega, by omega, _, by rw [rngD_length]; omega, by rw [rngD_length]; omega, hs6, fun more M7 hml hmm hs7 => ?_⟩
    rw [rngD_length] at hml hs7
    have hs7 := hs7.mono (show _ ≤ (100 * (t : Int) + 72) by omega)
    have hmser : Ser more := ⟨by omega, fun z hz => by have := hmm z hz; omega⟩
    have hm30 := hmser.1
    -- back
    repeat walk_at "dl"
    refine ⟨long, rfl, hlser, ?_⟩
    repeat walk_at "dl"
    refine ev_frz (en_lst ?_)
    repeat walk_at "dl"
    refine ⟨long, rfl, hlser, ?_⟩
    repeat walk_at "dl"
    refine rc_len (LI (ungrownT long)) long.length rfl (ln_of (.lst _) (by rw [List.length_map, ungrownT_length])) ?_
    repeat walk_at "dl"
    refine ⟨by simp, ?_⟩
    repeat walk_at "dl"
    refine ev_frz (en_lst ?_)
    repeat walk_at "dl"
    refine ⟨long, rfl, GOk.ser hlser, ?_⟩
    repeat walk_at "dl"
    refine rc_len (LI long) long.length rfl ln_LI ?_
    repeat walk_at "dl"
    refine ⟨by simp, ?_⟩
    repeat walk_at "dl"
    refine ⟨_, rfl, same_2 (same_LI (by rw [grownT_length]; omega)) (same_int _), ?_⟩
    repeat walk_at "dl"
    refine ⟨ungrownT long, rfl, GOk.un hlser, ?_⟩
    rw [grown_un]
    repeat walk_at "dl"
    refine r2_neLI _ _ (.lst _) (.lst _) ?_
    repeat walk_at "dl"
    refine ndite_bl (fun z => absurd rfl z) (fun _ => ?_)
    -- size
    repeat walk_at "dl"
    refine rc_len (LI long) long.length rfl ln_LI ?_
    repeat walk_at "dl"
    refine rc_len (LI more) more.length rfl ln_LI ?_
    repeat walk_at "dl"
    refine rc_min2 _ _ rfl ?_
    have esz : (if (more.length : Int) < (long.length : Int) then (more.length : Int) else (long.length : Int)) = ((min long.length more.length : Nat) : Int) := by
      split <;> omega
    rw [esz]
    have hsz : min long.length more.length ≤ long.length ∧ min long.length more.length ≤ more.length := by omega
    generalize hszv : min long.length more.length = sz at hsz
    repeat walk_at "dl"
    refine zs_asg (own := [14, 15]) ?_
    -- one, two
    refine ev_frz (en_tup ?_)
    repeat walk_at "dl"
    refine ev_frz (en_lst ?_)
    repeat walk_at "dl"
    refine ⟨by decide, ?_⟩
    repeat walk_at "dl"
    refine r2_frz (r2_cat (.lst _) (.lst _) (by simp; omega) ?_)
    repeat walk_at "dl"
    refine ev_frz (en_lst ?_)
    repeat walk_at "dl"
    refine ⟨by decide, ?_⟩
    repeat walk_at "dl"
    refine r2_frz (r2_cat (.lst _) (.lst _) (by simp; omega) ?_)
    repeat walk_at "dl"
    refine ⟨by simp, eg_tup rfl rfl (egs_cons (eg_name (by simp) (egs_cons (eg_name (by simp) (egs_nil ?_)))))⟩
    -- due
    have hlw : ∀ k, k ≤ sz → -1000000 ≤ (1 :: long).getD k 0 ∧ (1 :: long).getD k 0 ≤ 1000000 := fun k hk => ser_one hlser (by omega)
    have hmw : ∀ k, k ≤ sz → -1000000 ≤ (1 :: more).getD k 0 ∧ (1 :: more).getD k 0 ≤ 1000000 := fun k hk => ser_one hmser (by omega)
    repeat walk_at "dl"
    refine ev_frz (en_map (ei_rng2 ?_))
    repeat walk_at "dl"
    have e5 : ((sz : Int) + 1 - 1).toNat = sz := by omega
    refine ⟨1, (sz : Int) + 1, rfl, by omega, ?_⟩
    rw [e5]
    refine ⟨by rw [rngD_length]; omega, (blendL long more sz).map .int, by rw [List.length_map, rngD_length, blendL, List.length_map, List.length_range], fun i d hx2 => eg_name' ?_, ?_⟩
    · obtain ⟨hi, rfl⟩ := rngD_get hx2
      repeat walk_at "dl"
      refine ev_frz (en_map (ei_rng1 ?_))
      repeat walk_at "dl"
      have e6 : ((1 : Int) + (i : Int) + 1).toNat = i + 2 := by omega
      refine ⟨by omega, by omega, by rw [rngD_length]; omega, ((List.range (i + 1 + 1)).map fun k => ch (i + 1) k * (1 :: long).getD k 0 * (1 :: more).getD (i + 1 - k) 0).map .int, by rw [rngD_length, List.length_map, List.length_map, List.length_range, e6], fun k d hk => eg_name' ?_, ?_⟩
      · obtain ⟨hk1, rfl⟩ := rngD_get hk
        rw [e6] at hk1
        repeat walk_at "dl"
        refine ⟨i + 1, k, by rw [show (1 : Int) + (i : Int) = ((i + 1 : Nat) : Int) by omega, show (0 : Int) + (k : Int) = (k : Int) by omega], by omega, by omega, ?_⟩
        repeat walk_at "dl"
        refine r2_ixL _ (.lst _) rfl (atI_i (ns := 1 :: long) (k := k) (by omega) (by rw [List.length_cons]; omega)) ?_
        refine r2_mul _ _ rfl rfl (.inl (ch_lt (by omega))) ?_
        repeat walk_at "dl"
        refine r2_ixL _ (.lst _) rfl (atI_i (ns := 1 :: more) (k := i + 1 - k) (by omega) (by rw [List.length_cons]; omega)) ?_
        have hb := hmw (i + 1 - k) (by omega)
        refine r2_mul _ _ rfl rfl (.inr (by omega)) ?_
        refine ⟨?_, rfl⟩
        rw [List.getElem?_map, List.getElem?_map, List.getElem?_range hk1]
        rfl
      · repeat walk_at "dl"
        refine rc_sum _ _ rfl (.lst _) ?_
        refine ⟨?_, rfl⟩
        rw [blendL, List.getElem?_map, List.getElem?_map, List.getElem?_range hi]
        rfl
    -- blended
    have hb1 : blendT long more = blendL long more sz := by rw [blendT, hszv]
    have hb2 : blendT more long = blendL long more sz := by
      rw [blendT, Nat.min_comm, hszv, blendL, blendL]
      exact List.map_congr_left fun i _ => blend_comm _ _ _
    repeat walk_at "dl"
    refine ev_frz (en_lst ?_)
    repeat walk_at "dl"
    refine ⟨long, more, rfl, hlser, hmser, ?_⟩
    repeat walk_at "dl"
    refine ⟨more, long, rfl, hmser, hlser, ?_⟩
    rw [hb1, hb2]
    repeat walk_at "dl"
    refine ⟨by simp, ?_⟩
    repeat walk_at "dl"
    refine ev_frz (en_lst ?_)
    repeat walk_at "dl"
    refine ⟨by simp, ?_⟩
    repeat walk_at "dl"
    have hdl : (blendL long more sz).length ≤ 1000 := by rw [blendL, List.length_map, List.length_range]; omega
    refine ⟨_, rfl, same_2 (same_LI hdl) (same_LI hdl), ?_⟩
    repeat walk_at "dl"
    -- ones, twos
    refine ev_frz (en_draws (a := a) (B := M) 7 3 ⟨by decide, by decide⟩ (by simp) (by decide) rfl (ei_rng1 ?_))
    repeat walk_at "dl"
    refine ⟨by decide, by decide, _, by rw [rngD_length]; decide, by rw [rngD_length]; omega, hs7, fun ones M8 hol hom hs8 => ?_⟩
    repeat walk_at "dl"
    refine ev_frz (en_draws (a := a) (B := M) 7 3 ⟨by decide, by decide⟩ (by simp) (by decide) rfl (ei_rng1 ?_))
    repeat walk_at "dl"
    refine ⟨by decide, by decide, _, by rw [rngD_length]; decide, by rw [rngD_length]; omega, hs8, fun twos M9 htl htm hs9 => ?_⟩
    rw [rngD_length] at hol htl
    rw [rngD_length] at hs9
    have e7 : Int.toNat 4 = 4 := rfl
    rw [e7] at hs9
    have hol : ones.length = 4 := hol
    have htl : twos.length = 4 := htl
    have hoser : Ser ones := ⟨by omega, fun z hz => by have := hom z hz; omega⟩
    have htser : Ser twos := ⟨by omega, fun z hz => by have := htm z hz; omega⟩
    have hs9 := hs9.mono (show _ ≤ (100 * (t : Int) + 80) by omega)
    repeat walk_at "dl"
    refine ⟨_, _, rfl, ?_⟩
    -- blended ones twos
    have hbl4 : (blendT ones twos).length = 4 := by rw [blendT, blendL, List.length_map, List.length_range, hol, htl]; rfl
    have hbser : Ser (blendT ones twos) := blend_ser hol htl (fun z hz => by have := hom z hz; omega) (fun z hz => by have := htm z hz; omega)
    repeat walk_at "dl"
    refine ⟨ones, twos, rfl, hoser, htser, ?_⟩
    repeat walk_at "dl"
    refine ⟨_, rfl, hbser, ?_⟩
    rw [un_blend hol htl]
    repeat walk_at "dl"
    refine ev_frz (en_map (ei_zip ?_))
    repeat walk_at "dl"
    refine ⟨ones, rfl, hoser, ?_⟩
    repeat walk_at "dl"
    refine ⟨twos, rfl, htser, ?_⟩
    repeat walk_at "dl"
    have huo : (ungrownT ones).length = 4 := by rw [ungrownT_length, hol]
    have hut : (ungrownT twos).length = 4 := by rw [ungrownT_length, htl]
    have hzl : (List.zipWith (· + ·) (ungrownT ones) (ungrownT twos)).length = 4 := by rw [List.length_zipWith, huo, hut]; rfl
    refine ⟨_, _, _, _, rfl, .inl rfl, .inl rfl, by rw [zipD_length, List.length_map, List.length_map, huo, hut]; decide, (List.zipWith (· + ·) (ungrownT ones) (ungrownT twos)).map .int, by rw [zipD_length, List.length_map, List.length_map, List.length_map, List.length_zipWith], fun i d hx2 => ?_, ?_⟩
    · obtain ⟨x, y, h1, h2, rfl⟩ := zipD_get hx2
      obtain ⟨x1, h3, rfl⟩ := mem_at h1
      obtain ⟨y1, h4, rfl⟩ := mem_at h2
      refine eg_tup rfl rfl (egs_cons (eg_name (by simp) (egs_cons (eg_name (by simp) (egs_nil ?_)))))
      repeat walk_at "dl"
      refine ⟨?_, rfl⟩
      rw [List.getElem?_map, List.getElem?_zipWith, h3, h4]
      rfl
    repeat walk_at "dl"
    refine ⟨_, rfl, same_LI (by omega), ?_⟩
    repeat walk_at "dl"
    -- many
    refine ⟨a, 31, _, M, rfl, by decide, by decide, by omega, hs9, fun mz M10 hz0 hz1 hs10 => ?_⟩
    obtain ⟨m, rfl⟩ : ∃ m : Nat, mz = (m : Int) := ⟨mz.toNat, by omega⟩
    have hm31 : m ≤ 30 := by omega
    repeat walk_at "dl"
    refine ev_frz (en_lst ?_)
    repeat walk_at "dl"
    refine ⟨by decide, ?_⟩
    repeat walk_at "dl"
    refine zs_for [5] (ei_rng1 ?_)
    repeat walk_at "dl"
    refine ⟨by omega, by omega, fun i Γ' M' => Γ' = [none, some (.ptr a), none, none, none, none, none, none, none, none, none, some (.int (m : Int)), some (LI (rowS i)), none, none, none, none, none, none, none, none, none, none, none] ∧ M10 = M', ⟨_, by walk_at "gle", rfl, rfl⟩, fun i d Γ' M' hx2 hC => ?_, ?_⟩
    · obtain ⟨rfl, rfl⟩ := hC
      obtain ⟨hi, rfl⟩ := rngD_get hx2
      refine eg_name' ?_
      repeat walk_at "dl"
      refine ev_frz (en_map (ei_rng1 ?_))
      repeat walk_at "dl"
      have e8 : ((0 : Int) + (i : Int) + 2).toNat = i + 2 := by omega
      refine ⟨by omega, by omega, by rw [rngD_length]; omega, (rowS (i + 1)).map .int, by rw [rngD_length, List.length_map, rowS_length, e8], fun k d hk => eg_name' ?_, ?_⟩
      · obtain ⟨hk1, rfl⟩ := rngD_get hk
        rw [e8] at hk1
        have fin : ((rowS (i + 1)).map D.int)[k]? = some (.int ((if 0 < k then (rowS i).getD (k - 1) 0 else 0) + (if k ≤ i then (k : Int) * (rowS i).getD k 0 else 0))) := by
          rw [rowS, rowNext, List.getElem?_map, List.getElem?_map, List.getElem?_range hk1]
          rfl
        have hrl := rowS_length i
        repeat walk_at "dl"
        refine dite_bl (fun h1 => ?_) (fun h1 => ?_)
        · rw [if_pos (by omega)] at fin
          repeat walk_at "dl"
          refine r2_ixL _ (.lst _) rfl (atI_i (k := k - 1) (by omega) (by omega)) ?_
          repeat walk_at "dl"
          refine dite_bl (fun h2 => ?_) (fun h2 => ?_)
          · rw [if_pos (by omega)] at fin
            repeat walk_at "dl"
            refine r2_ixL _ (.lst _) rfl (atI_i (k := k) (by omega) (by omega)) ?_
            refine r2_mul _ _ rfl rfl (.inl (by omega)) ?_
            repeat walk_at "dl"
            rw [show (0 : Int) + (k : Int) = (k : Int) from Int.zero_add _]
            exact ⟨fin, rfl⟩
          · rw [if_neg (by omega)] at fin
            repeat walk_at "dl"
            exact ⟨fin, rfl⟩
        · rw [if_neg (by omega)] at fin
          repeat walk_at "dl"
          refine dite_bl (fun h2 => ?_) (fun h2 => ?_)
          · rw [if_pos (by omega)] at fin
            repeat walk_at "dl"
            refine r2_ixL _ (.lst _) rfl (atI_i (k := k) (by omega) (by omega)) ?_
            refine r2_mul _ _ rfl rfl (.inl (by omega)) ?_
            repeat walk_at "dl"
            rw [show (0 : Int) + (k : Int) = (k : Int) from Int.zero_add _]
            exact ⟨fin, rfl⟩
          · rw [if_neg (by omega)] at fin
            repeat walk_at "dl"
            exact ⟨fin, rfl⟩
      · repeat walk_at "dl"
        exact ⟨_, by walk_at "gle", rfl, rfl⟩
    rintro Γ' M' ⟨rfl, rfl⟩
    rw [rngD_length, Int.toNat_natCast]
    repeat walk_at "dl"
    refine ev_frz (en_lst ?_)
    repeat walk_at "dl"
    refine ⟨m, rfl, hm31, ?_⟩
    rw [← rowS_part hm31]
    repeat walk_at "dl"
    refine ev_frz (en_lst ?_)
    repeat walk_at "dl"
    refine ⟨by decide, ?_⟩
    repeat walk_at "dl"
    refine ev_pick (x := (m : Int)) (fun Φ' h => ev_var rfl h) ?_
    have eN : (if (0 : Int) < (m : Int) then (m : Int) else 1) = ((if 0 < m then m else 1 : Nat) : Int) := by split <;> split <;> omega
    have hbell := bell_last hm31
    have hN1 : 1 ≤ (if 0 < m then m else 1) ∧ (if 0 < m then m else 1) ≤ 30 := by split <;> omega
    rw [eN]
    generalize (if 0 < m then m else 1) = N at hbell hN1
    refine r2_frz (r2_rep (N : Int) (.lst _) rfl (by omega) (by simp; omega) ?_)
    rw [Int.toNat_natCast, rep_int]
    repeat walk_at "dl"
    have rser : ∀ n, n ≤ 30 → Ser (List.replicate n 1) := fun n hn => ⟨by rw [List.length_replicate]; exact hn, fun z hz => by rw [List.eq_of_mem_replicate hz]; decide⟩
    refine ⟨List.replicate N 1, rfl, rser N hN1.2, ?_⟩
    repeat walk_at "dl"
    refine r2_ixL (-1) (.lst _) rfl (atI_neg1 (k := N - 1) (by rw [grownT_length, List.length_replicate]; omega) hbell) ?_
    repeat walk_at "dl"
    refine ev_frz (en_lst ?_)
    repeat walk_at "dl"
    refine ⟨by decide, ?_⟩
    repeat walk_at "dl"
    refine r2_frz (r2_rep 30 (.lst _) rfl (by decide) (by decide) ?_)
    rw [rep_int]
    repeat walk_at "dl"
    refine ⟨List.replicate 30 1, rfl, rser 30 (by decide), ?_⟩
    rw [un_ones]
    repeat walk_at "dl"
    refine ⟨by simp, ?_⟩
    repeat walk_at "dl"
    refine ev_frz (en_lst ?_)
    repeat walk_at "dl"
    refine ev_pick (x := (rowS m).sum) (fun Φ' h => ?_) ?_
    · repeat walk_at "dl"
      exact rc_sum _ _ rfl (.lst _) h
    have eB : (if (0 : Int) < (m : Int) then (rowS m).sum else 1) = (if 0 < m then (partL m).sum else 1) := by
      rw [rowS_part hm31]
      split <;> split <;> first | rfl | omega
    rw [eB]
    repeat walk_at "dl"
    refine ev_frz (en_lst ?_)
    repeat walk_at "dl"
    refine ⟨by decide, ?_⟩
    repeat walk_at "dl"
    refine ev_frz (en_lst ?_)
    repeat walk_at "dl"
    refine ⟨by decide, ?_⟩
    repeat walk_at "dl"
    refine r2_frz (r2_rep 29 (.lst _) rfl (by decide) (by decide) ?_)
    rw [rep_int]
    refine r2_frz (r2_cat (.lst _) (.lst _) (by decide) ?_)
    repeat walk_at "dl"
    refine ⟨by simp, ?_⟩
    repeat walk_at "dl"
    refine ⟨_, rfl, same_3 (same_LI (by rw [rowS_length]; omega)) (same_int _) (same_LI (ns := 1 :: List.replicate 29 0) (by decide)), ?_⟩
    repeat walk_at "dl"
    refine ⟨_, by walk_at "gle", rfl, ?_⟩
    exact hs10.mono (by omega)
  · obtain ⟨rfl, hs⟩ := hC
    repeat walk_at "dl"
    exact q _
end
end K30


set_option Elab.async false
set_option linter.all false
set_option maxRecDepth 100000
set_option maxHeartbeats 4000000
namespace K30
open PySem PySem.Spec PyProof.Rows L2 StX DL
/-! ### what the top has left; the law's own end -/
theorem sp_end {K : PySem.W.Frag} {H : Hp} {a : Addr} {ns : List Int} (hl : ns.length ≤ 63) (_ : L2.Only H) (hS : SqL K H a (ns.map V.int)) : spOf K S_law [.ref a] H (fun v _ => v = .bl true) fun _ _ _ => False :=
  ⟨H, [], [.rol (ns.map .int)], fun d _ => d = .bl true, ⟨Gr.refl H, List.nodup_nil, fun _ h => absurd h List.not_mem_nil⟩, .cons (.rol hS (isl_ints ns)) .nil, ⟨ns, rfl, hl, fun _ => rfl⟩, fun v F' H' d M' x r i e => by
    subst e
    cases i
    rfl⟩
theorem all_mk {l : PySem.W.OpenLaw} {w : World} {K : PySem.W.Frag} {h : Heap} {mg : Str → Option Value} {fa : Addr} (X : K.In h) (G : h.Ns mainGlobals mg) (hfa : mg "law" = some (.ref fa))
    {f_is_integer f_is_between f_is_list f_is_series f_check_series f_choice_rows f_grown f_ungrown f_blended f_parting_counts f__law_start f__law_below f__law_same f__law_wways f__law_wproduct f__law_wgrown f__law_wheapsof f_law : Addr}
    {od_is_integer an_is_integer od_is_between an_is_between od_is_list an_is_list od_is_series an_is_series od_check_series an_check_series od_choice_rows an_choice_rows od_grown an_grown od_ungrown an_ungrown od_blended an_blended od_parting_counts an_parting_counts od__law_start an__law_start od__law_below an__law_below od__law_same an__law_same od__law_wways an__law_wways od__law_wproduct an__law_wproduct od__law_wgrown an__law_wgrown od__law_wheapsof an__law_wheapsof od_law an_law : Option Addr}
    {sl_is_integer sl_is_between sl_is_list sl_is_series sl_check_series sl_choice_rows sl_grown sl_ungrown sl_blended sl_parting_counts sl__law_start sl__law_below sl__law_same sl__law_wways sl__law_wproduct sl__law_wgrown sl__law_wheapsof sl_law : Array (Option Value)}
    {oc_is_integer kV_is_integer dc_is_integer pm_is_integer cd_is_integer ct_is_integer oc_is_between kV_is_between dc_is_between pm_is_between cd_is_between ct_is_between oc_is_list kV_is_list dc_is_list pm_is_list cd_is_list ct_is_list oc_is_series kV_is_series dc_is_series pm_is_series cd_is_series ct_is_series oc_check_series kV_check_series dc_check_series pm_check_series cd_check_series ct_check_series oc_choice_rows kV_choice_rows dc_choice_rows pm_choice_rows cd_choice_rows ct_choice_rows oc_grown kV_grown dc_grown pm_grown cd_grown ct_grown oc_ungrown kV_ungrown dc_ungrown pm_ungrown cd_ungrown ct_ungrown oc_blended kV_blended dc_blended pm_blended cd_blended ct_blended oc_parting_counts kV_parting_counts dc_parting_counts pm_parting_counts cd_parting_counts ct_parting_counts oc__law_start kV__law_start dc__law_start pm__law_start cd__law_start ct__law_start oc__law_below kV__law_below dc__law_below pm__law_below cd__law_below ct__law_below oc__law_same kV__law_same dc__law_same pm__law_same cd__law_same ct__law_same oc__law_wways kV__law_wways dc__law_wways pm__law_wways cd__law_wways ct__law_wways oc__law_wproduct kV__law_wproduct dc__law_wproduct pm__law_wproduct cd__law_wproduct ct__law_wproduct oc__law_wgrown kV__law_wgrown dc__law_wgrown pm__law_wgrown cd__law_wgrown ct__law_wgrown oc__law_wheapsof kV__law_wheapsof dc__law_wheapsof pm__law_wheapsof cd__law_wheapsof ct__law_wheapsof oc_law kV_law dc_law pm_law cd_law ct_law : Value}
    {t_MILLION t_THIRTY : Tok}
    (a_is_integer : PySem.W.nsIn K mainGlobals "is_integer" = some (some (.ref f_is_integer))) (l_is_integer : K.lookup f_is_integer = some ⟨oc_is_integer, od_is_integer, .func (PySem.W.fnOf "is_integer" "is_integer" (defArgs s_is_integer) (defBody s_is_integer) (defScope s_is_integer) .none kV_is_integer dc_is_integer pm_is_integer an_is_integer cd_is_integer ct_is_integer), sl_is_integer⟩) (c_is_integer : PySem.W.codeIn K cd_is_integer "is_integer" = true) (k_is_integer : PySem.W.keepIn K (.ref f_is_integer) = true)
    (a_is_between : PySem.W.nsIn K mainGlobals "is_between" = some (some (.ref f_is_between))) (l_is_between : K.lookup f_is_between = some ⟨oc_is_between, od_is_between, .func (PySem.W.fnOf "is_between" "is_between" (defArgs s_is_between) (defBody s_is_between) (defScope s_is_between) .none kV_is_between dc_is_between pm_is_between an_is_between cd_is_between ct_is_between), sl_is_between⟩) (c_is_between : PySem.W.codeIn K cd_is_between "is_between" = true) (k_is_between : PySem.W.keepIn K (.ref f_is_between) = true)
    (a_is_list : PySem.W.nsIn K mainGlobals "is_list" = some (some (.ref f_is_list))) (l_is_list : K.lookup f_is_list = some ⟨oc_is_list, od_is_list, .func (PySem.W.fnOf "is_list" "is_list" (defArgs s_is_list) (defBody s_is_list) (defScope s_is_list) .none kV_is_list dc_is_list pm_is_list an_is_list cd_is_list ct_is_list), sl_is_list⟩) (c_is_list : PySem.W.codeIn K cd_is_list "is_list" = true) (k_is_list : PySem.W.keepIn K (.ref f_is_list) = true)
    (a_is_series : PySem.W.nsIn K mainGlobals "is_series" = some (some (.ref f_is_series))) (l_is_series : K.lookup f_is_series = some ⟨oc_is_series, od_is_series, .func (PySem.W.fnOf "is_series" "is_series" (defArgs s_is_series) (defBody s_is_series) (defScope s_is_series) .none kV_is_series dc_is_series pm_is_series an_is_series cd_is_series ct_is_series), sl_is_series⟩) (c_is_series : PySem.W.codeIn K cd_is_series "is_series" = true) (k_is_series : PySem.W.keepIn K (.ref f_is_series) = true)
    (a_check_series : PySem.W.nsIn K mainGlobals "check_series" = some (some (.ref f_check_series))) (l_check_series : K.lookup f_check_series = some ⟨oc_check_series, od_check_series, .func (PySem.W.fnOf "check_series" "check_series" (defArgs s_check_series) (defBody s_check_series) (defScope s_check_series) .none kV_check_series dc_check_series pm_check_series an_check_series cd_check_series ct_check_series), sl_check_series⟩) (c_check_series : PySem.W.codeIn K cd_check_series "check_series" = true) (k_check_series : PySem.W.keepIn K (.ref f_check_series) = true)
    (a_choice_rows : PySem.W.nsIn K mainGlobals "choice_rows" = some (some (.ref f_choice_rows))) (l_choice_rows : K.lookup f_choice_rows = some ⟨oc_choice_rows, od_choice_rows, .func (PySem.W.fnOf "choice_rows" "choice_rows" (defArgs s_choice_rows) (defBody s_choice_rows) (defScope s_choice_rows) .none kV_choice_rows dc_choice_rows pm_choice_rows an_choice_rows cd_choice_rows ct_choice_rows), sl_choice_rows⟩) (c_choice_rows : PySem.W.codeIn K cd_choice_rows "choice_rows" = true) (k_choice_rows : PySem.W.keepIn K (.ref f_choice_rows) = true)
    (a_grown : PySem.W.nsIn K mainGlobals "grown" = some (some (.ref f_grown))) (l_grown : K.lookup f_grown = some ⟨oc_grown, od_grown, .func (PySem.W.fnOf "grown" "grown" (defArgs s_grown) (defBody s_grown) (defScope s_grown) .none kV_grown dc_grown pm_grown an_grown cd_grown ct_grown), sl_grown⟩) (c_grown : PySem.W.codeIn K cd_grown "grown" = true) (k_grown : PySem.W.keepIn K (.ref f_grown) = true)
    (a_ungrown : PySem.W.nsIn K mainGlobals "ungrown" = some (some (.ref f_ungrown))) (l_ungrown : K.lookup f_ungrown = some ⟨oc_ungrown, od_ungrown, .func (PySem.W.fnOf "ungrown" "ungrown" (defArgs s_ungrown) (defBody s_ungrown) (defScope s_ungrown) .none kV_ungrown dc_ungrown pm_ungrown an_ungrown cd_ungrown ct_ungrown), sl_ungrown⟩) (c_ungrown : PySem.W.codeIn K cd_ungrown "ungrown" = true) (k_ungrown : PySem.W.keepIn K (.ref f_ungrown) = true)
    (a_blended : PySem.W.nsIn K mainGlobals "blended" = some (some (.ref f_blended))) (l_blended : K.lookup f_blended = some ⟨oc_blended, od_blended, .func (PySem.W.fnOf "blended" "blended" (defArgs s_blended) (defBody s_blended) (defScope s_blended) .none kV_blended dc_blended pm_blended an_blended cd_blended ct_blended), sl_blended⟩) (c_blended : PySem.W.codeIn K cd_blended "blended" = true) (k_blended : PySem.W.keepIn K (.ref f_blended) = true)
    (a_parting_counts : PySem.W.nsIn K mainGlobals "parting_counts" = some (some (.ref f_parting_counts))) (l_parting_counts : K.lookup f_parting_counts = some ⟨oc_parting_counts, od_parting_counts, .func (PySem.W.fnOf "parting_counts" "parting_counts" (defArgs s_parting_counts) (defBody s_parting_counts) (defScope s_parting_counts) .none kV_parting_counts dc_parting_counts pm_parting_counts an_parting_counts cd_parting_counts ct_parting_counts), sl_parting_counts⟩) (c_parting_counts : PySem.W.codeIn K cd_parting_counts "parting_counts" = true) (k_parting_counts : PySem.W.keepIn K (.ref f_parting_counts) = true)
    (a__law_start : PySem.W.nsIn K mainGlobals "_law_start" = some (some (.ref f__law_start))) (l__law_start : K.lookup f__law_start = some ⟨oc__law_start, od__law_start, .func (PySem.W.fnOf "_law_start" "_law_start" (defArgs s__law_start) (defBody s__law_start) (defScope s__law_start) .none kV__law_start dc__law_start pm__law_start an__law_start cd__law_start ct__law_start), sl__law_start⟩) (c__law_start : PySem.W.codeIn K cd__law_start "_law_start" = true) (k__law_start : PySem.W.keepIn K (.ref f__law_start) = true)
    (a__law_below : PySem.W.nsIn K mainGlobals "_law_below" = some (some (.ref f__law_below))) (l__law_below : K.lookup f__law_below = some ⟨oc__law_below, od__law_below, .func (PySem.W.fnOf "_law_below" "_law_below" (defArgs s__law_below) (defBody s__law_below) (defScope s__law_below) .none kV__law_below dc__law_below pm__law_below an__law_below cd__law_below ct__law_below), sl__law_below⟩) (c__law_below : PySem.W.codeIn K cd__law_below "_law_below" = true) (k__law_below : PySem.W.keepIn K (.ref f__law_below) = true)
    (a__law_same : PySem.W.nsIn K mainGlobals "_law_same" = some (some (.ref f__law_same))) (l__law_same : K.lookup f__law_same = some ⟨oc__law_same, od__law_same, .func (PySem.W.fnOf "_law_same" "_law_same" (defArgs s__law_same) (defBody s__law_same) (defScope s__law_same) .none kV__law_same dc__law_same pm__law_same an__law_same cd__law_same ct__law_same), sl__law_same⟩) (c__law_same : PySem.W.codeIn K cd__law_same "_law_same" = true) (k__law_same : PySem.W.keepIn K (.ref f__law_same) = true)
    (a__law_wways : PySem.W.nsIn K mainGlobals "_law_wways" = some (some (.ref f__law_wways))) (l__law_wways : K.lookup f__law_wways = some ⟨oc__law_wways, od__law_wways, .func (PySem.W.fnOf "_law_wways" "_law_wways" (defArgs s__law_wways) (defBody s__law_wways) (defScope s__law_wways) .none kV__law_wways dc__law_wways pm__law_wways an__law_wways cd__law_wways ct__law_wways), sl__law_wways⟩) (c__law_wways : PySem.W.codeIn K cd__law_wways "_law_wways" = true) (k__law_wways : PySem.W.keepIn K (.ref f__law_wways) = true)
    (a__law_wproduct : PySem.W.nsIn K mainGlobals "_law_wproduct" = some (some (.ref f__law_wproduct))) (l__law_wproduct : K.lookup f__law_wproduct = some ⟨oc__law_wproduct, od__law_wproduct, .func (PySem.W.fnOf "_law_wproduct" "_law_wproduct" (defArgs s__law_wproduct) (defBody s__law_wproduct) (defScope s__law_wproduct) .none kV__law_wproduct dc__law_wproduct pm__law_wproduct an__law_wproduct cd__law_wproduct ct__law_wproduct), sl__law_wproduct⟩) (c__law_wproduct : PySem.W.codeIn K cd__law_wproduct "_law_wproduct" = true) (k__law_wproduct : PySem.W.keepIn K (.ref f__law_wproduct) = true)
    (a__law_wgrown : PySem.W.nsIn K mainGlobals "_law_wgrown" = some (some (.ref f__law_wgrown))) (l__law_wgrown : K.lookup f__law_wgrown = some ⟨oc__law_wgrown, od__law_wgrown, .func (PySem.W.fnOf "_law_wgrown" "_law_wgrown" (defArgs s__law_wgrown) (defBody s__law_wgrown) (defScope s__law_wgrown) .none kV__law_wgrown dc__law_wgrown pm__law_wgrown an__law_wgrown cd__law_wgrown ct__law_wgrown), sl__law_wgrown⟩) (c__law_wgrown : PySem.W.codeIn K cd__law_wgrown "_law_wgrown" = true) (k__law_wgrown : PySem.W.keepIn K (.ref f__law_wgrown) = true)
    (a__law_wheapsof : PySem.W.nsIn K mainGlobals "_law_wheapsof" = some (some (.ref f__law_wheapsof))) (l__law_wheapsof : K.lookup f__law_wheapsof = some ⟨oc__law_wheapsof, od__law_wheapsof, .func (PySem.W.fnOf "_law_wheapsof" "_law_wheapsof" (defArgs s__law_wheapsof) (defBody s__law_wheapsof) (defScope s__law_wheapsof) .none kV__law_wheapsof dc__law_wheapsof pm__law_wheapsof an__law_wheapsof cd__law_wheapsof ct__law_wheapsof), sl__law_wheapsof⟩) (c__law_wheapsof : PySem.W.codeIn K cd__law_wheapsof "_law_wheapsof" = true) (k__law_wheapsof : PySem.W.keepIn K (.ref f__law_wheapsof) = true)
    (a_law : PySem.W.nsIn K mainGlobals "law" = some (some (.ref f_law))) (l_law : K.lookup f_law = some ⟨oc_law, od_law, .func (PySem.W.fnOf "law" "law" (defArgs s_law) (defBody s_law) (defScope s_law) .none kV_law dc_law pm_law an_law cd_law ct_law), sl_law⟩) (c_law : PySem.W.codeIn K cd_law "law" = true) (k_law : PySem.W.keepIn K (.ref f_law) = true)
    (z_MILLION : PySem.W.nsIn K mainGlobals "MILLION" = some (some (.int 1000000 t_MILLION)))
    (z_THIRTY : PySem.W.nsIn K mainGlobals "THIRTY" = some (some (.int 30 t_THIRTY)))
    (z_abs : PySem.W.nsIn K mainGlobals "abs" = some none)
    (z_all : PySem.W.nsIn K mainGlobals "all" = some none)
    (z_bool : PySem.W.nsIn K mainGlobals "bool" = some none)
    (z_dict : PySem.W.nsIn K mainGlobals "dict" = some none)
    (z_enumerate : PySem.W.nsIn K mainGlobals "enumerate" = some none)
    (z_int : PySem.W.nsIn K mainGlobals "int" = some none)
    (z_isinstance : PySem.W.nsIn K mainGlobals "isinstance" = some none)
    (z_len : PySem.W.nsIn K mainGlobals "len" = some none)
    (z_list : PySem.W.nsIn K mainGlobals "list" = some none)
    (z_max : PySem.W.nsIn K mainGlobals "max" = some none)
    (z_min : PySem.W.nsIn K mainGlobals "min" = some none)
    (z_range : PySem.W.nsIn K mainGlobals "range" = some none)
    (z_str : PySem.W.nsIn K mainGlobals "str" = some none)
    (z_sum : PySem.W.nsIn K mainGlobals "sum" = some none)
    (z_tuple : PySem.W.nsIn K mainGlobals "tuple" = some none)
    (z_zip : PySem.W.nsIn K mainGlobals "zip" = some none) :
    ∃ fd : FuncData, (∀ (s : Shared) (v : Value), BindsTo s fd ⟨[v], []⟩ [("script", v)]) ∧ ∀ base : Heap, K.In base → base.Ns mainGlobals mg → FnOk l.prog w K mg base CX0 6 fa fd ["script"] (spOf K S_law) := by
  have e := hfa.symm.trans (PySem.W.mg_of X G a_law)
  cases e
  have F_is_integer := fun_mk (st := s_is_integer) l_is_integer c_is_integer k_is_integer
  have B_is_integer := F_is_integer.binds (ps := ["thing"]) fun _ _ _ _ _ _ us hl => match us, hl with | [_], _ => rfl
  have F_is_between := fun_mk (st := s_is_between) l_is_between c_is_between k_is_between
  have B_is_between := F_is_between.binds (ps := ["thing", "low", "high"]) fun _ _ _ _ _ _ us hl => match us, hl with | [_, _, _], _ => rfl
  have F_is_list := fun_mk (st := s_is_list) l_is_list c_is_list k_is_list
  have B_is_list := F_is_list.binds (ps := ["thing"]) fun _ _ _ _ _ _ us hl => match us, hl with | [_], _ => rfl
  have F_is_series := fun_mk (st := s_is_series) l_is_series c_is_series k_is_series
  have B_is_series := F_is_series.binds (ps := ["thing"]) fun _ _ _ _ _ _ us hl => match us, hl with | [_], _ => rfl
  have F_check_series := fun_mk (st := s_check_series) l_check_series c_check_series k_check_series
  have B_check_series := F_check_series.binds (ps := ["series"]) fun _ _ _ _ _ _ us hl => match us, hl with | [_], _ => rfl
  have F_choice_rows := fun_mk (st := s_choice_rows) l_choice_rows c_choice_rows k_choice_rows
  have B_choice_rows := F_choice_rows.binds (ps := ["many"]) fun _ _ _ _ _ _ us hl => match us, hl with | [_], _ => rfl
  have F_grown := fun_mk (st := s_grown) l_grown c_grown k_grown
  have B_grown := F_grown.binds (ps := ["series"]) fun _ _ _ _ _ _ us hl => match us, hl with | [_], _ => rfl
  have F_ungrown := fun_mk (st := s_ungrown) l_ungrown c_ungrown k_ungrown
  have B_ungrown := F_ungrown.binds (ps := ["series"]) fun _ _ _ _ _ _ us hl => match us, hl with | [_], _ => rfl
  have F_blended := fun_mk (st := s_blended) l_blended c_blended k_blended
  have B_blended := F_blended.binds (ps := ["series", "other"]) fun _ _ _ _ _ _ us hl => match us, hl with | [_, _], _ => rfl
  have F_parting_counts := fun_mk (st := s_parting_counts) l_parting_counts c_parting_counts k_parting_counts
  have B_parting_counts := F_parting_counts.binds (ps := ["many"]) fun _ _ _ _ _ _ us hl => match us, hl with | [_], _ => rfl
  have F__law_start := fun_mk (st := s__law_start) l__law_start c__law_start k__law_start
  have B__law_start := F__law_start.binds (ps := ["script"]) fun _ _ _ _ _ _ us hl => match us, hl with | [_], _ => rfl
  have F__law_below := fun_mk (st := s__law_below) l__law_below c__law_below k__law_below
  have B__law_below := F__law_below.binds (ps := ["stream", "many"]) fun _ _ _ _ _ _ us hl => match us, hl with | [_, _], _ => rfl
  have F__law_same := fun_mk (st := s__law_same) l__law_same c__law_same k__law_same
  have B__law_same := F__law_same.binds (ps := ["found", "due"]) fun _ _ _ _ _ _ us hl => match us, hl with | [_, _], _ => rfl
  have F__law_wways := fun_mk (st := s__law_wways) l__law_wways c__law_wways k__law_wways
  have B__law_wways := F__law_wways.binds (ps := ["many", "some"]) fun _ _ _ _ _ _ us hl => match us, hl with | [_, _], _ => rfl
  have F__law_wproduct := fun_mk (st := s__law_wproduct) l__law_wproduct c__law_wproduct k__law_wproduct
  have B__law_wproduct := F__law_wproduct.binds (ps := ["numbers"]) fun _ _ _ _ _ _ us hl => match us, hl with | [_], _ => rfl
  have F__law_wgrown := fun_mk (st := s__law_wgrown) l__law_wgrown c__law_wgrown k__law_wgrown
  have B__law_wgrown := F__law_wgrown.binds (ps := ["series"]) fun _ _ _ _ _ _ us hl => match us, hl with | [_], _ => rfl
  have F__law_wheapsof := fun_mk (st := s__law_wheapsof) l__law_wheapsof c__law_wheapsof k__law_wheapsof
  have B__law_wheapsof := F__law_wheapsof.binds (ps := ["names"]) fun _ _ _ _ _ _ us hl => match us, hl with | [_], _ => rfl
  have F_law := fun_mk (st := s_law) l_law c_law k_law
  have B_law := F_law.binds (ps := ["script"]) fun _ _ _ _ _ _ us hl => match us, hl with | [_], _ => rfl
  exact ⟨PySem.W.fnOf "law" "law" (defArgs s_law) (defBody s_law) (defScope s_law) .none kV_law dc_law pm_law an_law cd_law ct_law, fun s v => .of_eq rfl, fun base _ _ => ok_law (mg := mg) (K := K) {b_abs := PySem.W.mg_none_of X G z_abs, b_all := PySem.W.mg_none_of X G z_all, b_bool := PySem.W.mg_none_of X G z_bool, b_dict := PySem.W.mg_none_of X G z_dict, b_enumerate := PySem.W.mg_none_of X G z_enumerate, b_int := PySem.W.mg_none_of X G z_int, b_isinstance := PySem.W.mg_none_of X G z_isinstance, b_len := PySem.W.mg_none_of X G z_len, b_list := PySem.W.mg_none_of X G z_list, b_max := PySem.W.mg_none_of X G z_max, b_min := PySem.W.mg_none_of X G z_min, b_range := PySem.W.mg_none_of X G z_range, b_str := PySem.W.mg_none_of X G z_str, b_sum := PySem.W.mg_none_of X G z_sum, b_tuple := PySem.W.mg_none_of X G z_tuple, b_zip := PySem.W.mg_none_of X G z_zip, t_MILLION := t_MILLION, c_MILLION := PySem.W.mg_of X G z_MILLION, t_THIRTY := t_THIRTY, c_THIRTY := PySem.W.mg_of X G z_THIRTY, f_is_integer := f_is_integer, d_is_integer := PySem.W.fnOf "is_integer" "is_integer" (defArgs s_is_integer) (defBody s_is_integer) (defScope s_is_integer) .none kV_is_integer dc_is_integer pm_is_integer an_is_integer cd_is_integer ct_is_integer, F_is_integer := F_is_integer, g_is_integer := PySem.W.mg_of X G a_is_integer, B_is_integer := B_is_integer, f_is_between := f_is_between, d_is_between := PySem.W.fnOf "is_between" "is_between" (defArgs s_is_between) (defBody s_is_between) (defScope s_is_between) .none kV_is_between dc_is_between pm_is_between an_is_between cd_is_between ct_is_between, F_is_between := F_is_between, g_is_between := PySem.W.mg_of X G a_is_between, B_is_between := B_is_between, f_is_list := f_is_list, d_is_list := PySem.W.fnOf "is_list" "is_list" (defArgs s_is_list) (defBody s_is_list) (defScope s_is_list) .none kV_is_list dc_is_list pm_is_list an_is_list cd_is_list ct_is_list, F_is_list := F_is_list, g_is_list := PySem.W.mg_of X G a_is_list, B_is_list := B_is_list, f_is_series := f_is_series, d_is_series := PySem.W.fnOf "is_series" "is_series" (defArgs s_is_series) (defBody s_is_series) (defScope s_is_series) .none kV_is_series dc_is_series pm_is_series an_is_series cd_is_series ct_is_series, F_is_series := F_is_series, g_is_series := PySem.W.mg_of X G a_is_series, B_is_series := B_is_series, f_check_series := f_check_series, d_check_series := PySem.W.fnOf "check_series" "check_series" (defArgs s_check_series) (defBody s_check_series) (defScope s_check_series) .none kV_check_series dc_check_series pm_check_series an_check_series cd_check_series ct_check_series, F_check_series := F_check_series, g_check_series := PySem.W.mg_of X G a_check_series, B_check_series := B_check_series, f_choice_rows := f_choice_rows, d_choice_rows := PySem.W.fnOf "choice_rows" "choice_rows" (defArgs s_choice_rows) (defBody s_choice_rows) (defScope s_choice_rows) .none kV_choice_rows dc_choice_rows pm_choice_rows an_choice_rows cd_choice_rows ct_choice_rows, F_choice_rows := F_choice_rows, g_choice_rows := PySem.W.mg_of X G a_choice_rows, B_choice_rows := B_choice_rows, f_grown := f_grown, d_grown := PySem.W.fnOf "grown" "grown" (defArgs s_grown) (defBody s_grown) (defScope s_grown) .none kV_grown dc_grown pm_grown an_grown cd_grown ct_grown, F_grown := F_grown, g_grown := PySem.W.mg_of X G a_grown, B_grown := B_grown, f_ungrown := f_ungrown, d_ungrown := PySem.W.fnOf "ungrown" "ungrown" (defArgs s_ungrown) (defBody s_ungrown) (defScope s_ungrown) .none kV_ungrown dc_ungrown pm_ungrown an_ungrown cd_ungrown ct_ungrown, F_ungrown := F_ungrown, g_ungrown := PySem.W.mg_of X G a_ungrown, B_ungrown := B_ungrown, f_blended := f_blended, d_blended := PySem.W.fnOf "blended" "blended" (defArgs s_blended) (defBody s_blended) (defScope s_blended) .none kV_blended dc_blended pm_blended an_blended cd_blended ct_blended, F_blended := F_blended, g_blended := PySem.W.mg_of X G a_blended, B_blended := B_blended, f_parting_counts := f_parting_counts, d_parting_counts := PySem.W.fnOf "parting_counts" "parting_counts" (defArgs s_parting_counts) (defBody s_parting_counts) (defScope s_parting_counts) .none kV_parting_counts dc_parting_counts pm_parting_counts an_parting_counts cd_parting_counts ct_parting_counts, F_parting_counts := F_parting_counts, g_parting_counts := PySem.W.mg_of X G a_parting_counts, B_parting_counts := B_parting_counts, f__law_start := f__law_start, d__law_start := PySem.W.fnOf "_law_start" "_law_start" (defArgs s__law_start) (defBody s__law_start) (defScope s__law_start) .none kV__law_start dc__law_start pm__law_start an__law_start cd__law_start ct__law_start, F__law_start := F__law_start, g__law_start := PySem.W.mg_of X G a__law_start, B__law_start := B__law_start, f__law_below := f__law_below, d__law_below := PySem.W.fnOf "_law_below" "_law_below" (defArgs s__law_below) (defBody s__law_below) (defScope s__law_below) .none kV__law_below dc__law_below pm__law_below an__law_below cd__law_below ct__law_below, F__law_below := F__law_below, g__law_below := PySem.W.mg_of X G a__law_below, B__law_below := B__law_below, f__law_same := f__law_same, d__law_same := PySem.W.fnOf "_law_same" "_law_same" (defArgs s__law_same) (defBody s__law_same) (defScope s__law_same) .none kV__law_same dc__law_same pm__law_same an__law_same cd__law_same ct__law_same, F__law_same := F__law_same, g__law_same := PySem.W.mg_of X G a__law_same, B__law_same := B__law_same, f__law_wways := f__law_wways, d__law_wways := PySem.W.fnOf "_law_wways" "_law_wways" (defArgs s__law_wways) (defBody s__law_wways) (defScope s__law_wways) .none kV__law_wways dc__law_wways pm__law_wways an__law_wways cd__law_wways ct__law_wways, F__law_wways := F__law_wways, g__law_wways := PySem.W.mg_of X G a__law_wways, B__law_wways := B__law_wways, f__law_wproduct := f__law_wproduct, d__law_wproduct := PySem.W.fnOf "_law_wproduct" "_law_wproduct" (defArgs s__law_wproduct) (defBody s__law_wproduct) (defScope s__law_wproduct) .none kV__law_wproduct dc__law_wproduct pm__law_wproduct an__law_wproduct cd__law_wproduct ct__law_wproduct, F__law_wproduct := F__law_wproduct, g__law_wproduct := PySem.W.mg_of X G a__law_wproduct, B__law_wproduct := B__law_wproduct, f__law_wgrown := f__law_wgrown, d__law_wgrown := PySem.W.fnOf "_law_wgrown" "_law_wgrown" (defArgs s__law_wgrown) (defBody s__law_wgrown) (defScope s__law_wgrown) .none kV__law_wgrown dc__law_wgrown pm__law_wgrown an__law_wgrown cd__law_wgrown ct__law_wgrown, F__law_wgrown := F__law_wgrown, g__law_wgrown := PySem.W.mg_of X G a__law_wgrown, B__law_wgrown := B__law_wgrown, f__law_wheapsof := f__law_wheapsof, d__law_wheapsof := PySem.W.fnOf "_law_wheapsof" "_law_wheapsof" (defArgs s__law_wheapsof) (defBody s__law_wheapsof) (defScope s__law_wheapsof) .none kV__law_wheapsof dc__law_wheapsof pm__law_wheapsof an__law_wheapsof cd__law_wheapsof ct__law_wheapsof, F__law_wheapsof := F__law_wheapsof, g__law_wheapsof := PySem.W.mg_of X G a__law_wheapsof, B__law_wheapsof := B__law_wheapsof, f_law := _, d_law := PySem.W.fnOf "law" "law" (defArgs s_law) (defBody s_law) (defScope s_law) .none kV_law dc_law pm_law an_law cd_law ct_law, F_law := F_law, g_law := PySem.W.mg_of X G a_law, B_law := B_law}⟩
end K30
open PySem PySem.W PyProof.Rows
set_option maxHeartbeats 0 in
theorem PySem.Challenge.cw_undersums_k30_whole_sums_over_all_partin_holds : PySem.Challenge.rw_undersums_k30_whole_sums_over_all_partin.Holds := by
  w_on; o_law; k_head; (case hw => w_witness2)
  k_fill
  refine L2.walk_of (l := PySem.Challenge.rw_undersums_k30_whole_sums_over_all_partin) (n := 63) (k := 6) (x := "script") (CX := fun _ => L2.CX0) (sp := fun w => DL.spOf _ K30.S_law) rfl (by decide) rfl ⟨rfl, by decide, by decide⟩ (fun w h Y => PySem.W.kIn_of Y) ?F (fun _ _ a ns hl ho hS => K30.sp_end hl ho hS) (fun _ _ _ _ _ h => h)
  case F =>
    intro w mg fa h KX G hmg
    refine' K30.all_mk KX G hmg ?a_is_integer ?l_is_integer ?c_is_integer ?k_is_integer ?a_is_between ?l_is_between ?c_is_between ?k_is_between ?a_is_list ?l_is_list ?c_is_list ?k_is_list ?a_is_series ?l_is_series ?c_is_series ?k_is_series ?a_check_series ?l_check_series ?c_check_series ?k_check_series ?a_choice_rows ?l_choice_rows ?c_choice_rows ?k_choice_rows ?a_grown ?l_grown ?c_grown ?k_grown ?a_ungrown ?l_ungrown ?c_ungrown ?k_ungrown ?a_blended ?l_blended ?c_blended ?k_blended ?a_parting_counts ?l_parting_counts ?c_parting_counts ?k_parting_counts ?a__law_start ?l__law_start ?c__law_start ?k__law_start ?a__law_below ?l__law_below ?c__law_below ?k__law_below ?a__law_same ?l__law_same ?c__law_same ?k__law_same ?a__law_wways ?l__law_wways ?c__law_wways ?k__law_wways ?a__law_wproduct ?l__law_wproduct ?c__law_wproduct ?k__law_wproduct ?a__law_wgrown ?l__law_wgrown ?c__law_wgrown ?k__law_wgrown ?a__law_wheapsof ?l__law_wheapsof ?c__law_wheapsof ?k__law_wheapsof ?a_law ?l_law ?c_law ?k_law ?z_MILLION ?z_THIRTY ?z_abs ?z_all ?z_bool ?z_dict ?z_enumerate ?z_int ?z_isinstance ?z_len ?z_list ?z_max ?z_min ?z_range ?z_str ?z_sum ?z_tuple ?z_zip
    (case a_is_integer => k_is); (case l_is_integer => k_is); (case c_is_integer => k_is); (case k_is_integer => k_is); (case a_is_between => k_is); (case l_is_between => k_is); (case c_is_between => k_is); (case k_is_between => k_is); (case a_is_list => k_is); (case l_is_list => k_is); (case c_is_list => k_is); (case k_is_list => k_is); (case a_is_series => k_is); (case l_is_series => k_is); (case c_is_series => k_is); (case k_is_series => k_is); (case a_check_series => k_is); (case l_check_series => k_is); (case c_check_series => k_is); (case k_check_series => k_is); (case a_choice_rows => k_is); (case l_choice_rows => k_is); (case c_choice_rows => k_is); (case k_choice_rows => k_is); (case a_grown => k_is); (case l_grown => k_is); (case c_grown => k_is); (case k_grown => k_is); (case a_ungrown => k_is); (case l_ungrown => k_is); (case c_ungrown => k_is); (case k_ungrown => k_is); (case a_blended => k_is); (case l_blended => k_is); (case c_blended => k_is); (case k_blended => k_is); (case a_parting_counts => k_is); (case l_parting_counts => k_is); (case c_parting_counts => k_is); (case k_parting_counts => k_is); (case a__law_start => k_is); (case l__law_start => k_is); (case c__law_start => k_is); (case k__law_start => k_is); (case a__law_below => k_is); (case l__law_below => k_is); (case c__law_below => k_is); (case k__law_below => k_is); (case a__law_same => k_is); (case l__law_same => k_is); (case c__law_same => k_is); (case k__law_same => k_is); (case a__law_wways => k_is); (case l__law_wways => k_is); (case c__law_wways => k_is); (case k__law_wways => k_is); (case a__law_wproduct => k_is); (case l__law_wproduct => k_is); (case c__law_wproduct => k_is); (case k__law_wproduct => k_is); (case a__law_wgrown => k_is); (case l__law_wgrown => k_is); (case c__law_wgrown => k_is); (case k__law_wgrown => k_is); (case a__law_wheapsof => k_is); (case l__law_wheapsof => k_is); (case c__law_wheapsof => k_is); (case k__law_wheapsof => k_is); (case a_law => k_is); (case l_law => k_is); (case c_law => k_is); (case k_law => k_is); (case z_MILLION => k_is); (case z_THIRTY => k_is); (case z_abs => k_is); (case z_all => k_is); (case z_bool => k_is); (case z_dict => k_is); (case z_enumerate => k_is); (case z_int => k_is); (case z_isinstance => k_is); (case z_len => k_is); (case z_list => k_is); (case z_max => k_is); (case z_min => k_is); (case z_range => k_is); (case z_str => k_is); (case z_sum => k_is); (case z_tuple => k_is); (case z_zip => k_is)

