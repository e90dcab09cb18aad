import PyProof.Rows.All
import Wide.All
import OpenK.AllK
import Wide.FinOn
import HandS.ForMost
import HandS.Flow
import HandS.Star
import HandS.IsInst
import HandS.Wide
import HandS.Conv
import HandS.Style
import HandS.DictComp
import HandS.ListItems
import HandS.OwnEq
import HandS.OwnIter
import HandS.IterVal
import KE.KDictKeyed
import HandS.SortInts
import HandS.TupAny
import HandS.More
import KE.KDictDisplayH
import KE.SortKeyHeap
import KE.SortData
import HandS.Steps
import HandS.Zip
import PySem.Challenge.RW_undersums_k16_whole_hits_rooks_and_rows
set_option Elab.async false
set_option linter.all false
set_option maxRecDepth 100000
set_option maxHeartbeats 2000000
/-! DL: a data layer over the hand layer: values as trees of data, what is owned by name, weakest wishes. -/
namespace DL
open PySem PySem.Spec PyProof.Rows L2

/-- what a value is worth -/
inductive D where
  | non | bl (b : Bool) | int (i : Int) | str (x : Str) | ty (n : String)
  /-- an object by its address alone (owned by someone) -/
  | ptr (a : Addr)
  | lst (xs : List D) | tup (xs : List D)
  /-- a list that is read only (the script) -/
  | rol (xs : List D)
  | dK (kvs : List (Key × D)) | dT (kvs : List (List Key × D))
  | ins (C : Addr) (fs : List (Str × D))

mutual
inductive Is (K : PySem.W.Frag) (F : Hp) : V → D → Prop
  | non : Is K F .non .non
  | bl (b : Bool) : Is K F (.bl b) (.bl b)
  | int (i : Int) : Is K F (.int i) (.int i)
  | str (x : Str) : Is K F (.str x) (.str x)
  | ty (n : String) : Is K F (.ty n) (.ty n)
  | ptr (a : Addr) : Is K F (.ref a) (.ptr a)
  | lst {a : Addr} {xs : List V} {ds : List D} : F a = some (.lst xs) → IsL K F xs ds → Is K F (.ref a) (.lst ds)
  | tup {a : Addr} {xs : List V} {ds : List D} : F a = some (.tup xs) → IsL K F xs ds → Is K F (.ref a) (.tup ds)
  | rol {a : Addr} {xs : List V} {ds : List D} : SqL K F a xs → IsL K F xs ds → Is K F (.ref a) (.rol ds)
  | dK {a : Addr} {xs : List (Key × V)} {ds : List (Key × D)} : Rd F a (.dK xs) → IsA K F Key xs ds → Is K F (.ref a) (.dK ds)
  | dT {a : Addr} {xs : List (List Key × V)} {ds : List (List Key × D)} : Rd F a (.dT xs) → IsA K F (List Key) xs ds → Is K F (.ref a) (.dT ds)
  | ins {a C dx : Addr} {xs : List (Str × V)} {ds : List (Str × D)} : F a = some (.ins C dx xs) → IsA K F Str xs ds → Is K F (.ref a) (.ins C ds)
inductive IsL (K : PySem.W.Frag) (F : Hp) : List V → List D → Prop
  | nil : IsL K F [] []
  | cons {v : V} {d : D} {vs : List V} {ds : List D} : Is K F v d → IsL K F vs ds → IsL K F (v :: vs) (d :: ds)
inductive IsA (K : PySem.W.Frag) (F : Hp) : (κ : Type) → List (κ × V) → List (κ × D) → Prop
  | nil {κ : Type} : IsA K F κ [] []
  | cons {κ : Type} {k : κ} {v : V} {d : D} {vs : List (κ × V)} {ds : List (κ × D)} : Is K F v d → IsA K F κ vs ds → IsA K F κ ((k, v) :: vs) ((k, d) :: ds)
end

/-- heaps grow; a dict may come to be locked -/
def Dct : HO → Prop
  | .dK _ => True
  | .dT _ => True
  | _ => False
def Lo (o : HO) (x : Option HO) : Prop := x = some o ∨ (Dct o ∧ ∃ ob, x = some (.frz ob o))
def Gr (F F' : Hp) : Prop := ∀ a o, F a = some o → Lo o (F' a)
theorem Lo.eq {o : HO} {x : Option HO} (h : Lo o x) (n : ¬ Dct o) : x = some o := h.elim id fun z => absurd z.1 n
theorem Lo.some {o : HO} {x : Option HO} (h : Lo o x) : x ≠ none := by
  rcases h with h | ⟨_, ob, h⟩ <;> (rw [h]; exact fun z => nomatch z)
theorem Gr.eq {F F' : Hp} {a : Addr} {o : HO} (e : Gr F F') (h : F a = some o) (n : ¬ Dct o) : F' a = some o := (e a o h).eq n
theorem Gr.refl (F : Hp) : Gr F F := fun _ _ h => .inl h
theorem Gr.trans {F F1 F2 : Hp} (a : Gr F F1) (b : Gr F1 F2) : Gr F F2 := fun x o h => by
  rcases a x o h with h1 | ⟨hd, ob, h1⟩
  · exact b x o h1
  · exact .inr ⟨hd, ob, b.eq h1 id⟩
theorem Gr.new {F : Hp} {p : Addr} {o : HO} (h : F p = none) : Gr F (upd F p o) := fun a u e => by
  rw [upd_ne (ne_of_none e h)]
  exact .inl e
theorem Gr.rd {F F' : Hp} {a : Addr} {u : HO} (e : Gr F F') (h : Rd F a u) : Rd F' a u := by
  rcases h with h | ⟨o, h⟩
  · rcases e a _ h with h1 | ⟨_, ob, h1⟩
    · exact .inl h1
    · exact .inr ⟨ob, h1⟩
  · exact .inr ⟨o, e.eq h id⟩
theorem Gr.sqt {K : PySem.W.Frag} {F F' : Hp} {a : Addr} {xs : List V} (e : Gr F F') (h : F a = some (.tup xs)) : SqT K F' a xs := .inl (.inl (e.eq h id))
theorem Gr.sql {K : PySem.W.Frag} {F F' : Hp} {a : Addr} {xs : List V} (e : Gr F F') (h : SqL K F a xs) : SqL K F' a xs := h.elim (fun z => .inl (e.rd z)) .inr

section
variable {K : PySem.W.Frag} {F F' : Hp}
mutual
theorem is_mono (e : Gr F F') : ∀ (d : D) (v : V), Is K F v d → Is K F' v d
  | .non, _, h => by cases h; exact .non
  | .bl b, _, h => by cases h; exact .bl b
  | .int i, _, h => by cases h; exact .int i
  | .str x, _, h => by cases h; exact .str x
  | .ty n, _, h => by cases h; exact .ty n
  | .ptr a, _, h => by cases h; exact .ptr a
  | .lst ds, _, h => by
    cases h with
    | lst h1 h2 => exact .lst (e.eq h1 id) (isl_mono e ds _ h2)
  | .tup ds, _, h => by
    cases h with
    | tup h1 h2 => exact .tup (e.eq h1 id) (isl_mono e ds _ h2)
  | .rol ds, _, h => by
    cases h with
    | rol h1 h2 => exact .rol (e.sql h1) (isl_mono e ds _ h2)
  | .dK ds, _, h => by
    cases h with
    | dK h1 h2 => exact .dK (e.rd h1) (isk_mono e ds _ h2)
  | .dT ds, _, h => by
    cases h with
    | dT h1 h2 => exact .dT (e.rd h1) (ist_mono e ds _ h2)
  | .ins C ds, _, h => by
    cases h with
    | ins h1 h2 => exact .ins (e.eq h1 id) (isf_mono e ds _ h2)
theorem isl_mono (e : Gr F F') : ∀ (ds : List D) (vs : List V), IsL K F vs ds → IsL K F' vs ds
  | [], _, h => by cases h; exact .nil
  | d :: ds, _, h => by
    cases h with
    | cons h1 h2 => exact .cons (is_mono e d _ h1) (isl_mono e ds _ h2)
theorem isk_mono (e : Gr F F') : ∀ (ds : List (Key × D)) (vs : List (Key × V)), IsA K F Key vs ds → IsA K F' Key vs ds
  | [], _, h => by cases h; exact .nil
  | (k, d) :: ds, _, h => by
    cases h with
    | cons h1 h2 => exact .cons (is_mono e d _ h1) (isk_mono e ds _ h2)
theorem ist_mono (e : Gr F F') : ∀ (ds : List (List Key × D)) (vs : List (List Key × V)), IsA K F (List Key) vs ds → IsA K F' (List Key) vs ds
  | [], _, h => by cases h; exact .nil
  | (k, d) :: ds, _, h => by
    cases h with
    | cons h1 h2 => exact .cons (is_mono e d _ h1) (ist_mono e ds _ h2)
theorem isf_mono (e : Gr F F') : ∀ (ds : List (Str × D)) (vs : List (Str × V)), IsA K F Str vs ds → IsA K F' Str vs ds
  | [], _, h => by cases h; exact .nil
  | (k, d) :: ds, _, h => by
    cases h with
    | cons h1 h2 => exact .cons (is_mono e d _ h1) (isf_mono e ds _ h2)
end
theorem Is.mono {v : V} {d : D} (h : Is K F v d) (e : Gr F F') : Is K F' v d := is_mono e d v h
theorem IsL.mono {v : List V} {d : List D} (h : IsL K F v d) (e : Gr F F') : IsL K F' v d := isl_mono e d v h
theorem IsA.mono {κ : Type} : ∀ {vs : List (κ × V)} {ds : List (κ × D)}, IsA K F κ vs ds → Gr F F' → IsA K F' κ vs ds
  | [], [], _, _ => .nil
  | (k, v) :: vs, (k', d) :: ds, h, e => by
    cases h with
    | cons h1 h2 => exact .cons (h1.mono e) (IsA.mono h2 e)
  | [], _ :: _, h, _ => by cases h
  | _ :: _, [], h, _ => by cases h
theorem IsL.length : ∀ {vs : List V} {ds : List D}, IsL K F vs ds → vs.length = ds.length
  | _, _, .nil => rfl
  | _, _, .cons _ t => by rw [List.length_cons, List.length_cons, IsL.length t]
theorem IsL.get : ∀ {vs : List V} {ds : List D} {i : Nat} {d : D}, IsL K F vs ds → ds[i]? = some d → ∃ v, vs[i]? = some v ∧ Is K F v d
  | _, _, _, _, .nil, e => by simp at e
  | _, _, 0, _, .cons r _, e => by
    have e' : _ = _ := Option.some.inj (by simpa using e)
    subst e'
    exact ⟨_, rfl, r⟩
  | _, _, i + 1, d, .cons _ t, e => by
    obtain ⟨u, h1, h2⟩ := IsL.get (i := i) (d := d) t (by simpa using e)
    exact ⟨u, by simpa using h1, h2⟩
theorem IsL.get' : ∀ {vs : List V} {ds : List D} {i : Nat} {v : V}, IsL K F vs ds → vs[i]? = some v → ∃ d, ds[i]? = some d ∧ Is K F v d
  | _, _, _, _, .nil, e => by simp at e
  | _, _, 0, _, .cons r _, e => by
    have e' : _ = _ := Option.some.inj (by simpa using e)
    subst e'
    exact ⟨_, rfl, r⟩
  | _, _, i + 1, d, .cons _ t, e => by
    obtain ⟨u, h1, h2⟩ := IsL.get' (i := i) t (by simpa using e)
    exact ⟨u, by simpa using h1, h2⟩
theorem IsL.append : ∀ {xs ys : List V} {ds es : List D}, IsL K F xs ds → IsL K F ys es → IsL K F (xs ++ ys) (ds ++ es)
  | _, _, _, _, .nil, s => s
  | _, _, _, _, .cons r t, s => .cons r (IsL.append t s)
theorem IsL.take : ∀ {xs : List V} {ds : List D} (n : Nat), IsL K F xs ds → IsL K F (xs.take n) (ds.take n)
  | _, _, 0, _ => .nil
  | _, _, _ + 1, .nil => .nil
  | _, _, n + 1, .cons r t => .cons r (IsL.take n t)
theorem IsL.drop : ∀ {xs : List V} {ds : List D} (n : Nat), IsL K F xs ds → IsL K F (xs.drop n) (ds.drop n)
  | _, _, 0, r => r
  | _, _, _ + 1, .nil => .nil
  | _, _, n + 1, .cons _ t => IsL.drop n t
theorem IsL.set {v : V} {d : D} (r : Is K F v d) : ∀ {xs : List V} {ds : List D} (i : Nat), IsL K F xs ds → IsL K F (xs.set i v) (ds.set i d)
  | _, _, _, .nil => .nil
  | _, _, 0, .cons _ t => .cons r t
  | _, _, i + 1, .cons q t => .cons q (IsL.set r i t)
theorem IsL.eraseIdx : ∀ {xs : List V} {ds : List D} (i : Nat), IsL K F xs ds → IsL K F (xs.eraseIdx i) (ds.eraseIdx i)
  | _, _, _, .nil => .nil
  | _, _, 0, .cons _ t => t
  | _, _, i + 1, .cons q t => .cons q (IsL.eraseIdx i t)
theorem IsL.dropLast : ∀ {xs : List V} {ds : List D}, IsL K F xs ds → IsL K F xs.dropLast ds.dropLast
  | _, _, .nil => .nil
  | _, _, .cons _ .nil => .nil
  | _, _, .cons q (.cons r t) => .cons q (IsL.dropLast (.cons r t))
theorem IsL.reverse : ∀ {xs : List V} {ds : List D}, IsL K F xs ds → IsL K F xs.reverse ds.reverse
  | _, _, .nil => .nil
  | _, _, .cons q t => by
    rw [List.reverse_cons, List.reverse_cons]
    exact (IsL.reverse t).append (.cons q .nil)
theorem isl_replicate {v : V} {d : D} (r : Is K F v d) : ∀ n : Nat, IsL K F (List.replicate n v) (List.replicate n d)
  | 0 => .nil
  | n + 1 => .cons r (isl_replicate r n)
theorem isl_ints : ∀ ns : List Int, IsL K F (ns.map V.int) (ns.map D.int)
  | [] => .nil
  | n :: ns => .cons (.int n) (isl_ints ns)
theorem isl_ints' : ∀ (ns : List Int) (vs : List V), IsL K F vs (ns.map D.int) → vs = ns.map V.int
  | [], _, h => by cases h; rfl
  | n :: ns, _, h => by
    cases h with
    | cons h1 h2 =>
      cases h1
      rw [isl_ints' ns _ h2]
      rfl
theorem isl_bls' : ∀ (ns : List Bool) (vs : List V), IsL K F vs (ns.map D.bl) → vs = ns.map V.bl
  | [], _, h => by cases h; rfl
  | n :: ns, _, h => by
    cases h with
    | cons h1 h2 =>
      cases h1
      rw [isl_bls' ns _ h2]
      rfl
theorem isl_strs' : ∀ (ns : List Str) (vs : List V), IsL K F vs (ns.map D.str) → vs = ns.map V.str
  | [], _, h => by cases h; rfl
  | n :: ns, _, h => by
    cases h with
    | cons h1 h2 =>
      cases h1
      rw [isl_strs' ns _ h2]
      rfl
end

/-! ### what is owned -/
inductive O where
  | lst (ds : List D) | dK (kvs : List (Key × D)) | dT (kvs : List (List Key × D))
  | ins (C dx : Addr) (fs : List (Str × D))
inductive Own (K : PySem.W.Frag) (F : Hp) : HO → O → Prop
  | lst {vs ds} : IsL K F vs ds → Own K F (.lst vs) (.lst ds)
  | dK {vs ds} : IsA K F Key vs ds → Own K F (.dK vs) (.dK ds)
  | dT {vs ds} : IsA K F (List Key) vs ds → Own K F (.dT vs) (.dT ds)
  | ins {C dx vs ds} : IsA K F Str vs ds → Own K F (.ins C dx vs) (.ins C dx ds)
/-- what it is worth when it is let go -/
def O.d : O → D
  | .lst ds => .lst ds | .dK kvs => .dK kvs | .dT kvs => .dT kvs | .ins C _ fs => .ins C fs
theorem Own.mono {K : PySem.W.Frag} {F F' : Hp} {h : HO} {o : O} (w : Own K F h o) (e : Gr F F') : Own K F' h o := by
  cases w with
  | lst r => exact .lst (r.mono e)
  | dK r => exact .dK (r.mono e)
  | dT r => exact .dT (r.mono e)
  | ins r => exact .ins (r.mono e)
theorem Own.is {K : PySem.W.Frag} {F : Hp} {h : HO} {o : O} {p : Addr} (w : Own K F h o) (e : F p = some h) : Is K F (.ref p) o.d := by
  cases w with
  | lst r => exact .lst e r
  | dK r => exact .dK (.inl e) r
  | dT r => exact .dT (.inl e) r
  | ins r => exact .ins e r

abbrev Ms := List (Addr × O)
abbrev Gm := List (Option D)
structure Rep (K : PySem.W.Frag) (F H : Hp) (M : Ms) : Prop where
  le : Gr F H
  nd : (M.map (·.1)).Nodup
  own : ∀ p ∈ M, F p.1 = none ∧ ∃ ho, H p.1 = some ho ∧ Own K F ho p.2
structure Ext (F H : Hp) (M : Ms) (F' H' : Hp) (M' : Ms) : Prop where
  f : Gr F F'
  h : ∀ a o, H a = some o → a ∉ M.map (·.1) → H' a = some o ∨ (F a ≠ none ∧ Lo o (H' a))
  n : ∀ a, F' a ≠ none → F a ≠ none ∨ H a = none ∨ a ∈ M.map (·.1) ∨ ∃ xs, H a = some (.tup xs)
  m : ∀ a ∈ M'.map (·.1), H a = none ∨ a ∈ M.map (·.1)
structure RepS (K : PySem.W.Frag) (F : Hp) (σ : L2.St) (Γ : Gm) : Prop where
  len : σ.length = Γ.length
  at' : ∀ (i : Nat) (d : D), Γ[i]? = some (some d) → ∃ v, σ[i]? = some (some v) ∧ Is K F v d

section
variable {K : PySem.W.Frag} {F H F1 H1 F2 H2 : Hp} {M M1 M2 : Ms} {σ : L2.St} {Γ : Gm}
theorem Ext.refl : Ext F H M F H M := ⟨Gr.refl F, fun _ _ h _ => .inl h, fun _ h => .inl h, fun _ h => .inr h⟩
theorem Ext.trans (x : Ext F H M F1 H1 M1) (y : Ext F1 H1 M1 F2 H2 M2) : Ext F H M F2 H2 M2 := by
  have back : ∀ a, H1 a = none → H a = none ∨ a ∈ M.map (·.1) := fun a e => by
    by_cases hm : a ∈ M.map (·.1)
    · exact .inr hm
    · cases q : H a with
      | none => exact .inl rfl
      | some o =>
        rcases x.h a o q hm with z | ⟨_, z⟩
        · rw [z] at e; cases e
        · exact absurd e z.some
  have nm : ∀ a o, H a = some o → a ∉ M.map (·.1) → a ∉ M1.map (·.1) := fun a o e hm z => by
    rcases x.m a z with w | w
    · rw [e] at w; cases w
    · exact hm w
  have key : ∀ a o, H a = some o → a ∉ M.map (·.1) → (H2 a = some o ∨ (F a ≠ none ∧ Lo o (H2 a))) ∨ ∃ xs, o = .tup xs := fun a o e hm => by
    have hm1 := nm a o e hm
    have nf : F1 a ≠ none → F a ≠ none ∨ ∃ xs, o = .tup xs := fun z => by
      rcases x.n a z with w | w | w | ⟨xs, w⟩
      · exact .inl w
      · rw [e] at w; cases w
      · exact absurd w hm
      · rw [e] at w; exact .inr ⟨xs, Option.some.inj w⟩
    rcases x.h a o e hm with z | ⟨z0, z | ⟨z1, ob, z⟩⟩
    · rcases y.h a o z hm1 with w | ⟨w0, w⟩
      · exact .inl (.inl w)
      · rcases nf w0 with w1 | w1
        · exact .inl (.inr ⟨w1, w⟩)
        · exact .inr w1
    · rcases y.h a o z hm1 with w | ⟨w0, w⟩
      · exact .inl (.inl w)
      · exact .inl (.inr ⟨z0, w⟩)
    · rcases y.h a _ z hm1 with w | ⟨w0, w⟩
      · exact .inl (.inr ⟨z0, .inr ⟨z1, ob, w⟩⟩)
      · exact .inl (.inr ⟨z0, .inr ⟨z1, ob, w.eq id⟩⟩)
  refine ⟨x.f.trans y.f, fun a o e hm => ?_, fun a e => ?_, fun a e => ?_⟩
  · rcases key a o e hm with z | ⟨xs, rfl⟩
    · exact z
    · have hm1 := nm a _ e hm
      rcases x.h a _ e hm with z | ⟨_, z⟩
      · exact .inl ((y.h a _ z hm1).elim id fun w => w.2.eq id)
      · exact .inl ((y.h a _ (z.eq id) hm1).elim id fun w => w.2.eq id)
  · rcases y.n a e with z | z | z | ⟨xs, z⟩
    · exact x.n a z
    · exact .inr ((back a z).elim .inl fun w => .inr (.inl w))
    · exact .inr ((x.m a z).elim .inl fun w => .inr (.inl w))
    · by_cases hm : a ∈ M.map (·.1)
      · exact .inr (.inr (.inl hm))
      · cases q : H a with
        | none => exact .inr (.inl rfl)
        | some o =>
          rcases x.h a o q hm with w | ⟨_, w⟩
          · rw [w] at z; exact .inr (.inr (.inr ⟨xs, z⟩))
          · rcases w with w | ⟨_, ob, w⟩
            · rw [w] at z; exact .inr (.inr (.inr ⟨xs, z⟩))
            · rw [w] at z; cases z
  · rcases y.m a e with z | z
    · exact back a z
    · exact x.m a z
theorem RepS.mono (s : RepS K F σ Γ) (e : Gr F F1) : RepS K F1 σ Γ := ⟨s.len, fun i d h => let ⟨v, h1, h2⟩ := s.at' i d h; ⟨v, h1, h2.mono e⟩⟩
theorem RepS.set {v : V} {d : D} (s : RepS K F σ Γ) (i : Nat) (h : Is K F v d) : RepS K F (σ.set i (some v)) (Γ.set i (some d)) := by
  refine ⟨by rw [List.length_set, List.length_set]; exact s.len, fun j e hj => ?_⟩
  by_cases hij : i = j
  · subst hij
    by_cases hi : i < Γ.length
    · rw [List.getElem?_set_self hi] at hj
      have e' : d = e := Option.some.inj (Option.some.inj hj)
      subst e'
      exact ⟨v, by rw [List.getElem?_set_self (by rw [s.len]; exact hi)], h⟩
    · rw [List.getElem?_eq_none (by rw [List.length_set]; omega)] at hj
      cases hj
  · rw [List.getElem?_set_ne hij] at hj
    rw [List.getElem?_set_ne hij]
    exact s.at' j e hj
theorem RepS.unset (s : RepS K F σ Γ) (i : Nat) : RepS K F σ (Γ.set i none) := by
  refine ⟨by rw [List.length_set]; exact s.len, fun j e hj => ?_⟩
  by_cases hij : i = j
  · subst hij
    by_cases hi : i < Γ.length
    · rw [List.getElem?_set_self hi] at hj
      cases hj
    · rw [List.getElem?_eq_none (by rw [List.length_set]; omega)] at hj
      cases hj
  · rw [List.getElem?_set_ne hij] at hj
    exact s.at' j e hj
def wipeG (Γ : Gm) : List Nat → Gm
  | [] => Γ
  | v :: vs => (wipeG Γ vs).set v none
theorem RepS.wipe (s : RepS K F σ Γ) : ∀ vs : List Nat, RepS K F (wipe σ vs) (wipeG Γ vs)
  | [] => s
  | v :: vs => by
    have ih := RepS.wipe s vs
    unfold L2.wipe wipeG
    refine ⟨by rw [List.length_set, List.length_set]; exact ih.len, fun j e hj => ?_⟩
    by_cases hij : v = j
    · subst hij
      by_cases hi : v < (wipeG Γ vs).length
      · rw [List.getElem?_set_self hi] at hj
        cases hj
      · rw [List.getElem?_eq_none (by rw [List.length_set]; omega)] at hj
        cases hj
    · rw [List.getElem?_set_ne hij] at hj
      rw [List.getElem?_set_ne hij]
      exact ih.at' j e hj
/-- more becomes known of what no owned thing is -/
theorem Rep.put {p : Addr} {o : HO} (r : Rep K F H M) (e : H p = some o) (n : p ∉ M.map (·.1)) (hf : F p = none) : Rep K (upd F p o) H M := by
  have g : Gr F (upd F p o) := Gr.new hf
  refine ⟨fun a u h => ?_, r.nd, fun q hq => ?_⟩
  · by_cases ha : a = p
    · subst ha
      rw [upd_same] at h
      rw [← Option.some.inj h]
      exact .inl e
    · rw [upd_ne ha] at h
      exact r.le a u h
  · obtain ⟨h1, ho, h2, h3⟩ := r.own q hq
    have hne : q.1 ≠ p := fun z => n (z ▸ List.mem_map_of_mem hq)
    exact ⟨by rw [upd_ne hne]; exact h1, ho, h2, h3.mono g⟩
end
end DL


set_option Elab.async false
set_option linter.all false
set_option maxRecDepth 100000
set_option maxHeartbeats 2000000
namespace DL
open PySem PySem.Spec PyProof.Rows L2 StX

section
variable {K : PySem.W.Frag} {F H F1 H1 F2 H2 F' H' : Hp} {M M1 M2 M' A B : Ms} {σ : L2.St} {Γ : Gm} {p : Addr} {o : O} {ho : HO} {v : V} {d : D}

/-! ### owned things -/
theorem mem_fst {p : Addr} {o : O} {M : Ms} (h : (p, o) ∈ M) : p ∈ M.map (·.1) := List.mem_map_of_mem h
theorem nd_mem : ∀ {M : Ms} {p : Addr} {o o' : O}, (M.map (·.1)).Nodup → (p, o) ∈ M → (p, o') ∈ M → o = o'
  | [], _, _, _, _, h, _ => by simp at h
  | (q, u) :: M, p, o, o', nd, h, h' => by
    rw [List.map_cons, List.nodup_cons] at nd
    rcases List.mem_cons.mp h with e | e
    · rcases List.mem_cons.mp h' with e' | e'
      · rw [Prod.mk.injEq] at e e'
        exact e.2.trans e'.2.symm
      · rw [Prod.mk.injEq] at e
        exact absurd (mem_fst e') (e.1 ▸ nd.1)
    · rcases List.mem_cons.mp h' with e' | e'
      · rw [Prod.mk.injEq] at e'
        exact absurd (mem_fst e) (e'.1 ▸ nd.1)
      · exact nd_mem nd.2 e e'
theorem Rep.sub (r : Rep K F H M) (s : List.Sublist M' M) : Rep K F H M' := ⟨r.le, r.nd.sublist (s.map _), fun q hq => r.own q (s.subset hq)⟩
theorem Rep.fresh (r : Rep K F H M) {p : Addr} (e : H p = none) : F p = none ∧ p ∉ M.map (·.1) := by
  refine ⟨?_, fun z => ?_⟩
  · cases q : F p with
    | none => rfl
    | some u => exact absurd e (r.le p u q).some
  · obtain ⟨q, hq, rfl⟩ := List.mem_map.mp z
    obtain ⟨_, ho, h, _⟩ := r.own q hq
    rw [h] at e; cases e
theorem Rep.notF (r : Rep K F H M) {p : Addr} (h : p ∈ M.map (·.1)) : F p = none := by
  obtain ⟨q, hq, rfl⟩ := List.mem_map.mp h
  exact (r.own q hq).1
theorem Rep.isSome (r : Rep K F H M) {p : Addr} (h : p ∈ M.map (·.1)) : H p ≠ none := by
  obtain ⟨q, hq, rfl⟩ := List.mem_map.mp h
  obtain ⟨_, ho, h, _⟩ := r.own q hq
  rw [h]
  exact fun z => nomatch z
/-- a new object -/
theorem Rep.new (r : Rep K F H M) (e : H p = none) (w : Own K F ho o) : Rep K F (upd H p ho) ((p, o) :: M) ∧ Ext F H M F (upd H p ho) ((p, o) :: M) := by
  obtain ⟨f, n⟩ := r.fresh e
  have ne : ∀ a u, H a = some u → a ≠ p := fun a u h z => by rw [z, e] at h; cases h
  have nl : ∀ a u, Lo u (H a) → a ≠ p := fun a u h z => h.some (by rw [z]; exact e)
  refine ⟨⟨fun a u h => ?_, ?_, fun q hq => ?_⟩, ⟨Gr.refl F, fun a u h _ => ?_, fun a h => .inl h, fun a h => ?_⟩⟩
  · rw [upd_ne (nl a u (r.le a u h))]
    exact r.le a u h
  · rw [List.map_cons, List.nodup_cons]
    exact ⟨n, r.nd⟩
  · rcases List.mem_cons.mp hq with h | h
    · subst h
      exact ⟨f, ho, upd_same, w⟩
    · obtain ⟨h1, u, h2, h3⟩ := r.own q h
      exact ⟨h1, u, by rw [upd_ne (ne _ _ h2)]; exact h2, h3⟩
  · rw [upd_ne (ne a u h)]
    exact .inl h
  · rw [List.map_cons, List.mem_cons] at h
    rcases h with h | h
    · subst h
      exact .inl e
    · exact .inr h
/-- an owned thing is written -/
theorem Rep.write {j : Nat} {o' : O} {ho' : HO} (r : Rep K F H M) (e : M[j]? = some (p, o)) (w : Own K F ho' o') : Rep K F (upd H p ho') (M.set j (p, o')) ∧ Ext F H M F (upd H p ho') (M.set j (p, o')) := by
  have hm : (p, o) ∈ M := List.mem_of_getElem? e
  have hj : j < M.length := (List.getElem?_eq_some_iff.mp e).1
  have hj' : M[j] = (p, o) := (List.getElem?_eq_some_iff.mp e).2
  have same : (M.set j (p, o')).map (·.1) = M.map (·.1) := by
    rw [List.map_set]
    refine List.ext_getElem? fun i => ?_
    by_cases hi : j = i
    · subst hi
      rw [List.getElem?_set_self (by simpa using hj), List.getElem?_map, e]
      rfl
    · rw [List.getElem?_set_ne hi]
  have fp : F p = none := r.notF (mem_fst hm)
  refine ⟨⟨fun a u h => ?_, by rw [same]; exact r.nd, fun q hq => ?_⟩, ⟨Gr.refl F, fun a u h hn => ?_, fun a h => .inl h, fun a h => .inr (by rw [same] at h; exact h)⟩⟩
  · rw [upd_ne (fun z => by rw [z, fp] at h; cases h)]
    exact r.le a u h
  · obtain ⟨i, hi⟩ := List.getElem?_of_mem hq
    by_cases hij : j = i
    · subst hij
      rw [List.getElem?_set_self hj] at hi
      cases hi
      exact ⟨fp, ho', upd_same, w⟩
    · rw [List.getElem?_set_ne hij] at hi
      have hqm : q ∈ M := List.mem_of_getElem? hi
      obtain ⟨h1, u, h2, h3⟩ := r.own q hqm
      have hne : q.1 ≠ p := fun z => by
        have h4 : (M.map (·.1))[i]? = some p := by rw [List.getElem?_map, hi, ← z]; rfl
        have h5 : (M.map (·.1))[j]? = some p := by rw [List.getElem?_map, e]; rfl
        exact hij (nd_ix r.nd h5 h4)
      exact ⟨h1, u, by rw [upd_ne hne]; exact h2, h3⟩
  · rw [upd_ne (fun z => hn (by rw [z]; exact mem_fst hm))]
    exact .inl h
/-- an owned thing is let go -/
theorem Rep.letgo {j : Nat} (r : Rep K F H M) (e : M[j]? = some (p, o)) : ∃ F', Rep K F' H (M.eraseIdx j) ∧ Ext F H M F' H (M.eraseIdx j) ∧ Is K F' (.ref p) o.d := by
  have hm : (p, o) ∈ M := List.mem_of_getElem? e
  obtain ⟨f, ho, h1, h2⟩ := r.own _ hm
  have g : Gr F (upd F p ho) := Gr.new f
  have sl := List.eraseIdx_sublist M j
  have hn : p ∉ (M.eraseIdx j).map (·.1) := fun z => by
    obtain ⟨q, hq, hqp⟩ := List.mem_map.mp z
    obtain ⟨i, hi, hij⟩ := List.mem_eraseIdx_iff_getElem?.mp hq
    have h4 : (M.map (·.1))[i]? = some p := by rw [List.getElem?_map, hij, ← hqp]; rfl
    have h5 : (M.map (·.1))[j]? = some p := by rw [List.getElem?_map, e]; rfl
    exact hi (nd_ix r.nd h4 h5)
  refine ⟨upd F p ho, (r.sub sl).put h1 hn f, ⟨g, fun a u h _ => .inl h, fun a h => ?_, fun a h => .inr ((sl.map _).subset h)⟩, (h2.mono g).is upd_same⟩
  by_cases ha : a = p
  · subst ha
    exact .inr (.inr (.inl (mem_fst hm)))
  · rw [upd_ne ha] at h
    exact .inl h
/-- what stands beside is kept -/
theorem Rep.frame (r : Rep K F H (A ++ M)) (x : Ext F H M F' H' M') (r' : Rep K F' H' M') : Rep K F' H' (A ++ M') ∧ Ext F H (A ++ M) F' H' (A ++ M') := by
  have nd := r.nd
  rw [List.map_append, List.nodup_append] at nd
  have disj : ∀ a, a ∈ A.map (·.1) → a ∉ M.map (·.1) := fun a ha hb => nd.2.2 a ha a hb rfl
  have mA : ∀ q ∈ A, q ∈ A ++ M := fun q h => List.mem_append_left _ h
  have sA : ∀ a, a ∈ A.map (·.1) → H a ≠ none := fun a ha => r.isSome (by rw [List.map_append]; exact List.mem_append_left _ ha)
  refine ⟨⟨r'.le, ?_, fun q hq => ?_⟩, ⟨x.f, fun a u h hn => x.h a u h fun z => hn (by rw [List.map_append]; exact List.mem_append_right _ z), fun a h => ?_, fun a h => ?_⟩⟩
  · rw [List.map_append, List.nodup_append]
    refine ⟨nd.1, r'.nd, fun a ha b hb e => ?_⟩
    subst e
    rcases x.m a hb with z | z
    · exact sA a ha z
    · exact disj a ha z
  · rcases List.mem_append.mp hq with h | h
    · have ha : q.1 ∈ A.map (·.1) := List.mem_map_of_mem h
      obtain ⟨h1, u, h2, h3⟩ := r.own q (mA q h)
      refine ⟨?_, u, (x.h _ _ h2 (disj _ ha)).elim id fun z => absurd h1 z.1, h3.mono x.f⟩
      cases e : F' q.1 with
      | none => rfl
      | some w =>
        rcases x.n q.1 (by rw [e]; exact fun z => nomatch z) with z | z | z | ⟨xs, z⟩
        · exact absurd h1 z
        · rw [h2] at z; cases z
        · exact absurd z (disj _ ha)
        · rw [h2] at z
          cases z
          cases h3
    · exact r'.own q h
  · rcases x.n a h with z | z | z | z
    · exact .inl z
    · exact .inr (.inl z)
    · exact .inr (.inr (.inl (by rw [List.map_append]; exact List.mem_append_right _ z)))
    · exact .inr (.inr (.inr z))
  · rw [List.map_append, List.mem_append] at h
    rcases h with h | h
    · exact .inr (by rw [List.map_append]; exact List.mem_append_left _ h)
    · rcases x.m a h with z | z
      · exact .inl z
      · exact .inr (by rw [List.map_append]; exact List.mem_append_right _ z)
theorem Rep.frame1 {q : Addr × O} (r : Rep K F H (q :: M)) (x : Ext F H M F' H' M') (r' : Rep K F' H' M') : Rep K F' H' (q :: M') ∧ Ext F H (q :: M) F' H' (q :: M') := Rep.frame (A := [q]) r x r'
end

/-! ### wishes -/
/-- a new object, by what is wanted of it -/
abbrev NP (Φ : O → Ms → Prop) : D → Ms → Prop := fun d M' => ∃ p o M'', d = .ptr p ∧ M' = (p, o) :: M'' ∧ Φ o M''
section
variable (K : PySem.W.Frag)
def Post (F H : Hp) (M : Ms) (Φ : D → Ms → Prop) (Q : VK) : Prop :=
  ∀ v F' H' d M', Ext F H M F' H' M' → Rep K F' H' M' → Is K F' v d → Φ d M' → Q v H'
def EV (t : TE) (Γ : Gm) (M : Ms) (Φ : D → Ms → Prop) : Prop :=
  ∀ (σ : L2.St) (F H : Hp), RepS K F σ Γ → Rep K F H M → ∀ Q : VK, Post K F H M Φ Q → t σ H Q
/-- a new object comes -/
abbrev EN (t : TE) (Γ : Gm) (M : Ms) (Φ : O → Ms → Prop) : Prop := EV K t Γ M (NP Φ)
def ET (t : TT) (Γ : Gm) (M : Ms) (Φ : Bool → Ms → Prop) : Prop :=
  ∀ (σ : L2.St) (F H : Hp), RepS K F σ Γ → Rep K F H M → ∀ Q : Bool → Hp → Prop, (∀ b F' H' M', Ext F H M F' H' M' → Rep K F' H' M' → Φ b M' → Q b H') → t σ H Q
def EA (t : TA) (Γ : Gm) (M : Ms) (Φ : List D → Ms → Prop) : Prop :=
  ∀ (σ : L2.St) (F H : Hp), RepS K F σ Γ → Rep K F H M → ∀ Q : List V → Hp → Prop, (∀ vs F' H' ds M', Ext F H M F' H' M' → Rep K F' H' M' → IsL K F' vs ds → Φ ds M' → Q vs H') → t σ H Q
def EO (t : TO) (Γ : Gm) (M : Ms) (Φ : Option Int → Ms → Prop) : Prop :=
  ∀ (σ : L2.St) (F H : Hp), RepS K F σ Γ → Rep K F H M → ∀ Q : Option Int → Hp → Prop, (∀ b F' H' M', Ext F H M F' H' M' → Rep K F' H' M' → Φ b M' → Q b H') → t σ H Q
/-- by values -/
def R2' (r : R2) (x y : D) (M : Ms) (Φ : D → Ms → Prop) : Prop :=
  ∀ (F H : Hp), Rep K F H M → ∀ u v, Is K F u x → Is K F v y → ∀ Q : VK, Post K F H M Φ Q → r u v H Q
def R1' (r : V → Hp → VK → Prop) (x : D) (M : Ms) (Φ : D → Ms → Prop) : Prop :=
  ∀ (F H : Hp), Rep K F H M → ∀ u, Is K F u x → ∀ Q : VK, Post K F H M Φ Q → r u H Q
def RC' (r : List V → Hp → VK → Prop) (xs : List D) (M : Ms) (Φ : D → Ms → Prop) : Prop :=
  ∀ (F H : Hp), Rep K F H M → ∀ us, IsL K F us xs → ∀ Q : VK, Post K F H M Φ Q → r us H Q
def RM' (r : V → List V → Hp → VK → Prop) (x : D) (xs : List D) (M : Ms) (Φ : D → Ms → Prop) : Prop :=
  ∀ (F H : Hp), Rep K F H M → ∀ u us, Is K F u x → IsL K F us xs → ∀ Q : VK, Post K F H M Φ Q → r u us H Q
def RS' (r : V → Option Int → Option Int → Hp → VK → Prop) (x : D) (lo hi : Option Int) (M : Ms) (Φ : D → Ms → Prop) : Prop :=
  ∀ (F H : Hp), Rep K F H M → ∀ u, Is K F u x → ∀ Q : VK, Post K F H M Φ Q → r u lo hi H Q
end
/-- what is wanted behind a statement -/
structure DE where
  nx : Gm → Ms → Prop
  rt : D → Ms → Prop
  bk : Gm → Ms → Prop := fun _ _ => False
  ct : Gm → Ms → Prop := fun _ _ => False
def ES (K : PySem.W.Frag) (t : TS) (Γ : Gm) (M : Ms) (E : DE) : Prop :=
  ∀ (σ : L2.St) (F H : Hp), RepS K F σ Γ → Rep K F H M → ∀ De : Ends,
    (∀ σ' F' H' Γ' M', Ext F H M F' H' M' → RepS K F' σ' Γ' → Rep K F' H' M' → E.nx Γ' M' → De.nx σ' H') → Post K F H M E.rt De.rt →
    (∀ σ' F' H' Γ' M', Ext F H M F' H' M' → RepS K F' σ' Γ' → Rep K F' H' M' → E.bk Γ' M' → De.bk σ' H') →
    (∀ σ' F' H' Γ' M', Ext F H M F' H' M' → RepS K F' σ' Γ' → Rep K F' H' M' → E.ct Γ' M' → De.ct σ' H') → t De σ H

section
variable {K : PySem.W.Frag} {F H F1 H1 F2 H2 F' H' : Hp} {M M1 M2 M' A B : Ms} {σ : L2.St} {Γ : Gm} {Φ Ψ : D → Ms → Prop} {Q : VK} {ta tb tc te : TE} {t u : TT} {r : R2} {d x y : D} {v : V}
theorem Post.here (q : Post K F H M Φ Q) (r : Rep K F H M) (i : Is K F v d) (h : Φ d M) : Q v H := q v F H d M .refl r i h
theorem Post.trans (q : Post K F H M Φ Q) (x : Ext F H M F1 H1 M1) : Post K F1 H1 M1 Φ Q := fun v F' H' d M' y r i h => q v F' H' d M' (x.trans y) r i h
theorem EV.mono (h : EV K ta Γ M Φ) (i : ∀ d M', Φ d M' → Ψ d M') : EV K ta Γ M Ψ := fun σ F H S R Q q => h σ F H S R Q fun v F' H' d M' x r s w => q v F' H' d M' x r s (i d M' w)

theorem ev_var {i : Nat} (h : Γ[i]? = some (some d)) (q : Φ d M) : EV K (tVar i) Γ M Φ := fun σ F H S R Q k => by
  obtain ⟨v, h1, h2⟩ := S.at' i d h
  exact ⟨v, h1, k.here R h2 q⟩
/-- scalars -/
def sc : V → D
  | .non => .non | .bl b => .bl b | .int i => .int i | .str x => .str x | .ty n => .ty n | .ref a => .ptr a | _ => .non
def isSc : V → Bool
  | .byt _ => false | .flt _ => false | _ => true
theorem is_sc {v : V} (h : isSc v = true) : Is K F v (sc v) := by
  cases v <;> first | exact .non | exact .bl _ | exact .int _ | exact .str _ | exact .ty _ | exact .ptr _ | cases h
theorem ev_c {v : V} (h : isSc v = true := by rfl) (q : Φ (sc v) M) : EV K (tC v) Γ M Φ := fun σ F H S R Q k => k.here R (is_sc h) q
theorem ev_int {i : Int} (q : Φ (.int i) M) : EV K (tC (.int i)) Γ M Φ := ev_c rfl q
theorem ev_bl {i : Bool} (q : Φ (.bl i) M) : EV K (tC (.bl i)) Γ M Φ := ev_c rfl q
theorem ev_str {i : Str} (q : Φ (.str i) M) : EV K (tC (.str i)) Γ M Φ := ev_c rfl q
theorem ev_non (q : Φ .non M) : EV K (tC .non) Γ M Φ := ev_c rfl q
theorem ev_ty {n : String} (q : Φ (.ty n) M) : EV K (tC (.ty n)) Γ M Φ := ev_c rfl q
theorem ev_op (h : EV K ta Γ M fun x M1 => EV K tb Γ M1 fun y M2 => R2' K r x y M2 Φ) : EV K (tOp r ta tb) Γ M Φ := fun σ F H S R Q q =>
  h σ F H S R _ fun v F1 H1 d M1 x1 r1 i1 h1 => h1 σ F1 H1 (S.mono x1.f) r1 _ fun w F2 H2 e M2 x2 r2 i2 h2 => h2 F2 H2 r2 v w (i1.mono x2.f) i2 Q (q.trans (x1.trans x2))
theorem ev_un {r : V → Hp → VK → Prop} (h : EV K ta Γ M fun x M1 => R1' K r x M1 Φ) : EV K (tUn r ta) Γ M Φ := fun σ F H S R Q q =>
  h σ F H S R _ fun v F1 H1 d M1 x1 r1 i1 h1 => h1 F1 H1 r1 v i1 Q (q.trans x1)
theorem ea_nil {Φ : List D → Ms → Prop} (q : Φ [] M) : EA K tNil Γ M Φ := fun σ F H S R Q k => k [] F H [] M .refl R .nil q
theorem ea_cons {tr : TA} {Φ : List D → Ms → Prop} (h : EV K ta Γ M fun x M1 => EA K tr Γ M1 fun xs M2 => Φ (x :: xs) M2) : EA K (tCons ta tr) Γ M Φ := fun σ F H S R Q q =>
  h σ F H S R _ fun v F1 H1 d M1 x1 r1 i1 h1 => h1 σ F1 H1 (S.mono x1.f) r1 _ fun vs F2 H2 ds M2 x2 r2 i2 h2 => q (v :: vs) F2 H2 (d :: ds) M2 (x1.trans x2) r2 (.cons (i1.mono x2.f) i2) h2

/-! ### what reads as a list, a tuple -/
inductive LR (M : Ms) : D → List D → Prop
  | lst (ds : List D) : LR M (.lst ds) ds
  | own {p : Addr} {ds : List D} : (p, O.lst ds) ∈ M → LR M (.ptr p) ds
theorem LR.at {ds : List D} (l : LR M x ds) (r : Rep K F H M) (i : Is K F v x) : ∃ a vs, v = .ref a ∧ H a = some (.lst vs) ∧ IsL K F vs ds := by
  cases l with
  | lst =>
    cases i with
    | lst h1 h2 => exact ⟨_, _, rfl, r.le.eq h1 id, h2⟩
  | own hm =>
    cases i
    obtain ⟨_, ho, h1, h2⟩ := r.own _ hm
    cases h2 with
    | lst h2 => exact ⟨_, _, rfl, h1, h2⟩
inductive LQ (M : Ms) : D → List D → Prop
  | of {x : D} {ds : List D} : LR M x ds → LQ M x ds
  | rol (ds : List D) : LQ M (.rol ds) ds
theorem LQ.at {ds : List D} (l : LQ M x ds) (r : Rep K F H M) (i : Is K F v x) : ∃ a vs, v = .ref a ∧ SqL K H a vs ∧ IsL K F vs ds := by
  cases l with
  | of l =>
    obtain ⟨a, vs, h1, h2, h3⟩ := l.at r i
    exact ⟨a, vs, h1, .inl (.inl h2), h3⟩
  | rol =>
    cases i with
    | rol h1 h2 => exact ⟨_, _, rfl, r.le |>.sql h1, h2⟩
/-- a list or a tuple that is read -/
inductive SQ (M : Ms) : D → List D → Prop
  | l {x : D} {ds : List D} : LQ M x ds → SQ M x ds
  | t (ds : List D) : SQ M (.tup ds) ds
theorem SQ.at {ds : List D} (l : SQ M x ds) (r : Rep K F H M) (i : Is K F v x) : ∃ a vs, v = .ref a ∧ (SqL K H a vs ∨ SqT K H a vs) ∧ IsL K F vs ds := by
  cases l with
  | l l =>
    obtain ⟨a, vs, h1, h2, h3⟩ := l.at r i
    exact ⟨a, vs, h1, .inl h2, h3⟩
  | t =>
    cases i with
    | tup h1 h2 => exact ⟨_, _, rfl, .inr (r.le |>.sqt h1), h2⟩
theorem SQ.lst (ds : List D) : SQ M (.lst ds) ds := .l (.of (.lst ds))
theorem SQ.own {p : Addr} {ds : List D} (h : (p, O.lst ds) ∈ M) : SQ M (.ptr p) ds := .l (.of (.own h))
theorem LQ.lst (ds : List D) : LQ M (.lst ds) ds := .of (.lst ds)
theorem LQ.own {p : Addr} {ds : List D} (h : (p, O.lst ds) ∈ M) : LQ M (.ptr p) ds := .of (.own h)
theorem ea_star {tr : TA} {Φ : List D → Ms → Prop} (h : EV K ta Γ M fun x M1 => ∃ ds, SQ M1 x ds ∧ EA K tr Γ M1 fun xs M2 => Φ (ds ++ xs) M2) : EA K (tStar K ta tr) Γ M Φ := fun σ F H S R Q q =>
  h σ F H S R _ fun v F1 H1 d M1 x1 r1 i1 ⟨ds, l, h1⟩ => by
    obtain ⟨a, ws, e1, e2, e3⟩ := l.at r1 i1
    exact ⟨a, ws, e1, e2.symm, h1 σ F1 H1 (S.mono x1.f) r1 _ fun vs F2 H2 es M2 x2 r2 i2 h2 => q _ F2 H2 _ M2 (x1.trans x2) r2 ((e3.mono x2.f).append i2) h2⟩

/-! ### new objects -/
theorem Post.frz (q : Post K F H M Φ Q) : Post K F H M (NP fun o M' => Φ o.d M') Q := fun v F' H' d M' x r i ⟨p, o, M2, e1, e2, e3⟩ => by
  subst e1 e2
  cases i
  obtain ⟨F3, r3, x3, i3⟩ := r.letgo (j := 0) rfl
  exact q _ F3 H' _ M2 (x.trans x3) r3 i3 e3
theorem Post.own (q : Post K F H M Φ Q) : Post K F H M (NP fun o M' => ∀ p, Φ (.ptr p) ((p, o) :: M')) Q := fun v F' H' d M' x r i ⟨p, o, M2, e1, e2, e3⟩ => by
  subst e1 e2
  exact q v F' H' _ _ x r i (e3 p)
theorem ev_frz (h : EN K te Γ M fun o M' => Φ o.d M') : EV K te Γ M Φ := fun σ F H S R Q q => h σ F H S R Q q.frz
theorem ev_own (h : EN K te Γ M fun o M' => ∀ p, Φ (.ptr p) ((p, o) :: M')) : EV K te Γ M Φ := fun σ F H S R Q q => h σ F H S R Q q.own
/-- the wish for a new object, met -/
theorem Post.made {Φ : O → Ms → Prop} {p : Addr} {ho : HO} {o : O} (q : Post K F H M (NP Φ) Q) (r : Rep K F H M) (e : H p = none) (w : Own K F ho o) (h : Φ o M) : Q (.ref p) (upd H p ho) := by
  obtain ⟨r2, x2⟩ := r.new e w
  exact q _ F _ (.ptr p) _ x2 r2 (.ptr p) ⟨p, o, M, rfl, rfl, h⟩
theorem sz_of {n : Nat} (h : n ≤ 100000) : n ≤ sizeLine := Nat.le_trans h (by decide)
theorem sz_lt {n : Nat} (h : n < 100000) : n < sizeLine := Nat.lt_of_lt_of_le h (by decide)
theorem en_lst {ta : TA} {Φ : O → Ms → Prop} (h : EA K ta Γ M fun ds M1 => ds.length ≤ 100000 ∧ Φ (.lst ds) M1) : EN K (tLst ta) Γ M Φ := fun σ F H S R Q q =>
  h σ F H S R _ fun vs F1 H1 ds M1 x1 r1 i1 ⟨h1, h2⟩ => ⟨by rw [i1.length]; exact sz_of h1, fun p hp => (q.trans x1).made r1 hp (.lst i1) h2⟩
theorem Rep.tup {vs : List V} {ds : List D} (r : Rep K F H M) (e : H p = none) (i : IsL K F vs ds) : ∃ F2, Rep K F2 (upd H p (.tup vs)) M ∧ Ext F H M F2 (upd H p (.tup vs)) M ∧ Is K F2 (.ref p) (.tup ds) := by
  obtain ⟨f, n⟩ := r.fresh e
  have g : Gr F (upd F p (.tup vs)) := Gr.new f
  refine ⟨upd F p (.tup vs), ⟨fun a u h => ?_, r.nd, fun q hq => ?_⟩, ⟨g, fun a u h _ => ?_, fun a h => ?_, fun a h => .inr h⟩, .tup upd_same (i.mono g)⟩
  · by_cases ha : a = p
    · subst ha
      rw [upd_same] at h
      rw [upd_same]
      exact .inl h
    · rw [upd_ne ha] at h
      rw [upd_ne ha]
      exact r.le a u h
  · obtain ⟨h1, ho, h2, h3⟩ := r.own q hq
    have hne : q.1 ≠ p := fun z => n (z ▸ List.mem_map_of_mem hq)
    exact ⟨by rw [upd_ne hne]; exact h1, ho, by rw [upd_ne hne]; exact h2, h3.mono g⟩
  · rw [upd_ne (fun z => by rw [z, e] at h; cases h)]
    exact .inl h
  · by_cases ha : a = p
    · subst ha
      exact .inr (.inl e)
    · rw [upd_ne ha] at h
      exact .inl h
theorem ev_tup {ta : TA} (h : EA K ta Γ M fun ds M1 => ds.length ≤ 100000 ∧ Φ (.tup ds) M1) : EV K (tTup ta) Γ M Φ := fun σ F H S R Q q =>
  h σ F H S R _ fun vs F1 H1 ds M1 x1 r1 i1 ⟨h1, h2⟩ => ⟨by rw [i1.length]; exact sz_of h1, fun p hp => by
    obtain ⟨F2, r2, x2, i2⟩ := r1.tup hp i1
    exact q _ F2 _ _ M1 (x1.trans x2) r2 i2 h2⟩

/-! ### calls of built-ins, methods, defs -/
theorem ev_cb {r : List V → Hp → VK → Prop} {ta : TA} (h : EA K ta Γ M fun xs M1 => RC' K r xs M1 Φ) : EV K (tCB r ta) Γ M Φ := fun σ F H S R Q q =>
  h σ F H S R _ fun vs F1 H1 ds M1 x1 r1 i1 h1 => h1 F1 H1 r1 vs i1 Q (q.trans x1)
/-- the type that a method asks of its object -/
def DTy (K : PySem.W.Frag) (T : String) (x : D) (M : Ms) : Prop := ∀ F H, Rep K F H M → ∀ v, Is K F v x → tyV K T v H
theorem ev_bm {T : String} {r : V → List V → Hp → VK → Prop} {ta : TE} {tr : TA} (h : EV K ta Γ M fun x M1 => DTy K T x M1 ∧ EA K tr Γ M1 fun xs M2 => RM' K r x xs M2 Φ) : EV K (tBM K T r ta tr) Γ M Φ := fun σ F H S R Q q =>
  h σ F H S R _ fun v F1 H1 d M1 x1 r1 i1 ⟨h0, h1⟩ => ⟨h0 F1 H1 r1 v i1, h1 σ F1 H1 (S.mono x1.f) r1 _ fun vs F2 H2 ds M2 x2 r2 i2 h2 => h2 F2 H2 r2 v vs (i1.mono x2.f) i2 Q (q.trans (x1.trans x2))⟩
theorem ev_bm0 {T : String} {r : V → List V → Hp → VK → Prop} {ta : TE} (h : EV K ta Γ M fun x M1 => DTy K T x M1 ∧ RM' K r x [] M1 Φ) : EV K (tBM0 K T r ta) Γ M Φ := fun σ F H S R Q q =>
  h σ F H S R _ fun v F1 H1 d M1 x1 r1 i1 ⟨h0, h1⟩ => ⟨h0 F1 H1 r1 v i1, h1 F1 H1 r1 v [] i1 .nil Q (q.trans x1)⟩
/-- a def's promise upon data: the arguments, what it owns meanwhile, the wish -/
abbrev SpD := List D → Ms → (D → Ms → Prop) → Prop
def spOf (K : PySem.W.Frag) (S : SpD) : Sp := fun vs H Q _ => ∃ F M ds Φ, Rep K F H M ∧ IsL K F vs ds ∧ S ds M Φ ∧ Post K F H M Φ Q
theorem ev_call {S : SpD} {E : XK} {ta : TA} (h : EA K ta Γ M fun ds M1 => S ds M1 Φ) : EV K (tCall (spOf K S) [] E ta) Γ M Φ := fun σ F H S' R Q q =>
  h σ F H S' R _ fun vs F1 H1 ds M1 x1 r1 i1 h1 => ⟨F1, M1, ds, _, r1, by rw [List.append_nil]; exact i1, h1, q.trans x1⟩
/-- .. with a part of what is owned set aside -/
theorem ev_callF {S : SpD} {E : XK} {ta : TA} (h : EA K ta Γ M fun ds M1 => ∃ A B, M1 = A ++ B ∧ S ds B fun d B' => Φ d (A ++ B')) : EV K (tCall (spOf K S) [] E ta) Γ M Φ := fun σ F H S' R Q q =>
  h σ F H S' R _ fun vs F1 H1 ds M1 x1 r1 i1 ⟨A, B, e, h1⟩ => by
    subst e
    refine ⟨F1, B, ds, _, r1.sub (List.sublist_append_right A B), by rw [List.append_nil]; exact i1, h1, fun v F2 H2 d A2 x2 r2 i2 h2 => ?_⟩
    obtain ⟨r3, x3⟩ := r1.frame x2 r2
    exact q v F2 H2 d _ (x1.trans x3) r3 i2 h2

/-! ### tests -/
theorem et_test {Φ' : Bool → Ms → Prop} (h : EV K ta Γ M fun d M1 => ∃ b, d = .bl b ∧ Φ' b M1) : ET K (tTest ta) Γ M Φ' := fun σ F H S R Q q =>
  h σ F H S R _ fun v F1 H1 d M1 x1 r1 i1 ⟨b, e, h1⟩ => by
    subst e
    cases i1
    exact ⟨b, rfl, q b F1 H1 M1 x1 r1 h1⟩
theorem et_B {Φ' : Bool → Ms → Prop} (h : EV K ta Γ M fun d M1 => ∃ b, d = .bl b ∧ Φ' b M1) : ET K (tB ta) Γ M Φ' := fun σ F H S R Q q =>
  h σ F H S R _ fun v F1 H1 d M1 x1 r1 i1 ⟨b, e, h1⟩ => by
    subst e
    cases i1
    exact ⟨b, rfl, q b F1 H1 M1 x1 r1 h1⟩
theorem et_and {Φ : Bool → Ms → Prop} (h : ET K t Γ M fun b M1 => if b = true then ET K u Γ M1 Φ else Φ false M1) : ET K (tAnd t u) Γ M Φ := fun σ F H S R Q q =>
  h σ F H S R _ fun b F1 H1 M1 x1 r1 h1 => by
    cases b with
    | true => exact h1 σ F1 H1 (S.mono x1.f) r1 Q fun c F2 H2 M2 x2 r2 h2 => q c F2 H2 M2 (x1.trans x2) r2 h2
    | false => exact q false F1 H1 M1 x1 r1 h1
theorem et_or {Φ : Bool → Ms → Prop} (h : ET K t Γ M fun b M1 => if b = true then Φ true M1 else ET K u Γ M1 Φ) : ET K (tOr t u) Γ M Φ := fun σ F H S R Q q =>
  h σ F H S R _ fun b F1 H1 M1 x1 r1 h1 => by
    cases b with
    | false => exact h1 σ F1 H1 (S.mono x1.f) r1 Q fun c F2 H2 M2 x2 r2 h2 => q c F2 H2 M2 (x1.trans x2) r2 h2
    | true => exact q true F1 H1 M1 x1 r1 h1
theorem et_not {Φ : Bool → Ms → Prop} (h : ET K t Γ M fun b M1 => Φ (!b) M1) : ET K (tNot t) Γ M Φ := fun σ F H S R Q q =>
  h σ F H S R _ fun b F1 H1 M1 x1 r1 h1 => q (!b) F1 H1 M1 x1 r1 h1
theorem et_yes {Φ : Bool → Ms → Prop} (h : Φ true M) : ET K tYes Γ M Φ := fun σ F H S R Q q => q true F H M .refl R h
theorem ev_andV (h : EV K ta Γ M fun d M1 => ∃ b, d = .bl b ∧ if b = true then EV K tb Γ M1 Φ else Φ (.bl false) M1) : EV K (tAndV ta tb) Γ M Φ := fun σ F H S R Q q =>
  h σ F H S R _ fun v F1 H1 d M1 x1 r1 i1 ⟨b, e, h1⟩ => by
    subst e
    cases i1
    refine ⟨b, rfl, ?_⟩
    cases b with
    | true => exact h1 σ F1 H1 (S.mono x1.f) r1 Q (q.trans x1)
    | false => exact q _ F1 H1 _ M1 x1 r1 (.bl false) h1
theorem ev_orV (h : EV K ta Γ M fun d M1 => ∃ b, d = .bl b ∧ if b = true then Φ (.bl true) M1 else EV K tb Γ M1 Φ) : EV K (tOrV ta tb) Γ M Φ := fun σ F H S R Q q =>
  h σ F H S R _ fun v F1 H1 d M1 x1 r1 i1 ⟨b, e, h1⟩ => by
    subst e
    cases i1
    refine ⟨b, rfl, ?_⟩
    cases b with
    | false => exact h1 σ F1 H1 (S.mono x1.f) r1 Q (q.trans x1)
    | true => exact q _ F1 H1 _ M1 x1 r1 (.bl true) h1
theorem ev_notV (h : EV K ta Γ M fun d M1 => ∃ b, d = .bl b ∧ Φ (.bl (!b)) M1) : EV K (tNotV ta) Γ M Φ := fun σ F H S R Q q =>
  h σ F H S R _ fun v F1 H1 d M1 x1 r1 i1 ⟨b, e, h1⟩ => by
    subst e
    cases i1
    exact ⟨b, rfl, q _ F1 H1 _ M1 x1 r1 (.bl _) h1⟩
theorem ev_ifx (h : ET K t Γ M fun b M1 => if b = true then EV K ta Γ M1 Φ else EV K tb Γ M1 Φ) : EV K (tIf t ta tb) Γ M Φ := fun σ F H S R Q q =>
  h σ F H S R _ fun b F1 H1 M1 x1 r1 h1 => by
    cases b with
    | true => exact h1 σ F1 H1 (S.mono x1.f) r1 Q (q.trans x1)
    | false => exact h1 σ F1 H1 (S.mono x1.f) r1 Q (q.trans x1)
theorem ev_chain {r r' : R2} (h : EV K ta Γ M fun x M1 => EV K tb Γ M1 fun y M2 => R2' K r x y M2 fun z M3 => ∃ k, z = .bl k ∧ if k = true then EV K tc Γ M3 fun w M4 => R2' K r' y w M4 Φ else Φ (.bl false) M3) : EV K (tChain r r' ta tb tc) Γ M Φ := fun σ F H S R Q q =>
  h σ F H S R _ fun v F1 H1 d M1 x1 r1 i1 h1 => h1 σ F1 H1 (S.mono x1.f) r1 _ fun w F2 H2 e M2 x2 r2 i2 h2 => h2 F2 H2 r2 v w (i1.mono x2.f) i2 _ fun z F3 H3 f M3 x3 r3 i3 ⟨k, e3, h3⟩ => by
    subst e3
    cases i3
    refine ⟨k, rfl, ?_⟩
    have x123 := (x1.trans x2).trans x3
    cases k with
    | true => exact h3 σ F3 H3 (S.mono x123.f) r3 _ fun w2 F4 H4 e4 M4 x4 r4 i4 h4 => h4 F4 H4 r4 w w2 (i2.mono (x3.f.trans x4.f)) i4 Q (q.trans (x123.trans x4))
    | false => exact q _ F3 H3 _ M3 x123 r3 (.bl false) h3
end
end DL


set_option Elab.async false
set_option linter.all false
set_option maxRecDepth 100000
set_option maxHeartbeats 2000000
namespace DL
open PySem PySem.Spec PyProof.Rows L2 StX

section
variable {K : PySem.W.Frag} {F H F1 H1 F2 H2 F' H' : Hp} {M M1 M2 M' A B : Ms} {σ : L2.St} {Γ Γ' : Gm} {Φ Ψ : D → Ms → Prop} {Q : VK} {ta tb tc te : TE} {t u : TT} {ts tu tz : TS} {r : R2} {d x y : D} {v : V} {E E' : DE}

/-! ### statements -/
theorem es_next (h : E.nx Γ M) : ES K tNext Γ M E := fun σ F H S R De n _ _ _ => n σ F H Γ M .refl S R h
theorem es_break (h : E.bk Γ M) : ES K tBreak Γ M E := fun σ F H S R De _ _ b _ => b σ F H Γ M .refl S R h
theorem es_cont (h : E.ct Γ M) : ES K tCont Γ M E := fun σ F H S R De _ _ _ c => c σ F H Γ M .refl S R h
theorem es_never (h : False) : ES K tNever Γ M E := h.elim
theorem es_seq (h : ES K ts Γ M { E with nx := fun Γ1 M1 => ES K tu Γ1 M1 E }) : ES K (tSeq ts tu) Γ M E := fun σ F H S R De n rt b c =>
  h σ F H S R { De with nx := tu De } (fun σ' F' H' Γ' M' x s r q => q σ' F' H' s r De (fun σ2 F2 H2 Γ2 M2 x2 s2 r2 q2 => n σ2 F2 H2 Γ2 M2 (x.trans x2) s2 r2 q2) (rt.trans x)
    (fun σ2 F2 H2 Γ2 M2 x2 s2 r2 q2 => b σ2 F2 H2 Γ2 M2 (x.trans x2) s2 r2 q2) fun σ2 F2 H2 Γ2 M2 x2 s2 r2 q2 => c σ2 F2 H2 Γ2 M2 (x.trans x2) s2 r2 q2) rt b c
theorem es_drop (h : EV K te Γ M fun _ M1 => E.nx Γ M1) : ES K (tDrop te) Γ M E := fun σ F H S R De n _ _ _ =>
  h σ F H S R _ fun v F1 H1 d M1 x r i q => n σ F1 H1 Γ M1 x (S.mono x.f) r q
theorem es_ret (h : EV K te Γ M E.rt) : ES K (tRet te) Γ M E := fun σ F H S R De _ rt _ _ => h σ F H S R _ rt
theorem es_retN (h : E.rt .non M) : ES K tRetN Γ M E := fun σ F H S R De _ rt _ _ => rt.here R .non h
theorem es_if (h : ET K t Γ M fun b M1 => if b = true then ES K ts Γ M1 E else ES K tu Γ M1 E) : ES K (tIfS t ts tu) Γ M E := fun σ F H S R De n rt b c =>
  h σ F H S R _ fun k F1 H1 M1 x r q => by
    have go : ∀ {w : TS}, ES K w Γ M1 E → w De σ H1 := fun {w} q => q σ F1 H1 (S.mono x.f) r De (fun σ2 F2 H2 Γ2 M2 x2 s2 r2 q2 => n σ2 F2 H2 Γ2 M2 (x.trans x2) s2 r2 q2) (rt.trans x)
      (fun σ2 F2 H2 Γ2 M2 x2 s2 r2 q2 => b σ2 F2 H2 Γ2 M2 (x.trans x2) s2 r2 q2) fun σ2 F2 H2 Γ2 M2 x2 s2 r2 q2 => c σ2 F2 H2 Γ2 M2 (x.trans x2) s2 r2 q2
    cases k with
    | true => exact go q
    | false => exact go q
/-- a target takes a value -/
def EG (K : PySem.W.Frag) (g : TG) (own : List Nat) (d : D) (Γ : Gm) (M : Ms) (Ψ : Gm → Ms → Prop) : Prop :=
  ∀ (σ : L2.St) (F H : Hp) (v : V), RepS K F σ Γ → Rep K F H M → Is K F v d → ∀ Q : L2.St → Hp → Prop,
    (∀ σ' F' H' Γ' M', Ext F H M F' H' M' → RepS K F' σ' Γ' → Rep K F' H' M' → (σ'.length = σ.length ∧ ∀ j, j ∉ own → σ'[j]? = σ[j]?) → Ψ Γ' M' → Q σ' H') → g v σ H Q
theorem eg_name {own : List Nat} {i : Nat} {Ψ : Gm → Ms → Prop} (hi : i ∈ own) (h : Ψ (Γ.set i (some d)) M) : EG K (gName i) own d Γ M Ψ := fun σ F H v S R i' Q q =>
  q _ F H _ M .refl (S.set i i') R ⟨List.length_set, fun j hj => List.getElem?_set_ne (fun e => hj (by rw [← e]; exact hi))⟩ h
theorem eg_name' {i : Nat} {Ψ : Gm → Ms → Prop} (h : Ψ (Γ.set i (some d)) M) : EG K (gName i) [i] d Γ M Ψ := eg_name (List.mem_singleton.mpr rfl) h
/-- several names of a tuple -/
def EGs (K : PySem.W.Frag) (g : TGs) (own : List Nat) (ds : List D) (Γ : Gm) (M : Ms) (Ψ : Gm → Ms → Prop) : Prop :=
  ∀ (σ : L2.St) (F H : Hp) (vs : List V), RepS K F σ Γ → Rep K F H M → IsL K F vs ds → ∀ Q : L2.St → Hp → Prop,
    (∀ σ' F' H' Γ' M', Ext F H M F' H' M' → RepS K F' σ' Γ' → Rep K F' H' M' → (σ'.length = σ.length ∧ ∀ j, j ∉ own → σ'[j]? = σ[j]?) → Ψ Γ' M' → Q σ' H') → g vs σ H Q
theorem egs_nil {own : List Nat} {Ψ : Gm → Ms → Prop} (h : Ψ Γ M) : EGs K gNil own [] Γ M Ψ := fun σ F H vs S R i' Q q => by
  cases i'
  exact ⟨rfl, q σ F H Γ M .refl S R ⟨rfl, fun _ _ => rfl⟩ h⟩
theorem egs_cons {own : List Nat} {g : TG} {gs : TGs} {ds : List D} {Ψ : Gm → Ms → Prop} (h : EG K g own d Γ M fun Γ1 M1 => EGs K gs own ds Γ1 M1 Ψ) : EGs K (gCons g gs) own (d :: ds) Γ M Ψ := fun σ F H vs S R i' Q q => by
  cases i' with
  | cons i1 i2 =>
    refine ⟨_, _, rfl, h σ F H _ S R i1 _ fun σ1 F1 H1 Γ1 M1 x1 s1 r1 e1 w1 => w1 σ1 F1 H1 _ s1 r1 (i2.mono x1.f) Q fun σ2 F2 H2 Γ2 M2 x2 s2 r2 e2 w2 => q σ2 F2 H2 Γ2 M2 (x1.trans x2) s2 r2 ⟨e2.1.trans e1.1, fun j hj => (e2.2 j hj).trans (e1.2 j hj)⟩ w2⟩
theorem eg_tup {own : List Nat} {n : Nat} {gs : TGs} {ds : List D} {Ψ : Gm → Ms → Prop} (e : d = .tup ds) (hn : ds.length = n) (h : EGs K gs own ds Γ M Ψ) : EG K (gTup K n gs) own d Γ M Ψ := fun σ F H v S R i' Q q => by
  subst e
  cases i' with
  | tup h1 h2 => exact ⟨_, _, rfl, R.le.sqt h1, by rw [h2.length]; exact hn, h σ F H _ S R h2 Q q⟩
theorem es_asg {g : TG} {own : List Nat} (h : EV K te Γ M fun d M1 => EG K g own d Γ M1 E.nx) : ES K (tAsg te g) Γ M E := fun σ F H S R De n _ _ _ =>
  h σ F H S R _ fun v F1 H1 d M1 x r i q => q σ F1 H1 v (S.mono x.f) r i _ fun σ2 F2 H2 Γ2 M2 x2 s2 r2 _ w2 => n σ2 F2 H2 Γ2 M2 (x.trans x2) s2 r2 w2
theorem es_set {i : Nat} (h : EV K te Γ M fun d M1 => E.nx (Γ.set i (some d)) M1) : ES K (tAsg te (gName i)) Γ M E := es_asg (own := [i]) (h.mono fun _ _ q => eg_name' q)
theorem es_par {i j : Nat} {tl : TA} (h : EA K tl Γ M fun ds M1 => ∃ a b, ds = [a, b] ∧ E.nx ((Γ.set i (some a)).set j (some b)) M1) : ES K (tPar i j tl) Γ M E := fun σ F H S R De n _ _ _ =>
  h σ F H S R _ fun vs F1 H1 ds M1 x r i1 ⟨a, b, e, q⟩ => by
    subst e
    cases i1 with
    | cons i1 i2 =>
      cases i2 with
      | cons i2 i3 =>
        cases i3
        exact ⟨_, _, rfl, n _ F1 H1 _ M1 x (((S.mono x.f).set i i1).set j i2) r q⟩
/-- x op= e, two ints -/
theorem es_augI {i : Nat} {f : Int → Int → Int} {a : Int} (h0 : Γ[i]? = some (some (.int a))) (h : EV K te Γ M fun d M1 => ∃ b, d = .int b ∧ E.nx (Γ.set i (some (.int (f a b)))) M1) : ES K (tAug i te (ipI f)) Γ M E := fun σ F H S R De n _ _ _ => by
  obtain ⟨v, h1, h2⟩ := S.at' i _ h0
  cases h2
  refine ⟨_, h1, h σ F H S R _ fun v F1 H1 d M1 x r i1 ⟨b, e, q⟩ => ?_⟩
  subst e
  cases i1
  exact ⟨_, _, rfl, rfl, n _ F1 H1 _ M1 x ((S.mono x.f).set i (.int _)) r q⟩
/-- an owned thing is let go between two statements -/
theorem es_letgo (i : Nat) (j : Nat) {p : Addr} {o : O} (h0 : Γ[i]? = some (some (.ptr p))) (hj : M[j]? = some (p, o)) (h : ES K ts (Γ.set i (some o.d)) (M.eraseIdx j) E) : ES K ts Γ M E := fun σ F H S R De n rt b c => by
  obtain ⟨F1, r1, x1, i1⟩ := R.letgo hj
  obtain ⟨v, h1, h2⟩ := S.at' i _ h0
  cases h2
  have s1 : RepS K F1 σ (Γ.set i (some o.d)) := by
    have s2 := (S.mono x1.f).set i i1
    have hl := (List.getElem?_eq_some_iff.mp h1)
    have e : σ.set i (some (.ref p)) = σ := by
      rw [← hl.2]
      exact List.set_getElem_self hl.1
    rw [e] at s2
    exact s2
  exact h σ F1 H s1 r1 De (fun σ2 F2 H2 Γ2 M2 x2 s2 r2 q2 => n σ2 F2 H2 Γ2 M2 (x1.trans x2) s2 r2 q2) (rt.trans x1)
      (fun σ2 F2 H2 Γ2 M2 x2 s2 r2 q2 => b σ2 F2 H2 Γ2 M2 (x1.trans x2) s2 r2 q2) fun σ2 F2 H2 Γ2 M2 x2 s2 r2 q2 => c σ2 F2 H2 Γ2 M2 (x1.trans x2) s2 r2 q2
/-- a name that is read as a value and let go -/
theorem ev_letgo {i : Nat} (j : Nat) {p : Addr} {o : O} (h0 : Γ[i]? = some (some (.ptr p))) (hj : M[j]? = some (p, o)) (h : Φ o.d (M.eraseIdx j)) : EV K (tVar i) Γ M Φ := fun σ F H S R Q q => by
  obtain ⟨F1, r1, x1, i1⟩ := R.letgo hj
  obtain ⟨v, h1, h2⟩ := S.at' i _ h0
  cases h2
  exact ⟨_, h1, q _ F1 H _ _ x1 r1 i1 h⟩

/-! ### what is walked -/
structure JOk (K : PySem.W.Frag) (F : Hp) (J : It) (xs : List D) : Prop where
  stop : ∀ F1 H1 M1, Gr F F1 → Rep K F1 H1 M1 → J.stop xs.length H1
  item : ∀ F1 H1 M1 i d, Gr F F1 → Rep K F1 H1 M1 → xs[i]? = some d → J.go i H1 ∧ ∀ v H2, J.yld i H1 v H2 → ∃ F2, Ext F1 H1 M1 F2 H2 M1 ∧ Rep K F2 H2 M1 ∧ Is K F2 v d
def EI (K : PySem.W.Frag) (wi : TI) (Γ : Gm) (M : Ms) (Φ : List D → Ms → Prop) : Prop :=
  ∀ (σ : L2.St) (F H : Hp), RepS K F σ Γ → Rep K F H M → ∀ R : It → Hp → Prop, (∀ J F' H' xs M', Ext F H M F' H' M' → Rep K F' H' M' → JOk K F' J xs → Φ xs M' → R J H') → wi σ H R
theorem es_for {wi : TI} {g : TG} {own : List Nat} (h : EI K wi Γ M fun xs M1 => ∃ I : Nat → Gm → Ms → Prop, I 0 Γ M1 ∧
      (∀ i d Γ' M', xs[i]? = some d → I i Γ' M' → EG K g own d Γ' M' fun Γ2 M2 => ES K ts Γ2 M2 { nx := I (i + 1), ct := I (i + 1), bk := E.nx, rt := E.rt }) ∧ ∀ Γ' M', I xs.length Γ' M' → E.nx Γ' M') : ES K (tFor wi g ts) Γ M E := fun σ F H S R De n rt _ _ => by
  refine h σ F H S R _ fun J F1 H1 xs M1 x1 r1 j ⟨I, h0, hs, hd⟩ => ?_
  refine ⟨fun i m σ' H' => m = xs.length - i ∧ i ≤ xs.length ∧ ∃ F' Γ' M', Ext F1 H1 M1 F' H' M' ∧ RepS K F' σ' Γ' ∧ Rep K F' H' M' ∧ I i Γ' M', ⟨xs.length, by omega, Nat.zero_le _, F1, Γ, M1, .refl, S.mono x1.f, r1, h0⟩, ?_⟩
  rintro i m σ' H' ⟨rfl, hi, F', Γ', M', x', s', r', i'⟩
  by_cases hlt : i < xs.length
  · have hx : xs[i]? = some xs[i] := List.getElem?_eq_getElem hlt
    obtain ⟨go, yl⟩ := j.item F' H' M' i _ x'.f r' hx
    refine .inr ⟨go, fun σ2 H2 => ∃ F2 Γ2 M2, Ext F1 H1 M1 F2 H2 M2 ∧ RepS K F2 σ2 Γ2 ∧ Rep K F2 H2 M2 ∧ I (i + 1) Γ2 M2, fun σ2 H2 ⟨F2, Γ2, M2, w⟩ => ⟨xs.length - (i + 1), by omega, rfl, hlt, F2, Γ2, M2, w⟩, fun v H2 y => ?_⟩
    obtain ⟨F2, x2, r2, i2⟩ := yl v H2 y
    refine hs i _ Γ' M' hx i' σ' F2 H2 v (s'.mono x2.f) r2 i2 _ fun σ3 F3 H3 Γ3 M3 x3 s3 r3 _ w3 => ?_
    have x123 := (x'.trans x2).trans x3
    refine w3 σ3 F3 H3 s3 r3 _ (fun σ4 F4 H4 Γ4 M4 x4 s4 r4 q4 => ⟨F4, Γ4, M4, x123.trans x4, s4, r4, q4⟩) ((rt.trans x1).trans x123) (fun σ4 F4 H4 Γ4 M4 x4 s4 r4 q4 => n σ4 F4 H4 Γ4 M4 ((x1.trans x123).trans x4) s4 r4 q4) fun σ4 F4 H4 Γ4 M4 x4 s4 r4 q4 => ⟨F4, Γ4, M4, x123.trans x4, s4, r4, q4⟩
  · have e : i = xs.length := by omega
    subst e
    exact .inl ⟨j.stop F' H' M' x'.f r', n σ' F' H' Γ' M' (x1.trans x') s' r' (hd Γ' M' i')⟩
theorem es_while (I : Nat → Gm → Ms → Prop) (m0 : Nat) (h0 : I m0 Γ M)
    (hs : ∀ m Γ' M', I m Γ' M' → ET K t Γ' M' fun b M2 => if b = true then ES K ts Γ' M2 { nx := fun Γ3 M3 => ∃ m', m' < m ∧ I m' Γ3 M3, ct := fun Γ3 M3 => ∃ m', m' < m ∧ I m' Γ3 M3, bk := E.nx, rt := E.rt } else E.nx Γ' M2) : ES K (tWhile t ts) Γ M E := fun σ F H S R De n rt _ _ => by
  refine ⟨fun m σ' H' => ∃ F' Γ' M', Ext F H M F' H' M' ∧ RepS K F' σ' Γ' ∧ Rep K F' H' M' ∧ I m Γ' M', ⟨m0, F, Γ, M, .refl, S, R, h0⟩, ?_⟩
  rintro m σ' H' ⟨F', Γ', M', x', s', r', i'⟩
  refine hs m Γ' M' i' σ' F' H' s' r' _ fun b F2 H2 M2 x2 r2 q2 => ?_
  cases b with
  | true =>
    show ∃ N : L2.St → Hp → Prop, (∀ σ' H', N σ' H' → ∃ m', m' < m ∧ ∃ F' Γ' M', Ext F H M F' H' M' ∧ RepS K F' σ' Γ' ∧ Rep K F' H' M' ∧ I m' Γ' M') ∧ ts { De with nx := N, ct := N, bk := De.nx } σ' H2
    have x12 := x'.trans x2
    refine ⟨fun σ3 H3 => ∃ m', m' < m ∧ ∃ F3 Γ3 M3, Ext F H M F3 H3 M3 ∧ RepS K F3 σ3 Γ3 ∧ Rep K F3 H3 M3 ∧ I m' Γ3 M3, fun σ3 H3 w => w, ?_⟩
    exact q2 σ' F2 H2 (s'.mono x2.f) r2 _ (fun σ4 F4 H4 Γ4 M4 x4 s4 r4 ⟨m', hm, q4⟩ => ⟨m', hm, F4, Γ4, M4, x12.trans x4, s4, r4, q4⟩) (rt.trans x12) (fun σ4 F4 H4 Γ4 M4 x4 s4 r4 q4 => n σ4 F4 H4 Γ4 M4 (x12.trans x4) s4 r4 q4)
      fun σ4 F4 H4 Γ4 M4 x4 s4 r4 ⟨m', hm, q4⟩ => ⟨m', hm, F4, Γ4, M4, x12.trans x4, s4, r4, q4⟩
  | false => exact n σ' F2 H2 Γ' M2 (x'.trans x2) (s'.mono x2.f) r2 q2

/-! ### comprehensions -/
theorem wipe_at (σ : L2.St) : ∀ (vs : List Nat) (i : Nat), (wipe σ vs)[i]? = if i ∈ vs ∧ i < σ.length then some none else σ[i]?
  | [], i => by simp [wipe]
  | v :: vs, i => by
    unfold L2.wipe
    by_cases hv : v = i
    · subst hv
      by_cases hl : v < (wipe σ vs).length
      · rw [List.getElem?_set_self hl]
        rw [wipe_length] at hl
        simp [hl]
      · rw [List.getElem?_eq_none (by rw [List.length_set]; omega)]
        rw [wipe_length] at hl
        rw [if_neg (by omega), List.getElem?_eq_none (by omega)]
    · rw [List.getElem?_set_ne hv, wipe_at σ vs i]
      have : i ∈ v :: vs ↔ i ∈ vs := by
        rw [List.mem_cons]
        exact ⟨fun h => h.elim (fun e => absurd e.symm hv) id, .inr⟩
      simp only [this]
theorem wipe_back {σ σ2 : L2.St} {vs : List Nat} (hl : σ2.length = σ.length) (h : ∀ j, j ∉ vs → σ2[j]? = (wipe σ vs)[j]?) : wipe σ2 vs = wipe σ vs := by
  refine List.ext_getElem? fun i => ?_
  rw [wipe_at σ2 vs i]
  by_cases hi : i ∈ vs
  · rw [wipe_at σ vs i, hl]
    by_cases hlt : i < σ.length
    · rw [if_pos ⟨hi, hlt⟩, if_pos ⟨hi, hlt⟩]
    · rw [if_neg (fun z => hlt z.2), if_neg (fun z => hlt z.2), List.getElem?_eq_none (by omega), List.getElem?_eq_none (by omega)]
  · rw [if_neg (fun z => hi z.1)]
    exact h i hi
theorem en_lc {wi : TI} {g : TG} {vs : List Nat} {Φ : O → Ms → Prop} (h : EI K wi Γ M fun xs M1 => xs.length ≤ 100000 ∧ ∃ I : Nat → List D → Ms → Prop, I 0 [] M1 ∧
      (∀ i d acc M', xs[i]? = some d → I i acc M' → EG K g vs d (wipeG Γ vs) M' fun Γ2 M2 => ET K t Γ2 M2 fun b M3 => if b = true then EV K te Γ2 M3 fun y M4 => I (i + 1) (acc ++ [y]) M4 else I (i + 1) acc M3) ∧
      ∀ acc M', I xs.length acc M' → Φ (.lst acc) M') : EN K (tLc wi g t te vs) Γ M Φ := fun σ F H S R Q q => by
  refine h σ F H S R _ fun J F1 H1 xs M1 x1 r1 j ⟨hz, I, h0, hs, hd⟩ Dl hD => ?_
  obtain ⟨rN, xN⟩ := r1.new hD (Own.lst (K := K) (F := F1) .nil)
  have s1 : RepS K F1 (wipe σ vs) (wipeG Γ vs) := (S.mono x1.f).wipe vs
  refine ⟨fun i m H' => m = xs.length - i ∧ i ≤ xs.length ∧ ∃ F' M' acc, Ext F1 H1 M1 F' H' ((Dl, .lst acc) :: M') ∧ Rep K F' H' ((Dl, .lst acc) :: M') ∧ acc.length ≤ i ∧ I i acc M', ⟨xs.length, by omega, Nat.zero_le _, F1, M1, [], xN, rN, Nat.le_refl _, h0⟩, ?_⟩
  rintro i m H' ⟨rfl, hi, F', M', acc, x', r', hl, i'⟩
  by_cases hlt : i < xs.length
  · have hx : xs[i]? = some xs[i] := List.getElem?_eq_getElem hlt
    obtain ⟨go, yl⟩ := j.item F' H' _ i _ x'.f r' hx
    refine .inr ⟨go, fun H2 => ∃ F2 M2 acc, Ext F1 H1 M1 F2 H2 ((Dl, .lst acc) :: M2) ∧ Rep K F2 H2 ((Dl, .lst acc) :: M2) ∧ acc.length ≤ i + 1 ∧ I (i + 1) acc M2, fun H2 ⟨F2, M2, acc, w⟩ => ⟨xs.length - (i + 1), by omega, rfl, hlt, F2, M2, acc, w⟩, fun v H2 y => ?_⟩
    obtain ⟨F2, x2, r2, i2⟩ := yl v H2 y
    have sub2 : List.Sublist M' ((Dl, O.lst acc) :: M') := List.sublist_cons_self _ _
    refine hs i _ acc M' hx i' (wipe σ vs) F2 H2 v (s1.mono (x'.trans x2).f) (r2.sub sub2) i2 _ fun σ3 F3 H3 Γ3 M3 x3 s3 r3 e3 w3 => ?_
    obtain ⟨r3', x3'⟩ := r2.frame1 x3 r3
    refine ⟨wipe_back (e3.1.trans (wipe_length σ vs)) e3.2, ?_⟩
    refine w3 σ3 F3 H3 s3 r3 _ fun b F4 H4 M4 x4 r4 w4 => ?_
    obtain ⟨r4', x4'⟩ := r3'.frame1 x4 r4
    have x1234 := ((x'.trans x2).trans x3').trans x4'
    cases b with
    | false => exact ⟨F4, M4, acc, x1234, r4', by omega, w4⟩
    | true =>
      refine w4 σ3 F4 H4 (s3.mono x4.f) r4 _ fun yv F5 H5 yd M5 x5 r5 i5 w5 => ?_
      obtain ⟨r5', x5'⟩ := r4'.frame1 x5 r5
      obtain ⟨_, ho, hh, ow⟩ := r5'.own (Dl, O.lst acc) List.mem_cons_self
      cases ow with
      | @lst vacc _ ow =>
        obtain ⟨r6, x6⟩ := r5'.write (j := 0) rfl (Own.lst (ow.append (.cons i5 .nil)))
        refine ⟨vacc, hh, by rw [ow.length]; exact sz_lt (by omega), F5, M5, acc ++ [yd], (x1234.trans x5').trans x6, r6, by rw [List.length_append]; simp; omega, w5⟩
  · have e : i = xs.length := by omega
    subst e
    refine .inl ⟨j.stop F' H' _ x'.f r', q _ F' H' (.ptr Dl) _ (x1.trans x') r' (.ptr Dl) ⟨Dl, .lst acc, M', rfl, rfl, hd acc M' i'⟩⟩
end
end DL


set_option Elab.async false
set_option linter.all false
set_option maxRecDepth 100000
set_option maxHeartbeats 2000000
namespace DL
open PySem PySem.Spec PyProof.Rows L2 StX

section
variable {K : PySem.W.Frag} {F H F1 H1 F2 H2 F' H' : Hp} {M M1 M2 M' A B : Ms} {σ : L2.St} {Γ Γ' : Gm} {Φ Ψ : D → Ms → Prop} {Q : VK} {ta tb tc te : TE} {t u : TT} {ts tu tz : TS} {r r' : R2} {d x y : D} {v : V} {E E' : DE}

/-! ### sources of walks -/
theorem ei_list {tl : TE} {Ψ : List D → Ms → Prop} (h : EV K tl Γ M fun x M1 => ∃ ds, (x = .lst ds ∨ x = .rol ds) ∧ Ψ ds M1) : EI K (iList K tl) Γ M Ψ := fun σ F H S R Rw q =>
  h σ F H S R _ fun v F1 H1 d M1 x1 r1 i1 ⟨ds, e, h1⟩ => by
    have key : ∃ a xs, v = .ref a ∧ SqL K F1 a xs ∧ IsL K F1 xs ds := by
      rcases e with e | e
      · subst e
        cases i1 with
        | lst h1 h2 => exact ⟨_, _, rfl, .inl (.inl h1), h2⟩
      · subst e
        cases i1 with
        | rol h1 h2 => exact ⟨_, _, rfl, h1, h2⟩
    obtain ⟨a, xs, e1, e2, e3⟩ := key
    refine ⟨a, e1, ⟨xs, r1.le.sql e2⟩, q _ F1 H1 ds M1 x1 r1 ⟨fun F2 H2 M2 g r2 => ⟨xs, (g.trans r2.le).sql e2, Nat.le_of_eq e3.length⟩, fun F2 H2 M2 i d g r2 hx => ?_⟩ h1⟩
    obtain ⟨w, hw, iw⟩ := e3.get hx
    refine ⟨⟨xs, w, (g.trans r2.le).sql e2, hw⟩, fun v' H3 y => ?_⟩
    obtain ⟨rfl, y⟩ := y
    have := y xs ((g.trans r2.le).sql e2)
    rw [hw] at this
    cases this
    exact ⟨F2, .refl, r2, iw.mono g⟩
theorem ei_tup {tl : TE} {Ψ : List D → Ms → Prop} (h : EV K tl Γ M fun x M1 => ∃ ds, x = .tup ds ∧ Ψ ds M1) : EI K (iTup K tl) Γ M Ψ := fun σ F H S R Rw q =>
  h σ F H S R _ fun v F1 H1 d M1 x1 r1 i1 ⟨ds, e, h1⟩ => by
    subst e
    cases i1 with
    | @tup a xs _ e2 e3 =>
      refine ⟨a, rfl, ⟨xs, r1.le.sqt e2⟩, q _ F1 H1 ds M1 x1 r1 ⟨fun F2 H2 M2 g r2 => ⟨xs, (g.trans r2.le).sqt e2, Nat.le_of_eq e3.length⟩, fun F2 H2 M2 i d g r2 hx => ?_⟩ h1⟩
      obtain ⟨w, hw, iw⟩ := e3.get hx
      refine ⟨⟨xs, w, (g.trans r2.le).sqt e2, hw⟩, fun v' H3 y => ?_⟩
      obtain ⟨rfl, y⟩ := y
      have := y xs ((g.trans r2.le).sqt e2)
      rw [hw] at this
      cases this
      exact ⟨F2, .refl, r2, iw.mono g⟩
/-- lo, lo + 1, .. -/
def rngD (lo : Int) (n : Nat) : List D := (List.range n).map fun i : Nat => .int (lo + (i : Int))
theorem rngD_length (lo : Int) (n : Nat) : (rngD lo n).length = n := by
  unfold rngD
  rw [List.length_map, List.length_range]
theorem rngD_get {lo : Int} {n i : Nat} {d : D} (h : (rngD lo n)[i]? = some d) : i < n ∧ d = .int (lo + (i : Int)) := by
  unfold rngD at h
  rw [List.getElem?_map] at h
  by_cases hi : i < n
  · rw [List.getElem?_range hi] at h
    exact ⟨hi, (Option.some.inj h).symm⟩
  · rw [List.getElem?_eq_none (by rw [List.length_range]; omega)] at h
    cases h
theorem jok_rng (lo : Int) (n : Nat) : JOk K F (Itr lo n) (rngD lo n) := by
  refine ⟨fun F1 H1 M1 _ _ => ?_, fun F1 H1 M1 i d g r hx => ?_⟩
  · show n ≤ (rngD lo n).length
    rw [rngD_length]
    exact Nat.le_refl _
  · obtain ⟨hi, rfl⟩ := rngD_get hx
    refine ⟨hi, fun v H2 y => ?_⟩
    obtain ⟨rfl, rfl⟩ := y
    exact ⟨F1, .refl, r, .int _⟩
theorem ei_rng1 {tl : TA} {Ψ : List D → Ms → Prop} (h : EA K tl Γ M fun xs M1 => ∃ n : Int, xs = [.int n] ∧ -1000000000 ≤ n ∧ n ≤ 1000000000 ∧ Ψ (rngD 0 n.toNat) M1) : EI K (iRng1 tl) Γ M Ψ := fun σ F H S R Rw q =>
  h σ F H S R _ fun vs F1 H1 ds M1 x1 r1 i1 ⟨n, e, h1, h2, h3⟩ => by
    subst e
    have e := isl_ints' [n] vs i1
    subst e
    exact ⟨n, rfl, by omega, by omega, q _ F1 H1 _ M1 x1 r1 (jok_rng 0 _) h3⟩
theorem ei_rng2 {tl : TA} {Ψ : List D → Ms → Prop} (h : EA K tl Γ M fun xs M1 => ∃ a n : Int, xs = [.int a, .int n] ∧ (-1000000000 ≤ a ∧ a ≤ 1000000000 ∧ -1000000000 ≤ n ∧ n ≤ 1000000000) ∧ Ψ (rngD a (n - a).toNat) M1) : EI K (iRng2 tl) Γ M Ψ := fun σ F H S R Rw q =>
  h σ F H S R _ fun vs F1 H1 ds M1 x1 r1 i1 ⟨a, n, e, h1, h3⟩ => by
    subst e
    have e := isl_ints' [a, n] vs i1
    subst e
    exact ⟨a, n, rfl, ⟨by omega, by omega, by omega, by omega⟩, q _ F1 H1 _ M1 x1 r1 (jok_rng a _) h3⟩
/-- a pair made on the way -/
theorem Rep.pair {T : Addr} {v w : V} {x y : D} (r : Rep K F H M) (nT : H T = none) (i1 : Is K F v x) (i2 : Is K F w y) : ∃ F2, Ext F H M F2 (upd H T (.tup [v, w])) M ∧ Rep K F2 (upd H T (.tup [v, w])) M ∧ Is K F2 (.ref T) (.tup [x, y]) := by
  obtain ⟨F2, r2, x2, i2⟩ := r.tup nT (.cons i1 (.cons i2 .nil))
  exact ⟨F2, x2, r2, i2⟩
/-- pairs (i, item) -/
def enumD (ds : List D) : List D := (List.range ds.length).map fun i : Nat => .tup [.int (i : Int), ds.getD i .non]
theorem enumD_length (ds : List D) : (enumD ds).length = ds.length := by
  unfold enumD
  rw [List.length_map, List.length_range]
theorem enumD_get {ds : List D} {i : Nat} {d : D} (h : (enumD ds)[i]? = some d) : ∃ x, ds[i]? = some x ∧ d = .tup [.int (i : Int), x] := by
  unfold enumD at h
  rw [List.getElem?_map] at h
  by_cases hi : i < ds.length
  · rw [List.getElem?_range hi] at h
    refine ⟨ds[i], List.getElem?_eq_getElem hi, ?_⟩
    have e : d = .tup [.int (i : Int), ds.getD i .non] := (Option.some.inj h).symm
    rw [List.getD_eq_getElem?_getD, List.getElem?_eq_getElem hi] at e
    exact e
  · rw [List.getElem?_eq_none (by rw [List.length_range]; omega)] at h
    cases h
theorem ei_enum {tl : TA} {Ψ : List D → Ms → Prop} (h : EA K tl Γ M fun xs M1 => ∃ x ds, xs = [x] ∧ (x = .lst ds ∨ x = .rol ds) ∧ Ψ (enumD ds) M1) : EI K (iEnum K tl) Γ M Ψ := fun σ F H S R Rw q =>
  h σ F H S R _ fun vs F1 H1 es M1 x1 r1 i1 ⟨x, ds, e0, e, h1⟩ => by
    subst e0
    cases i1 with
    | @cons v _ _ _ i1 i2 =>
    cases i2
    have key : ∃ a xs, v = .ref a ∧ SqL K F1 a xs ∧ IsL K F1 xs ds := by
      rcases e with e | e
      · subst e
        cases i1 with
        | lst h1 h2 => exact ⟨_, _, rfl, .inl (.inl h1), h2⟩
      · subst e
        cases i1 with
        | rol h1 h2 => exact ⟨_, _, rfl, h1, h2⟩
    obtain ⟨a, xs, e1, e2, e3⟩ := key
    subst e1
    refine ⟨a, xs, rfl, r1.le.sql e2, q _ F1 H1 (enumD ds) M1 x1 r1 ⟨fun F2 H2 M2 g r2 => ⟨xs, (g.trans r2.le).sql e2, Nat.le_of_eq (by rw [enumD_length]; exact e3.length)⟩, fun F2 H2 M2 i d g r2 hx => ?_⟩ h1⟩
    obtain ⟨x, hx2, rfl⟩ := enumD_get hx
    obtain ⟨w, hw, iw⟩ := e3.get hx2
    refine ⟨⟨xs, w, (g.trans r2.le).sql e2, hw⟩, fun v' H3 y => ?_⟩
    obtain ⟨T, w', rfl, nT, rfl, y⟩ := y
    have := y xs ((g.trans r2.le).sql e2)
    rw [hw] at this
    cases this
    exact r2.pair nT (.int (i : Int)) (iw.mono g)
/-- pairs of two lists' items, as long as the shorter one -/
def zipD : List D → List D → List D
  | x :: xs, y :: ys => .tup [x, y] :: zipD xs ys
  | _, _ => []
theorem zipD_length : ∀ xs ys : List D, (zipD xs ys).length = min xs.length ys.length
  | [], ys => by simp [zipD]
  | x :: xs, [] => by simp [zipD]
  | x :: xs, y :: ys => by
    simp only [zipD, List.length_cons, zipD_length xs ys]
    omega
theorem zipD_get : ∀ {xs ys : List D} {i : Nat} {d : D}, (zipD xs ys)[i]? = some d → ∃ x y, xs[i]? = some x ∧ ys[i]? = some y ∧ d = .tup [x, y]
  | [], _, _, _, h => by simp [zipD] at h
  | _ :: _, [], _, _, h => by simp [zipD] at h
  | x :: xs, y :: ys, 0, d, h => ⟨x, y, rfl, rfl, by simpa [zipD] using h.symm⟩
  | x :: xs, y :: ys, i + 1, d, h => by
    have h' : (zipD xs ys)[i]? = some d := by simpa [zipD] using h
    obtain ⟨a, b, h1, h2, h3⟩ := zipD_get h'
    exact ⟨a, b, by simpa using h1, by simpa using h2, h3⟩
theorem ei_zip {tl : TA} {Ψ : List D → Ms → Prop} (h : EA K tl Γ M fun zs M1 => ∃ x y xs ys, zs = [x, y] ∧ (x = .lst xs ∨ x = .rol xs) ∧ (y = .lst ys ∨ y = .rol ys) ∧ Ψ (zipD xs ys) M1) : EI K (iZip K tl) Γ M Ψ := fun σ F H S R Rw q =>
  h σ F H S R _ fun vs F1 H1 es M1 x1 r1 i1 ⟨x, y, xs, ys, e0, e, e', h1⟩ => by
    subst e0
    cases i1 with
    | @cons v _ _ _ i1 i2 =>
    cases i2 with
    | @cons w _ _ _ i2 i3 =>
    cases i3
    have key : ∀ {v : V} {x : D} {ds : List D}, (x = .lst ds ∨ x = .rol ds) → Is K F1 v x → ∃ a xs, v = .ref a ∧ SqL K F1 a xs ∧ IsL K F1 xs ds := by
      intro v x ds e i1
      rcases e with e | e
      · subst e
        cases i1 with
        | lst h1 h2 => exact ⟨_, _, rfl, .inl (.inl h1), h2⟩
      · subst e
        cases i1 with
        | rol h1 h2 => exact ⟨_, _, rfl, h1, h2⟩
    obtain ⟨a, us, e1, e2, e3⟩ := key e i1
    obtain ⟨b, ws, f1, f2, f3⟩ := key e' i2
    subst e1 f1
    refine ⟨a, b, us, ws, rfl, r1.le.sql e2, r1.le.sql f2, q _ F1 H1 (zipD xs ys) M1 x1 r1 ⟨fun F2 H2 M2 g r2 => ⟨us, ws, (g.trans r2.le).sql e2, (g.trans r2.le).sql f2, ?_⟩, fun F2 H2 M2 i d g r2 hx => ?_⟩ h1⟩
    · rw [zipD_length, e3.length, f3.length]
      omega
    · obtain ⟨x, y, hx2, hy, rfl⟩ := zipD_get hx
      obtain ⟨w1, hw1, iw1⟩ := e3.get hx2
      obtain ⟨w2, hw2, iw2⟩ := f3.get hy
      refine ⟨⟨us, ws, w1, w2, (g.trans r2.le).sql e2, (g.trans r2.le).sql f2, hw1, hw2⟩, fun v' H3 z => ?_⟩
      obtain ⟨T, u1, u2, rfl, nT, rfl, z1, z2⟩ := z
      have k1 := z1 us ((g.trans r2.le).sql e2)
      have k2 := z2 ws ((g.trans r2.le).sql f2)
      rw [hw1] at k1
      rw [hw2] at k2
      cases k1
      cases k2
      exact r2.pair nT (iw1.mono g) (iw2.mono g)

/-! ### operators -/
theorem OpR.or {X : Cx} {f : Value → Value → Sem Value} {r r' : R2} (h : OpR X f r) (h' : OpR X f r') : OpR X f (fun x y H Q => r x y H Q ∨ r' x y H Q) := by
  intro pins s σ H x y v u Q I rx ry q
  rcases q with q | q
  · exact h pins s σ H x y v u Q I rx ry q
  · exact h' pins s σ H x y v u Q I rx ry q
theorem r2_inl (h : R2' K r x y M Φ) : R2' K (fun x y H Q => r x y H Q ∨ r' x y H Q) x y M Φ := fun F H R u v i1 i2 Q q => .inl (h F H R u v i1 i2 Q q)
theorem r2_inr (h : R2' K r' x y M Φ) : R2' K (fun x y H Q => r x y H Q ∨ r' x y H Q) x y M Φ := fun F H R u v i1 i2 Q q => .inr (h F H R u v i1 i2 Q q)
theorem r2_I0 {g : Int → Int → V} (i j : Int) (hx : x = .int i) (hy : y = .int j) (hs : isSc (g i j) = true) (h : Φ (sc (g i j)) M) : R2' K (rI0 g) x y M Φ := fun F H R u v i1 i2 Q q => by
  subst hx hy
  cases i1
  cases i2
  exact ⟨i, j, rfl, rfl, q.here R (is_sc hs) h⟩
theorem r2_I {C : Int → Int → Prop} {g : Int → Int → V} (i j : Int) (hx : x = .int i) (hy : y = .int j) (hc : C i j) (hs : isSc (g i j) = true) (h : Φ (sc (g i j)) M) : R2' K (rI C g) x y M Φ := fun F H R u v i1 i2 Q q => by
  subst hx hy
  cases i1
  cases i2
  exact ⟨i, j, rfl, rfl, hc, q.here R (is_sc hs) h⟩
/-- + of whatever can be added -/
def rStr : R2 := fun x y H Q => ∃ i j, x = .str i ∧ y = .str j ∧ i.length + j.length ≤ sizeLine ∧ Q (.str (i ++ j)) H
def rAdd (K : PySem.W.Frag) : R2 := fun x y H Q => rI0 (fun i j => .int (i + j)) x y H Q ∨ (rCat x y H Q ∨ (rStr x y H Q ∨ rCatT K x y H Q))
theorem op_addA {X : Cx} : OpR X (binaryOp .Add) (rAdd X.K) := op_add.or (op_cat.or (OpR.or op_add_str op_catT))
def rMulA : R2 := fun x y H Q => rI CMul (fun i j => .int (i * j)) x y H Q ∨ (rI CMulW (fun i j => .int (i * j)) x y H Q ∨ rRep x y H Q)
theorem op_mulA {X : Cx} : OpR X (binaryOp .Mult) rMulA := op_mul.or (op_mulW.or op_rep)
def rEqA (K : PySem.W.Frag) : R2 := fun x y H Q => rEq x y H Q ∨ rEqD K x y H Q
def rNeA (K : PySem.W.Frag) : R2 := fun x y H Q => rNe x y H Q ∨ rNeD K x y H Q
theorem op_eqA {X : Cx} (hu : X.A.units + 64 < cLine) : OpR X (compareOp .Eq) (rEqA X.K) := op_eq.or (op_eqD hu)
theorem op_neA {X : Cx} (hu : X.A.units + 64 < cLine) : OpR X (compareOp .NotEq) (rNeA X.K) := op_ne.or (op_neD hu)

theorem r2_add (i j : Int) (hx : x = .int i) (hy : y = .int j) (h : Φ (.int (i + j)) M) : R2' K (rAdd K) x y M Φ := r2_inl (r2_I0 i j hx hy rfl h)
theorem r2_mul (i j : Int) (hx : x = .int i) (hy : y = .int j) (hc : CMul i j) (h : Φ (.int (i * j)) M) : R2' K rMulA x y M Φ := r2_inl (r2_I i j hx hy hc rfl h)
theorem r2_mulW (i j : Int) (hx : x = .int i) (hy : y = .int j) (hc : CMulW i j) (h : Φ (.int (i * j)) M) : R2' K rMulA x y M Φ := r2_inr (r2_inl (r2_I i j hx hy hc rfl h))
theorem r2_sub (i j : Int) (hx : x = .int i) (hy : y = .int j) (h : Φ (.int (i - j)) M) : R2' K (rI0 fun i j => .int (i - j)) x y M Φ := r2_I0 i j hx hy rfl h
theorem r2_mod (i j : Int) (hx : x = .int i) (hy : y = .int j) (hc : 0 < j) (h : Φ (.int (i % j)) M) : R2' K (rI (fun _ j => 0 < j) fun i j => .int (i % j)) x y M Φ := r2_I i j hx hy hc rfl h
theorem r2_fdiv (i j : Int) (hx : x = .int i) (hy : y = .int j) (hc : CDiv i j) (h : Φ (.int (i / j)) M) : R2' K (rI CDiv fun i j => .int (i / j)) x y M Φ := r2_I i j hx hy hc rfl h
theorem r2_pow (i j : Int) (hx : x = .int i) (hy : y = .int j) (hc : CPow i j) (h : Φ (.int (i ^ j.toNat)) M) : R2' K (rI CPow fun i j => .int (i ^ j.toNat)) x y M Φ := r2_I i j hx hy hc rfl h
theorem r2_lt (i j : Int) (hx : x = .int i) (hy : y = .int j) (h : Φ (.bl (decide (i < j))) M) : R2' K (rI0 fun i j => .bl (decide (i < j))) x y M Φ := r2_I0 i j hx hy rfl h
theorem r2_le (i j : Int) (hx : x = .int i) (hy : y = .int j) (h : Φ (.bl (decide (i ≤ j))) M) : R2' K (rI0 fun i j => .bl (decide (i ≤ j))) x y M Φ := r2_I0 i j hx hy rfl h
theorem r2_gt (i j : Int) (hx : x = .int i) (hy : y = .int j) (h : Φ (.bl (decide (j < i))) M) : R2' K (rI0 fun i j => .bl (decide (j < i))) x y M Φ := r2_I0 i j hx hy rfl h
theorem r2_ge (i j : Int) (hx : x = .int i) (hy : y = .int j) (h : Φ (.bl (decide (j ≤ i))) M) : R2' K (rI0 fun i j => .bl (decide (j ≤ i))) x y M Φ := r2_I0 i j hx hy rfl h
theorem r2_eqI (i j : Int) (hx : x = .int i) (hy : y = .int j) (h : Φ (.bl (decide (i = j))) M) : R2' K (rEqA K) x y M Φ := r2_inl fun F H R u v i1 i2 Q q => by
  subst hx hy
  cases i1
  cases i2
  have e : decide (V.int i = V.int j) = decide (i = j) := by simp
  exact ⟨rfl, by rw [e]; exact q.here R (.bl _) h⟩
theorem r2_neI (i j : Int) (hx : x = .int i) (hy : y = .int j) (h : Φ (.bl (!decide (i = j))) M) : R2' K (rNeA K) x y M Φ := r2_inl fun F H R u v i1 i2 Q q => by
  subst hx hy
  cases i1
  cases i2
  have e : decide (V.int i = V.int j) = decide (i = j) := by simp
  exact ⟨rfl, by rw [e]; exact q.here R (.bl _) h⟩
theorem r2_eqB (i j : Bool) (hx : x = .bl i) (hy : y = .bl j) (h : Φ (.bl (decide (i = j))) M) : R2' K (rEqA K) x y M Φ := r2_inl fun F H R u v i1 i2 Q q => by
  subst hx hy
  cases i1
  cases i2
  have e : decide (V.bl i = V.bl j) = decide (i = j) := by simp
  exact ⟨rfl, by rw [e]; exact q.here R (.bl _) h⟩
theorem r2_neB (i j : Bool) (hx : x = .bl i) (hy : y = .bl j) (h : Φ (.bl (!decide (i = j))) M) : R2' K (rNeA K) x y M Φ := r2_inl fun F H R u v i1 i2 Q q => by
  subst hx hy
  cases i1
  cases i2
  have e : decide (V.bl i = V.bl j) = decide (i = j) := by simp
  exact ⟨rfl, by rw [e]; exact q.here R (.bl _) h⟩
theorem r2_eqS (i j : Str) (hx : x = .str i) (hy : y = .str j) (h : Φ (.bl (decide (i = j))) M) : R2' K (rEqA K) x y M Φ := r2_inl fun F H R u v i1 i2 Q q => by
  subst hx hy
  cases i1
  cases i2
  have e : decide (V.str i = V.str j) = decide (i = j) := by simp
  exact ⟨rfl, by rw [e]; exact q.here R (.bl _) h⟩
theorem r2_neS (i j : Str) (hx : x = .str i) (hy : y = .str j) (h : Φ (.bl (!decide (i = j))) M) : R2' K (rNeA K) x y M Φ := r2_inl fun F H R u v i1 i2 Q q => by
  subst hx hy
  cases i1
  cases i2
  have e : decide (V.str i = V.str j) = decide (i = j) := by simp
  exact ⟨rfl, by rw [e]; exact q.here R (.bl _) h⟩
theorem r1_neg (i : Int) (hx : x = .int i) (h : Φ (.int (-i)) M) : R1' K (rU fun i => .int (-i)) x M Φ := fun F H R u i1 Q q => by
  subst hx
  cases i1
  exact ⟨i, rfl, q.here R (.int _) h⟩

/-! ### == at depth -/
mutual
def D.py : D → PyData
  | .bl b => .bool b | .int i => .int i | .str x => .str x | .lst xs => .list (pyL xs) | .tup xs => .tuple (pyL xs) | .rol xs => .list (pyL xs)
  | .non => .none | .ty _ => .none | .ptr _ => .none | .dK _ => .none | .dT _ => .none | .ins _ _ => .none
def pyL : List D → List PyData
  | [] => []
  | d :: ds => d.py :: pyL ds
end
mutual
def D.plain : D → Bool
  | .bl _ => true | .int _ => true | .str _ => true | .non => true | .lst xs => plainL xs | .tup xs => plainL xs | .rol xs => plainL xs
  | .ty _ => false | .ptr _ => false | .dK _ => false | .dT _ => false | .ins _ _ => false
def plainL : List D → Bool
  | [] => true
  | d :: ds => d.plain && plainL ds
end
mutual
theorem is_dp : ∀ (d : D) (v : V), d.plain = true → Is K F v d → Dp K F v d.py
  | .non, _, _, h => by cases h; exact .non
  | .bl b, _, _, h => by cases h; exact .bl b
  | .int i, _, _, h => by cases h; exact .int i
  | .str x, _, _, h => by cases h; exact .str x
  | .ty _, _, h, _ => by cases h
  | .ptr _, _, h, _ => by cases h
  | .dK _, _, h, _ => by cases h
  | .dT _, _, h, _ => by cases h
  | .ins _ _, _, h, _ => by cases h
  | .lst ds, _, hp, h => by
    cases h with
    | lst h1 h2 => exact .lst (.inl (.inl h1)) (isl_dp ds _ hp h2)
  | .tup ds, _, hp, h => by
    cases h with
    | tup h1 h2 => exact .tup (.inl (.inl h1)) (isl_dp ds _ hp h2)
  | .rol ds, _, hp, h => by
    cases h with
    | rol h1 h2 => exact .lst h1 (isl_dp ds _ hp h2)
theorem isl_dp : ∀ (ds : List D) (vs : List V), plainL ds = true → IsL K F vs ds → DpAll K F vs (pyL ds)
  | [], _, _, h => by cases h; exact .nil
  | d :: ds, _, hp, h => by
    have hp' : (d.plain && plainL ds) = true := hp
    rw [Bool.and_eq_true] at hp'
    cases h with
    | cons h1 h2 => exact .cons (is_dp d _ hp'.1 h1) (isl_dp ds _ hp'.2 h2)
end
/-- what reads as plain data -/
inductive PR (M : Ms) : D → PyData → Prop
  | of {d : D} : d.plain = true → PR M d d.py
  | own {p : Addr} {ds : List D} : (p, O.lst ds) ∈ M → plainL ds = true → PR M (.ptr p) (.list (pyL ds))
mutual
theorem dp_mono (g : Gr F F') : ∀ (d : PyData) (v : V), Dp K F v d → Dp K F' v d
  | .none, _, h => by cases h; exact .non
  | .bool b, _, h => by cases h; exact .bl b
  | .int i, _, h => by cases h; exact .int i
  | .str x, _, h => by cases h; exact .str x
  | .list ds, _, h => by
    cases h with
    | lst h1 h2 => exact .lst (g.sql h1) (dpa_mono g ds _ h2)
  | .tuple ds, _, h => by
    cases h with
    | tup h1 h2 => exact .tup (h1.elim (fun z => .inl (g.rd z)) .inr) (dpa_mono g ds _ h2)
  | .dict _, _, h => by cases h
theorem dpa_mono (g : Gr F F') : ∀ (ds : List PyData) (vs : List V), DpAll K F vs ds → DpAll K F' vs ds
  | [], _, h => by cases h; exact .nil
  | d :: ds, _, h => by
    cases h with
    | cons h1 h2 => exact .cons (dp_mono g d _ h1) (dpa_mono g ds _ h2)
end
theorem PR.dp {p : PyData} (l : PR M x p) (r : Rep K F H M) (i : Is K F v x) : Dp K H v p := by
  cases l with
  | of h => exact dp_mono r.le _ _ (is_dp x v h i)
  | own hm hp =>
    cases i
    obtain ⟨_, ho, h1, h2⟩ := r.own _ hm
    cases h2 with
    | lst h2 => exact .lst (.inl (.inl h1)) (dpa_mono r.le _ _ (isl_dp _ _ hp h2))
theorem r2_eqD {p q : PyData} (hx : PR M x p) (hy : PR M y q) (sp : SeqAt.shaped p = true) (sq : SeqAt.shaped q = true) (h : Φ (.bl (PyData.eqv p q)) M) : R2' K (rEqA K) x y M Φ := r2_inr fun F H R u v i1 i2 Q k =>
  ⟨p, q, hx.dp R i1, hy.dp R i2, sp, sq, k.here R (.bl _) h⟩
theorem r2_neD {p q : PyData} (hx : PR M x p) (hy : PR M y q) (sp : SeqAt.shaped p = true) (sq : SeqAt.shaped q = true) (h : Φ (.bl (!PyData.eqv p q)) M) : R2' K (rNeA K) x y M Φ := r2_inr fun F H R u v i1 i2 Q k =>
  ⟨p, q, hx.dp R i1, hy.dp R i2, sp, sq, k.here R (.bl _) h⟩
theorem pyL_ints : ∀ ns : List Int, pyL (ns.map D.int) = ns.map PyData.int
  | [] => rfl
  | n :: ns => by rw [List.map_cons, List.map_cons, pyL, pyL_ints ns]; rfl
theorem plainL_ints : ∀ ns : List Int, plainL (ns.map D.int) = true
  | [] => rfl
  | n :: ns => by rw [List.map_cons, plainL, plainL_ints ns]; rfl
theorem shaped_ints (ns : List Int) : SeqAt.shaped (.list (ns.map PyData.int)) = true := by
  have h1 : ∀ ns : List Int, PyData.canLayAll0 (ns.map PyData.int) = true := fun ns => by
    induction ns with
    | nil => rfl
    | cons n ns ih => rw [List.map_cons, PyData.canLayAll0, ih]; rfl
  have h2 : ∀ ns : List Int, PyData.depthAll (ns.map PyData.int) = 0 := fun ns => by
    induction ns with
    | nil => rfl
    | cons n ns ih => rw [List.map_cons, PyData.depthAll, ih]; rfl
  unfold SeqAt.shaped
  rw [PyData.canLay0, h1, PyData.depth, h2]
  rfl
theorem eqv_ints : ∀ ns ms : List Int, PyData.eqvAll (ns.map PyData.int) (ms.map PyData.int) = decide (ns = ms)
  | [], [] => rfl
  | [], _ :: _ => rfl
  | _ :: _, [] => rfl
  | n :: ns, m :: ms => by
    rw [List.map_cons, List.map_cons, PyData.eqvAll, eqv_ints ns ms, PyData.eqv, Bool.eq_iff_iff]
    simp
/-- two lists of ints, however they are held -/
inductive RI (M : Ms) : D → List Int → Prop
  | lst (ns : List Int) : RI M (.lst (ns.map .int)) ns
  | nil : RI M (.lst []) []
  | own {p : Addr} {ns : List Int} : (p, O.lst (ns.map .int)) ∈ M → RI M (.ptr p) ns
theorem RI.pr {ns : List Int} (h : RI M x ns) : PR M x (.list (ns.map PyData.int)) := by
  cases h with
  | lst =>
    have h := PR.of (M := M) (d := .lst (ns.map .int)) (plainL_ints ns)
    rw [D.py, pyL_ints] at h
    exact h
  | nil => exact PR.of (M := M) (d := .lst []) rfl
  | own hm =>
    have h := PR.own hm (plainL_ints ns)
    rw [pyL_ints] at h
    exact h
theorem r2_neLI (ns ms : List Int) (hx : RI M x ns) (hy : RI M y ms) (h : Φ (.bl (!decide (ns = ms))) M) : R2' K (rNeA K) x y M Φ :=
  r2_neD hx.pr hy.pr (shaped_ints _) (shaped_ints _) (by rw [PyData.eqv, eqv_ints]; exact h)
theorem r2_eqLI (ns ms : List Int) (hx : RI M x ns) (hy : RI M y ms) (h : Φ (.bl (decide (ns = ms))) M) : R2' K (rEqA K) x y M Φ :=
  r2_eqD hx.pr hy.pr (shaped_ints _) (shaped_ints _) (by rw [PyData.eqv, eqv_ints]; exact h)
end
end DL


set_option Elab.async false
set_option linter.all false
set_option maxRecDepth 100000
set_option maxHeartbeats 2000000
namespace DL
open PySem PySem.Spec PyProof.Rows L2 StX

section
variable {K : PySem.W.Frag} {F H F1 H1 F2 H2 F' H' : Hp} {M M1 M2 M' A B : Ms} {σ : L2.St} {Γ Γ' : Gm} {Φ Ψ : D → Ms → Prop} {Q : VK} {ta tb tc te : TE} {t u : TT} {ts tu tz : TS} {r r' : R2} {d x y : D} {v : V} {E E' : DE}

theorem r2_frz (h : R2' K r x y M (NP fun o M' => Φ o.d M')) : R2' K r x y M Φ := fun F H R u v i1 i2 Q q => h F H R u v i1 i2 Q q.frz
theorem r2_own (h : R2' K r x y M (NP fun o M' => ∀ p, Φ (.ptr p) ((p, o) :: M'))) : R2' K r x y M Φ := fun F H R u v i1 i2 Q q => h F H R u v i1 i2 Q q.own
theorem rc_frz {r : List V → Hp → VK → Prop} {xs : List D} (h : RC' K r xs M (NP fun o M' => Φ o.d M')) : RC' K r xs M Φ := fun F H R u i1 Q q => h F H R u i1 Q q.frz
theorem rc_own {r : List V → Hp → VK → Prop} {xs : List D} (h : RC' K r xs M (NP fun o M' => ∀ p, Φ (.ptr p) ((p, o) :: M'))) : RC' K r xs M Φ := fun F H R u i1 Q q => h F H R u i1 Q q.own
theorem rs_frz {r : V → Option Int → Option Int → Hp → VK → Prop} {lo hi : Option Int} (h : RS' K r x lo hi M (NP fun o M' => Φ o.d M')) : RS' K r x lo hi M Φ := fun F H R u i1 Q q => h F H R u i1 Q q.frz
theorem rs_own {r : V → Option Int → Option Int → Hp → VK → Prop} {lo hi : Option Int} (h : RS' K r x lo hi M (NP fun o M' => ∀ p, Φ (.ptr p) ((p, o) :: M'))) : RS' K r x lo hi M Φ := fun F H R u i1 Q q => h F H R u i1 Q q.own

/-! ### places -/
theorem isl_atI {vs : List V} {ds : List D} {i : Int} {d : D} (h : IsL K F vs ds) (e : atI ds i = some d) : ∃ v, atI vs i = some v ∧ Is K F v d := by
  unfold atI at e ⊢
  rw [← h.length] at e
  cases k : ixN vs.length i with
  | none => rw [k] at e; cases e
  | some j =>
    rw [k] at e
    obtain ⟨v, h1, h2⟩ := h.get (show ds[j]? = some d from e)
    exact ⟨v, h1, h2⟩
theorem r2_ixL {ds : List D} (i : Int) (hx : LQ M x ds) (hy : y = .int i) (he : atI ds i = some d) (h : Φ d M) : R2' K (rIx K) x y M Φ := fun F H R u v i1 i2 Q q => by
  subst hy
  cases i2
  obtain ⟨a, vs, rfl, e1, e2⟩ := hx.at R i1
  obtain ⟨w, hw, iw⟩ := isl_atI e2 he
  exact .inl ⟨a, vs, i, w, rfl, rfl, e1, hw, q.here R iw h⟩
theorem r2_ixT {ds : List D} (i : Int) (hx : x = .tup ds) (hy : y = .int i) (he : atI ds i = some d) (h : Φ d M) : R2' K (rIx K) x y M Φ := fun F H R u v i1 i2 Q q => by
  subst hx hy
  cases i2
  cases i1 with
  | tup e1 e2 =>
    obtain ⟨w, hw, iw⟩ := isl_atI e2 he
    exact .inr (.inl ⟨_, _, i, w, rfl, rfl, R.le.sqt e1, hw, q.here R iw h⟩)
theorem r2_ixS (z : Str) (i : Int) (c : Nat) (hx : x = .str z) (hy : y = .int i) (hz : z.length ≤ 100000) (he : atI z.cps.toList i = some c) (h : Φ (.str ⟨#[c]⟩) M) : R2' K (rIx K) x y M Φ := fun F H R u v i1 i2 Q q => by
  subst hx hy
  cases i1
  cases i2
  exact .inr (.inr ⟨z, i, c, rfl, rfl, sz_of hz, he, q.here R (.str _) h⟩)
theorem atI_ints {ns : List Int} {k : Nat} {n : Int} (e : ns[k]? = some n) : atI (ns.map D.int) (k : Int) = some (.int n) := atI_nat (by rw [List.getElem?_map, e]; rfl)
theorem atI_of {ds : List D} {i : Int} {k : Nat} {d : D} (e : i = (k : Int)) (h : ds[k]? = some d) : atI ds i = some d := by
  rw [e]
  exact atI_nat h

/-! ### slices -/
def cutD (xs : List D) (lo hi : Option Int) : List D := (xs.drop (HT.sIx xs.length 0 lo)).take (HT.sIx xs.length xs.length hi - HT.sIx xs.length 0 lo)
theorem isl_cut {vs : List V} {ds : List D} (h : IsL K F vs ds) (lo hi : Option Int) : IsL K F (cutV vs lo hi) (cutD ds lo hi) := by
  unfold cutV cutD
  rw [h.length]
  exact (h.drop _).take _
theorem eo_none {Φ : Option Int → Ms → Prop} (h : Φ none M) : EO K tNoPart Γ M Φ := fun σ F H S R Q q => q none F H M .refl R h
theorem eo_some {Φ : Option Int → Ms → Prop} (h : EV K ta Γ M fun d M1 => ∃ i, d = .int i ∧ Φ (some i) M1) : EO K (tPart ta) Γ M Φ := fun σ F H S R Q q =>
  h σ F H S R _ fun v F1 H1 d M1 x1 r1 i1 ⟨i, e, h1⟩ => by
    subst e
    cases i1
    exact ⟨i, rfl, q (some i) F1 H1 M1 x1 r1 h1⟩
theorem ev_sl {r : V → Option Int → Option Int → Hp → VK → Prop} {tl th : TO} (h : EV K te Γ M fun x M1 => EO K tl Γ M1 fun lo M2 => EO K th Γ M2 fun hi M3 => RS' K r x lo hi M3 Φ) : EV K (tSl r te tl th) Γ M Φ := fun σ F H S R Q q =>
  h σ F H S R _ fun v F1 H1 d M1 x1 r1 i1 h1 => h1 σ F1 H1 (S.mono x1.f) r1 _ fun lo F2 H2 M2 x2 r2 h2 => h2 σ F2 H2 (S.mono (x1.trans x2).f) r2 _ fun hi F3 H3 M3 x3 r3 h3 =>
    h3 F3 H3 r3 v (i1.mono (x2.trans x3).f) Q (q.trans ((x1.trans x2).trans x3))
/-- slices of lists, tuples, texts -/
def rSlA (K : PySem.W.Frag) : V → Option Int → Option Int → Hp → VK → Prop := fun x lo hi H Q => rSlL K x lo hi H Q ∨ (rSlT K x lo hi H Q ∨ rSlS x lo hi H Q)
theorem SlR.or {X : Cx} {r r' : V → Option Int → Option Int → Hp → VK → Prop} (h : SlR X r) (h' : SlR X r') : SlR X (fun x lo hi H Q => r x lo hi H Q ∨ r' x lo hi H Q) := by
  intro pins s σ H x v vl vu lo hi sl Q I rx hs pl pu q
  rcases q with q | q
  · exact h pins s σ H x v vl vu lo hi sl Q I rx hs pl pu q
  · exact h' pins s σ H x v vl vu lo hi sl Q I rx hs pl pu q
theorem sl_any {X : Cx} : SlR X (rSlA X.K) := sl_list.or (sl_tup.or sl_str)
theorem rs_list {ds : List D} {lo hi : Option Int} {Φ : O → Ms → Prop} (hx : LQ M x ds) (h : Φ (.lst (cutD ds lo hi)) M) : RS' K (rSlA K) x lo hi M (NP Φ) := fun F H R u i1 Q q => by
  obtain ⟨a, vs, rfl, e1, e2⟩ := hx.at R i1
  exact .inl ⟨a, vs, rfl, e1, fun p hp => q.made R hp (.lst (isl_cut e2 lo hi)) h⟩
theorem rs_str (z : Str) {lo hi : Option Int} (hx : x = .str z) (hz : z.length ≤ 100000) (h : Φ (.str (cutS z lo hi)) M) : RS' K (rSlA K) x lo hi M Φ := fun F H R u i1 Q q => by
  subst hx
  cases i1
  exact .inr (.inr ⟨z, rfl, sz_of hz, q.here R (.str _) h⟩)
theorem cutD_from {ds : List D} {k : Nat} (h : k ≤ ds.length) : cutD ds (some (k : Int)) none = ds.drop k := by
  unfold cutD
  rw [HT.sIx_nat, HT.sIx_none, Nat.min_eq_left h]
  exact List.take_of_length_le (by rw [List.length_drop]; exact Nat.le_refl _)
theorem cutD_to {ds : List D} {k : Nat} (h : k ≤ ds.length) : cutD ds none (some (k : Int)) = ds.take k := by
  unfold cutD
  rw [HT.sIx_nat, HT.sIx_none, Nat.min_eq_left h, Nat.sub_zero, List.drop_zero]

/-! ### lists put together -/
theorem r2_cat {xs ys : List D} {Φ : O → Ms → Prop} (hx : LR M x xs) (hy : LR M y ys) (hz : xs.length + ys.length ≤ 100000) (h : Φ (.lst (xs ++ ys)) M) : R2' K (rAdd K) x y M (NP Φ) := r2_inr (r2_inl fun F H R u v i1 i2 Q q => by
  obtain ⟨a, us, rfl, e1, e2⟩ := hx.at R i1
  obtain ⟨b, vs, rfl, f1, f2⟩ := hy.at R i2
  exact ⟨a, b, us, vs, rfl, rfl, e1, f1, by rw [e2.length, f2.length]; exact sz_of hz, fun p hp => q.made R hp (.lst (e2.append f2)) h⟩)
theorem r2_addS (i j : Str) (hx : x = .str i) (hy : y = .str j) (hz : i.length + j.length ≤ 100000) (h : Φ (.str (i ++ j)) M) : R2' K (rAdd K) x y M Φ := r2_inr (r2_inr (r2_inl fun F H R u v i1 i2 Q q => by
  subst hx hy
  cases i1
  cases i2
  exact ⟨i, j, rfl, rfl, sz_of hz, q.here R (.str _) h⟩))
theorem isl_rep {vs : List V} {ds : List D} (h : IsL K F vs ds) : ∀ n : Nat, IsL K F (List.replicate n vs).flatten (List.replicate n ds).flatten
  | 0 => .nil
  | n + 1 => by
    rw [List.replicate_succ, List.replicate_succ, List.flatten_cons, List.flatten_cons]
    exact h.append (isl_rep h n)
theorem r2_rep {xs : List D} (k : Int) {Φ : O → Ms → Prop} (hx : LR M x xs) (hy : y = .int k) (hk : -1000000000 ≤ k ∧ k ≤ 1000000000) (hz : xs.length * k.toNat ≤ 100000) (h : Φ (.lst (List.replicate k.toNat xs).flatten) M) : R2' K rMulA x y M (NP Φ) := r2_inr (r2_inr fun F H R u v i1 i2 Q q => by
  subst hy
  cases i2
  obtain ⟨a, us, rfl, e1, e2⟩ := hx.at R i1
  exact ⟨a, k, us, rfl, rfl, e1, by omega, by omega, by rw [e2.length]; exact sz_of hz, fun p hp => q.made R hp (.lst (isl_rep e2 _)) h⟩)

/-! ### built-in functions of lists -/
/-- how long a thing is -/
inductive LN (M : Ms) : D → Nat → Prop
  | sq {d : D} {ds : List D} : SQ M d ds → LN M d ds.length
  | str (z : Str) : z.length ≤ 100000 → LN M (.str z) z.length
theorem rc_len (x : D) (n : Nat) {xs : List D} (e : xs = [x]) (l : LN M x n) (h : Φ (.int (n : Int)) M) : RC' K (fun xs H Q => ∃ x n, xs = [x] ∧ LenV K x H n ∧ Q (.int n) H) xs M Φ := fun F H R us i1 Q q => by
  subst e
  cases i1 with
  | @cons v _ _ _ i1 i2 =>
    cases i2
    refine ⟨v, n, rfl, ?_, q.here R (.int _) h⟩
    cases l with
    | sq l =>
      obtain ⟨a, vs, rfl, e1, e2⟩ := l.at R i1
      rcases e1 with e1 | e1
      · exact .inl ⟨vs, e1, e2.length.symm⟩
      · exact .inr ⟨vs, e1, e2.length.symm⟩
    | str z hz =>
      cases i1
      exact ⟨sz_of hz, rfl⟩
/-- a list of ints that is read -/
theorem LQ.ints {ns : List Int} (l : LQ M x (ns.map .int)) (r : Rep K F H M) (i : Is K F v x) : ∃ a, v = .ref a ∧ SqL K H a (ns.map V.int) := by
  obtain ⟨a, vs, e1, e2, e3⟩ := l.at r i
  rw [isl_ints' ns vs e3] at e2
  exact ⟨a, e1, e2⟩
theorem rc_sum (x : D) (ns : List Int) {xs : List D} (e : xs = [x]) (l : LQ M x (ns.map .int)) (h : Φ (.int ns.sum) M) : RC' K (rSum K) xs M Φ := fun F H R us i1 Q q => by
  subst e
  cases i1 with
  | @cons v _ _ _ i1 i2 =>
    cases i2
    obtain ⟨a, rfl, e1⟩ := l.ints R i1
    exact ⟨a, ns, rfl, e1, q.here R (.int _) h⟩
theorem rc_all (x : D) (bs : List Bool) {xs : List D} (e : xs = [x]) (l : LQ M x (bs.map .bl)) (h : Φ (.bl (bs.all id)) M) : RC' K (rAll K) xs M Φ := fun F H R us i1 Q q => by
  subst e
  cases i1 with
  | @cons v _ _ _ i1 i2 =>
    cases i2
    obtain ⟨a, vs, rfl, e1, e2⟩ := l.at R i1
    rw [isl_bls' bs vs e2] at e1
    exact ⟨a, bs, rfl, e1, q.here R (.bl _) h⟩
theorem rc_max (x : D) (ns : List Int) {xs : List D} (e : xs = [x]) (l : LQ M x (ns.map .int)) (hn : ns ≠ []) (h : ∀ m, m ∈ ns → (∀ y, y ∈ ns → y ≤ m) → Φ (.int m) M) : RC' K (rMax K) xs M Φ := fun F H R us i1 Q q => by
  subst e
  cases i1 with
  | @cons v _ _ _ i1 i2 =>
    cases i2
    obtain ⟨a, rfl, e1⟩ := l.ints R i1
    exact ⟨a, ns, rfl, e1, List.length_pos_iff.mpr hn, fun m h1 h2 => q.here R (.int _) (h m h1 h2)⟩
theorem rc_min (x : D) (ns : List Int) {xs : List D} (e : xs = [x]) (l : LQ M x (ns.map .int)) (hn : ns ≠ []) (h : ∀ m, m ∈ ns → (∀ y, y ∈ ns → m ≤ y) → Φ (.int m) M) : RC' K (rMin K) xs M Φ := fun F H R us i1 Q q => by
  subst e
  cases i1 with
  | @cons v _ _ _ i1 i2 =>
    cases i2
    obtain ⟨a, rfl, e1⟩ := l.ints R i1
    exact ⟨a, ns, rfl, e1, List.length_pos_iff.mpr hn, fun m h1 h2 => q.here R (.int _) (h m h1 h2)⟩
theorem rc_max2 (i j : Int) {xs : List D} (e : xs = [.int i, .int j]) (h : Φ (.int (if j > i then j else i)) M) : RC' K (fun xs H Q => ∃ i j, xs = [.int i, .int j] ∧ Q (.int (if j > i then j else i)) H) xs M Φ := fun F H R us i1 Q q => by
  subst e
  rw [isl_ints' [i, j] us i1]
  exact ⟨i, j, rfl, q.here R (.int _) h⟩
theorem rc_min2 (i j : Int) {xs : List D} (e : xs = [.int i, .int j]) (h : Φ (.int (if j < i then j else i)) M) : RC' K (fun xs H Q => ∃ i j, xs = [.int i, .int j] ∧ Q (.int (if j < i then j else i)) H) xs M Φ := fun F H R us i1 Q q => by
  subst e
  rw [isl_ints' [i, j] us i1]
  exact ⟨i, j, rfl, q.here R (.int _) h⟩
theorem rc_abs (i : Int) {xs : List D} (e : xs = [.int i]) (h : Φ (.int (if i < 0 then -i else i)) M) : RC' K (fun xs H Q => ∃ i, xs = [.int i] ∧ Q (.int (if i < 0 then -i else i)) H) xs M Φ := fun F H R us i1 Q q => by
  subst e
  rw [isl_ints' [i] us i1]
  exact ⟨i, rfl, q.here R (.int _) h⟩
theorem rc_intI (i : Int) {xs : List D} (e : xs = [.int i]) (h : Φ (.int i) M) : RC' K (fun xs H Q => (∃ i, xs = [.int i] ∧ Q (.int i) H) ∨ ∃ k, xs = [.bl k] ∧ Q (.int (if k then 1 else 0)) H) xs M Φ := fun F H R us i1 Q q => by
  subst e
  rw [isl_ints' [i] us i1]
  exact .inl ⟨i, rfl, q.here R (.int _) h⟩
theorem rc_intB (i : Bool) {xs : List D} (e : xs = [.bl i]) (h : Φ (.int (if i then 1 else 0)) M) : RC' K (fun xs H Q => (∃ i, xs = [.int i] ∧ Q (.int i) H) ∨ ∃ k, xs = [.bl k] ∧ Q (.int (if k then 1 else 0)) H) xs M Φ := fun F H R us i1 Q q => by
  subst e
  rw [isl_bls' [i] us i1]
  exact .inr ⟨i, rfl, q.here R (.int _) h⟩
theorem rc_list {ds : List D} (x : D) {xs : List D} {Φ : O → Ms → Prop} (e : xs = [x]) (l : SQ M x ds) (h : Φ (.lst ds) M) : RC' K (fun xs H Q => ∃ p ys, xs = [.ref p] ∧ (SqL K H p ys ∨ SqT K H p ys) ∧ ∀ l, H l = none → Q (.ref l) (upd H l (.lst ys))) xs M (NP Φ) := fun F H R us i1 Q q => by
  subst e
  cases i1 with
  | @cons v _ _ _ i1 i2 =>
    cases i2
    obtain ⟨a, vs, rfl, e1, e2⟩ := l.at R i1
    exact ⟨a, vs, rfl, e1, fun p hp => q.made R hp (.lst e2) h⟩
/-- list(range(..)) -/
theorem isl_rg (a b : Int) : IsL K F (rgV a b) (rngD a (b - a).toNat) := by
  unfold rgV rngD
  generalize (b - a).toNat = n
  have : ∀ l : List Nat, IsL K F (l.map fun i => V.int (a + (i : Nat))) (l.map fun i : Nat => D.int (a + (i : Int))) := fun l => by
    induction l with
    | nil => exact .nil
    | cons n l ih => exact .cons (.int _) ih
  exact this _
theorem en_listRg1 {Φ : O → Ms → Prop} (h : EV K ta Γ M fun d M1 => ∃ n, d = .int n ∧ 0 ≤ n ∧ n ≤ 100000 ∧ Φ (.lst (rngD 0 n.toNat)) M1) : EN K (tLstRg (tRg1 ta)) Γ M Φ := fun σ F H S R Q q =>
  h σ F H S R _ fun v F1 H1 d M1 x1 r1 i1 ⟨n, e, h1, h2, h3⟩ => by
    subst e
    cases i1
    refine ⟨n, rfl, ⟨by omega, by omega, by omega, by omega, by omega⟩, fun p hp => (q.trans x1).made r1 hp (.lst (isl_rg 0 n)) ?_⟩
    rw [Int.sub_zero]
    exact h3
theorem en_listRg2 {Φ : O → Ms → Prop} (h : EV K ta Γ M fun d M1 => EV K tb Γ M1 fun e M2 => ∃ a b, d = .int a ∧ e = .int b ∧ (0 ≤ a ∧ a ≤ 100000 ∧ 0 ≤ b ∧ b ≤ 100000) ∧ Φ (.lst (rngD a (b - a).toNat)) M2) : EN K (tLstRg (tRg2 ta tb)) Γ M Φ := fun σ F H S R Q q =>
  h σ F H S R _ fun v F1 H1 d M1 x1 r1 i1 h1 => h1 σ F1 H1 (S.mono x1.f) r1 _ fun w F2 H2 e M2 x2 r2 i2 ⟨a, b, e1, e2, hb, h2⟩ => by
    subst e1 e2
    cases i1
    cases i2
    exact ⟨a, b, rfl, rfl, ⟨by omega, by omega, by omega, by omega, by omega⟩, fun p hp => (q.trans (x1.trans x2)).made r2 hp (.lst (isl_rg a b)) h2⟩

/-! ### what an owned list does -/
theorem dty_own {p : Addr} {ds : List D} (h : (p, O.lst ds) ∈ M) : DTy K "list" (.ptr p) M := fun F H R v i => by
  cases i
  obtain ⟨_, ho, h1, h2⟩ := R.own _ h
  cases h2 with
  | lst h2 => exact .inl ⟨rfl, _, .inl (.inl h1)⟩
theorem rm_append {p : Addr} {ds : List D} (j : Nat) (y : D) {xs : List D} (hx : x = .ptr p) (e : xs = [y]) (hm : M[j]? = some (p, .lst ds)) (hz : ds.length < 100000) (h : Φ .non (M.set j (p, .lst (ds ++ [y])))) : RM' K rAppend x xs M Φ := fun F H R u us i1 i2 Q q => by
  subst hx e
  cases i1
  cases i2 with
  | @cons v _ _ _ i2 i3 =>
    cases i3
    obtain ⟨_, ho, h1, h2⟩ := R.own _ (List.mem_of_getElem? hm)
    cases h2 with
    | @lst vs _ h2 =>
      obtain ⟨r2, x2⟩ := R.write hm (.lst (h2.append (.cons i2 .nil)))
      exact ⟨p, vs, v, rfl, rfl, h1, by rw [h2.length]; exact sz_lt hz, q _ F _ .non _ x2 r2 .non h⟩
theorem rm_pop0 {p : Addr} {d : D} {ds : List D} (j : Nat) {xs : List D} (hx : x = .ptr p) (e : xs = [.int 0]) (hm : M[j]? = some (p, .lst (d :: ds))) (h : Φ d (M.set j (p, .lst ds))) : RM' K rPopAt x xs M Φ := fun F H R u us i1 i2 Q q => by
  subst hx e
  cases i1
  rw [isl_ints' [0] us i2]
  obtain ⟨_, ho, h1, h2⟩ := R.own _ (List.mem_of_getElem? hm)
  cases h2 with
  | lst h2 =>
    cases h2 with
    | @cons v _ vs _ i3 h2 =>
      obtain ⟨r2, x2⟩ := R.write hm (.lst h2)
      exact ⟨p, v :: vs, 0, 0, v, rfl, rfl, h1, by decide, by decide, seqIndex_of (by decide) (by rw [List.length_cons]; omega), rfl, q _ F _ _ _ x2 r2 i3 h⟩
theorem rm_popAt {p : Addr} {d : D} {ds : List D} (j : Nat) (k : Nat) {xs : List D} (hx : x = .ptr p) (e : xs = [.int (k : Int)]) (hm : M[j]? = some (p, .lst ds)) (hd : ds[k]? = some d) (hk : k ≤ 1000000000) (h : Φ d (M.set j (p, .lst (ds.eraseIdx k)))) : RM' K rPopAt x xs M Φ := fun F H R u us i1 i2 Q q => by
  subst hx e
  cases i1
  rw [isl_ints' [(k : Int)] us i2]
  obtain ⟨_, ho, h1, h2⟩ := R.own _ (List.mem_of_getElem? hm)
  cases h2 with
  | @lst vs _ h2 =>
    obtain ⟨v, hv, iv⟩ := h2.get hd
    obtain ⟨r2, x2⟩ := R.write hm (.lst (h2.eraseIdx k))
    have hlt : k < vs.length := (List.getElem?_eq_some_iff.mp hv).1
    exact ⟨p, vs, (k : Int), k, v, rfl, rfl, h1, by omega, by omega, by rw [seqIndex_of (by omega) (by omega)]; simp, hv, q _ F _ _ _ x2 r2 iv h⟩
theorem eg_setL {own : List Nat} {Ψ : Gm → Ms → Prop} (h : EV K ta Γ M fun o M1 => EV K tb Γ M1 fun i M2 => ∃ (j k : Nat) (p : Addr) (ds : List D), o = .ptr p ∧ i = .int (k : Int) ∧ M2[j]? = some (p, .lst ds) ∧ k < ds.length ∧ Ψ Γ (M2.set j (p, .lst (ds.set k d)))) : EG K (gSub ta tb rSetL) own d Γ M Ψ := fun σ F H v S R i0 Q q =>
  h σ F H S R _ fun o F1 H1 od M1 x1 r1 i1 h1 => h1 σ F1 H1 (S.mono x1.f) r1 _ fun i F2 H2 ie M2 x2 r2 i2 ⟨j, k, p, ds, e1, e2, hm, hk, hq⟩ => by
    subst e1 e2
    cases i1
    cases i2
    obtain ⟨_, ho, h1, h2⟩ := r2.own _ (List.mem_of_getElem? hm)
    cases h2 with
    | @lst vs _ h2 =>
      have x12 := x1.trans x2
      obtain ⟨r3, x3⟩ := r2.write hm (.lst (h2.set (i0.mono x12.f) k))
      refine ⟨p, vs, (k : Int), k, rfl, rfl, h1, ?_, q σ F2 _ Γ _ (x12.trans x3) (S.mono x12.f) r3 ⟨rfl, fun _ _ => rfl⟩ hq⟩
      unfold ixN
      rw [h2.length, if_pos (by omega), if_pos (by omega)]
      simp
end

/-! ### xs[i] op= e -/
/-- xs[i], i from 0 on -/
def rGetL (K : PySem.W.Frag) : V → V → Hp → VK → Prop := fun o i H Q => ∃ (p : Addr) (xs : List V) (k : Nat) (v : V), o = .ref p ∧ i = .int (k : Int) ∧ k < 1000000000 ∧ SqL K H p xs ∧ xs[k]? = some v ∧ Q v H
theorem pget_list {X : Cx} : PGet X (rGetL X.K) := fun pins s σ H o i ov iv Q I ro ri h => by
  obtain ⟨p, xs, k, v, rfl, rfl, hk, hS, hx, q⟩ := h
  cases ro
  obtain ⟨t, rfl⟩ := ri
  obtain ⟨its, r, pl, hz⟩ := I.list hS
  obtain ⟨w, ew, rw'⟩ := r.get hx
  exact wpAny_getItem_list pl.isList (by omega) (by omega) (by simpa using ew) ⟨v, H, I, rw', q⟩
section
variable {K : PySem.W.Frag} {M : Ms} {Γ : Gm} {E : DE} {ta tb te : TE}
theorem es_augL {f : Int → Int → Int} (h : EV K ta Γ M fun o M1 => EV K tb Γ M1 fun i M2 => ∃ (j k : Nat) (p : Addr) (ds : List D) (a : Int), o = .ptr p ∧ i = .int (k : Int) ∧ M2[j]? = some (p, .lst ds) ∧ k < 1000000000 ∧ ds[k]? = some (.int a) ∧
      EV K te Γ M2 fun e M3 => ∃ b ds', e = .int b ∧ M3[j]? = some (p, .lst ds') ∧ k < ds'.length ∧ E.nx Γ (M3.set j (p, .lst (ds'.set k (.int (f a b)))))) : ES K (tAugS ta tb te (rGetL K) (ipI f) rSetL) Γ M E := fun σ F H S R De n _ _ _ =>
  h σ F H S R _ fun o F1 H1 od M1 x1 r1 i1 h1 => h1 σ F1 H1 (S.mono x1.f) r1 _ fun i F2 H2 ie M2 x2 r2 i2 ⟨j, k, p, ds, a, e1, e2, hm, hk, hd, h2⟩ => by
    subst e1 e2
    cases i1
    cases i2
    obtain ⟨_, ho, g1, g2⟩ := r2.own _ (List.mem_of_getElem? hm)
    cases g2 with
    | @lst vs _ g2 =>
      obtain ⟨v, hv, iv⟩ := g2.get hd
      cases iv
      have x12 := x1.trans x2
      refine ⟨p, vs, k, .int a, rfl, rfl, hk, .inl (.inl g1), hv, h2 σ F2 H2 (S.mono x12.f) r2 _ fun w F3 H3 d3 M3 x3 r3 i3 ⟨b, ds', e3, hm3, hk3, q⟩ => ?_⟩
      subst e3
      cases i3
      refine ⟨a, b, rfl, rfl, ?_⟩
      obtain ⟨_, ho, f1, f2⟩ := r3.own _ (List.mem_of_getElem? hm3)
      cases f2 with
      | @lst us _ f2 =>
        obtain ⟨r4, x4⟩ := r3.write hm3 (.lst (f2.set (.int (f a b)) k))
        refine ⟨p, us, (k : Int), k, rfl, rfl, f1, ?_, n σ F3 _ Γ _ ((x12.trans x3).trans x4) (S.mono (x12.trans x3).f) r4 q⟩
        unfold ixN
        rw [f2.length, if_pos (by omega), if_pos (by omega)]
        simp
end

/-! ### isinstance -/
/-- a thing's type by its name -/
inductive TN (M : Ms) : D → String → Prop
  | non : TN M .non "NoneType" | bl (b : Bool) : TN M (.bl b) "bool" | int (i : Int) : TN M (.int i) "int" | str (x : Str) : TN M (.str x) "str"
  | lst (ds : List D) : TN M (.lst ds) "list" | rol (ds : List D) : TN M (.rol ds) "list" | tup (ds : List D) : TN M (.tup ds) "tuple" | dK (ds : List (Key × D)) : TN M (.dK ds) "dict"
  | oL {p : Addr} {ds : List D} : (p, O.lst ds) ∈ M → TN M (.ptr p) "list"
  | oK {p : Addr} {ds : List (Key × D)} : (p, O.dK ds) ∈ M → TN M (.ptr p) "dict"
  | oT {p : Addr} {ds : List (List Key × D)} : (p, O.dT ds) ∈ M → TN M (.ptr p) "dict"
section
variable {K : PySem.W.Frag} {F H : Hp} {M : Ms} {Φ : D → Ms → Prop} {x : D} {v : V} {n : String}
theorem TN.cons {q : Addr × O} (t : TN M x n) : TN (q :: M) x n := by
  cases t with
  | non => exact .non
  | bl b => exact .bl b
  | int b => exact .int b
  | str b => exact .str b
  | lst b => exact .lst b
  | rol b => exact .rol b
  | tup b => exact .tup b
  | dK b => exact .dK b
  | oL h => exact .oL (List.mem_cons_of_mem _ h)
  | oK h => exact .oK (List.mem_cons_of_mem _ h)
  | oT h => exact .oT (List.mem_cons_of_mem _ h)
theorem TN.ty (t : TN M x n) (r : Rep K F H M) (i : Is K F v x) : TyX K H v (.type n) := by
  cases t with
  | non => cases i; exact .base .non
  | bl b => cases i; exact .base (.bl b)
  | int b => cases i; exact .base (.int b)
  | str b => cases i; exact .base (.str b)
  | lst ds =>
    cases i with
    | lst h1 _ => exact .base (.lst (r.le.eq h1 id))
  | rol ds =>
    cases i with
    | rol h1 _ =>
      rcases h1 with (h1 | ⟨o, h1⟩) | ⟨o, its, n, h1, h2, _⟩
      · exact .base (.lst (r.le.eq h1 id))
      · exact .base (.frz (r.le.eq h1 id))
      · exact .kList h1 h2
  | tup ds =>
    cases i with
    | tup h1 _ => exact .base (.tup (r.le.eq h1 id))
  | dK ds =>
    cases i with
    | dK h1 _ =>
      rcases r.le.rd h1 with h1 | ⟨o, h1⟩
      · exact .base (.dK h1)
      · exact .fDict h1
  | oL h =>
    cases i
    obtain ⟨_, ho, h1, h2⟩ := r.own _ h
    cases h2
    exact .base (.lst h1)
  | oK h =>
    cases i
    obtain ⟨_, ho, h1, h2⟩ := r.own _ h
    cases h2
    exact .base (.dK h1)
  | oT h =>
    cases i
    obtain ⟨_, ho, h1, h2⟩ := r.own _ h
    cases h2
    exact .base (.dT h1)
theorem rc_isi (x : D) (n m : String) (b : Bool) {xs : List D} (e : xs = [x, .ty m]) (t : TN M x n) (hb : kitB n m = some b) (h : Φ (.bl b) M) : RC' K (rIsi K) xs M Φ := fun F H R us i1 Q q => by
  subst e
  cases i1 with
  | @cons v _ _ _ i1 i2 =>
    cases i2 with
    | @cons w _ _ _ i2 i3 =>
      cases i3
      cases i2
      exact ⟨v, .ty m, .type n, .type m, b, rfl, .ty m, t.ty R i1, kit_ty hb, q.here R (.bl b) h⟩
/-- one of several built-in types -/
def kitBs (n : String) : List String → Option Bool
  | [] => some false
  | m :: ms => match kitB n m with
    | some true => some true
    | some false => kitBs n ms
    | none => none
theorem kitBs_any {n : String} : ∀ {ms : List String} {b : Bool}, kitBs n ms = some b → PySem.W.kitAny K (.type n) (ms.map Value.type) = some b
  | [], b, h => by
    have : false = b := Option.some.inj h
    subst this
    rfl
  | m :: ms, b, h => by
    unfold kitBs at h
    cases k : kitB n m with
    | none => rw [k] at h; cases h
    | some c =>
      rw [k] at h
      cases c with
      | true =>
        have : true = b := Option.some.inj h
        exact kitAny_cons (kit_ty k) (fun z => nomatch z) fun _ => this.symm
      | false => exact kitAny_cons (kit_ty k) (fun _ => kitBs_any h) fun z => nomatch z
theorem isl_tys : ∀ (ns : List String) (vs : List V), IsL K F vs (ns.map D.ty) → Paired ClsV vs (ns.map Value.type)
  | [], _, h => by cases h; exact .nil
  | n :: ns, _, h => by
    cases h with
    | cons h1 h2 =>
      cases h1
      exact .cons (.ty n) (isl_tys ns _ h2)
theorem rc_isiT (x : D) (n : String) (ms : List String) (b : Bool) {xs : List D} (e : xs = [x, .tup (ms.map .ty)]) (t : TN M x n) (hb : kitBs n ms = some b) (h : Φ (.bl b) M) : RC' K (rIsiT K) xs M Φ := fun F H R us i1 Q q => by
  subst e
  cases i1 with
  | @cons v _ _ _ i1 i2 =>
    cases i2 with
    | @cons w _ _ _ i2 i3 =>
      cases i3
      cases i2 with
      | @tup p vs _ h1 h2 => exact ⟨v, p, vs, .type n, ms.map Value.type, b, rfl, R.le.eq h1 id, isl_tys ms vs h2, t.ty R i1, kitBs_any hb, q.here R (.bl b) h⟩
end
/-- isinstance of either form -/
def rIsiA (K : PySem.W.Frag) : List V → Hp → VK → Prop := fun xs H Q => rIsi K xs H Q ∨ rIsiT K xs H Q
theorem call_isiA {X : Cx} : CallR X (.builtin "isinstance") (rIsiA X.K) := by
  intro pins s σ H xs us Q I r h
  rcases h with h | h
  · exact call_isi pins s σ H xs us Q I r h
  · exact call_isiT pins s σ H xs us Q I r h
theorem rc_inl {K : PySem.W.Frag} {M : Ms} {Φ : D → Ms → Prop} {r r' : List V → Hp → VK → Prop} {xs : List D} (h : RC' K r xs M Φ) : RC' K (fun xs H Q => r xs H Q ∨ r' xs H Q) xs M Φ := fun F H R u i1 Q q => .inl (h F H R u i1 Q q)
theorem rc_inr {K : PySem.W.Frag} {M : Ms} {Φ : D → Ms → Prop} {r r' : List V → Hp → VK → Prop} {xs : List D} (h : RC' K r' xs M Φ) : RC' K (fun xs H Q => r xs H Q ∨ r' xs H Q) xs M Φ := fun F H R u i1 Q q => .inr (h F H R u i1 Q q)
end DL


set_option Elab.async false
set_option linter.all false
set_option maxRecDepth 100000
set_option maxHeartbeats 2000000
namespace DL
open PySem PySem.Spec PyProof.Rows L2 StX

def startG (N : List Str) (ds : List D) : Gm := ds.map some ++ List.replicate (N.length - ds.length) none
theorem repS_start {K : PySem.W.Frag} {F : Hp} {N : List Str} {vs : List V} {ds : List D} (h : IsL K F vs ds) : RepS K F (L2.start N vs) (startG N ds) := by
  have hl := h.length
  refine ⟨?_, fun i d e => ?_⟩
  · unfold L2.start startG
    simp only [List.length_append, List.length_map, List.length_replicate, hl]
  · unfold startG at e
    by_cases hi : i < ds.length
    · rw [List.getElem?_append_left (by simpa using hi), List.getElem?_map] at e
      cases k : ds[i]? with
      | none => rw [k] at e; cases e
      | some d' =>
        rw [k] at e
        have e' : d' = d := Option.some.inj (Option.some.inj e)
        subst e'
        obtain ⟨v, h1, h2⟩ := h.get k
        refine ⟨v, ?_, h2⟩
        unfold L2.start
        rw [List.getElem?_append_left (by rw [List.length_map, hl]; exact hi), List.getElem?_map, h1]
        rfl
    · rw [List.getElem?_append_right (by simpa using hi)] at e
      have := List.mem_of_getElem? e
      rw [List.mem_replicate] at this
      cases this.2
section
variable {P : Program} {w : World} {K : PySem.W.Frag} {mg : Str → Option Value} {base : Heap}
theorem def_ok {x qual : Str} {st : Stmt} {f : Addr} {fd : FuncData} {N ps : List Str} {k : Nat} {S : SpD} (F : Fun K x qual st f fd) (Sc : FnScope N ps (defScope st)) (len : ∀ ds M Φ, S ds M Φ → ds.length = ps.length)
    (hbody : ∀ (cdv : Value) (A : Around) (outer : List Env) (s : Shared) (H : Hp) (E : XK), Room k (A.deeper (envOfC qual (defScope st) s.heap.objs.size f cdv)) →
      ∃ t, PSs (cxOf CX0 P w K mg base N qual (defScope st) f cdv A outer s H E).nox (defBody st) t ∧ ∀ ds M Φ, S ds M Φ → ES K t (startG N ds) M ⟨fun _ M' => Φ .non M', Φ, fun _ _ => False, fun _ _ => False⟩) : FnOk P w K mg base CX0 (k + 1) f fd ps (spOf K S) := by
  refine F.ok Sc (fun vs H Q E h => ?_) (fun cdv A outer s H vs Q E hr h => ?_)
  · obtain ⟨F0, M, ds, Φ, _, i, hS, _⟩ := h
    rw [i.length]
    exact len ds M Φ hS
  · obtain ⟨F0, M, ds, Φ, r, i, hS, q⟩ := h
    obtain ⟨t, ht, hE⟩ := hbody cdv A outer s H E hr
    exact ⟨t, ht, hE ds M Φ hS _ F0 H (repS_start i) r _ (fun σ' F' H' Γ' M' x s r n => q _ F' H' _ M' x r .non n) q (fun _ _ _ _ _ _ _ _ z => z.elim) fun _ _ _ _ _ _ _ _ z => z.elim⟩
end
/-- a list of ints -/
abbrev LI (ns : List Int) : D := .lst (ns.map .int)
theorem dite_bl {p : Prop} [Decidable p] {A B : Prop} (h1 : p → A) (h2 : ¬ p → B) : if decide p = true then A else B := by
  by_cases h : p
  · rw [if_pos (decide_eq_true h)]
    exact h1 h
  · rw [if_neg (by rw [decide_eq_false h]; exact Bool.false_ne_true)]
    exact h2 h
theorem ndite_bl {p : Prop} [Decidable p] {A B : Prop} (h1 : ¬ p → A) (h2 : p → B) : if (!decide p) = true then A else B := by
  by_cases h : p
  · rw [if_neg (by rw [decide_eq_true h]; exact Bool.false_ne_true)]
    exact h2 h
  · rw [if_pos (by rw [decide_eq_false h]; rfl)]
    exact h1 h
end DL


set_option Elab.async false
set_option linter.all false
set_option maxRecDepth 100000
set_option maxHeartbeats 2000000
namespace DL
open PySem PySem.Spec PyProof.Rows L2 StX

theorem iteNT {A B : Prop} (h : B) : if (!true) = true then A else B := iteF h
theorem iteNF {A B : Prop} (h : A) : if (!false) = true then A else B := iteT h
/-- less is known -/
inductive GLe : Gm → Gm → Prop
  | nil : GLe [] []
  | n {x : Option D} {a b : Gm} : GLe a b → GLe (none :: a) (x :: b)
  | s {d : D} {a b : Gm} : GLe a b → GLe (some d :: a) (some d :: b)
theorem GLe.refl : ∀ Γ : Gm, GLe Γ Γ
  | [] => .nil
  | none :: r => .n (GLe.refl r)
  | some _ :: r => .s (GLe.refl r)
theorem GLe.at : ∀ {a b : Gm} {i : Nat} {d : D}, GLe a b → a[i]? = some (some d) → b[i]? = some (some d)
  | _, _, _, _, .nil, h => by simp at h
  | _, _, 0, _, .n _, h => by simp at h
  | _, _, i + 1, d, .n r, h => by
    have := GLe.at (i := i) (d := d) r (by simpa using h)
    simpa using this
  | _, _, 0, _, .s _, h => h
  | _, _, i + 1, d, .s r, h => by
    have := GLe.at (i := i) (d := d) r (by simpa using h)
    simpa using this
theorem GLe.length : ∀ {a b : Gm}, GLe a b → a.length = b.length
  | _, _, .nil => rfl
  | _, _, .n r => by rw [List.length_cons, List.length_cons, GLe.length r]
  | _, _, .s r => by rw [List.length_cons, List.length_cons, GLe.length r]
section
variable {K : PySem.W.Frag} {F H F1 H1 F2 H2 F' H' : Hp} {M M1 M2 M' A B : Ms} {σ : L2.St} {Γ Γ' : Gm} {Φ Ψ : D → Ms → Prop} {Q : VK} {ta tb tc te : TE} {t u : TT} {ts tu tz : TS} {r r' : R2} {d x y : D} {v : V} {E E' : DE}
theorem RepS.less (s : RepS K F σ Γ) (g : GLe Γ' Γ) : RepS K F σ Γ' := ⟨s.len.trans g.length.symm, fun i d h => s.at' i d (g.at h)⟩
theorem es_forget (Γ' : Gm) (g : GLe Γ' Γ) (h : ES K ts Γ' M E) : ES K ts Γ M E := fun σ F H S R De n rt b c => h σ F H (S.less g) R De n rt b c
theorem es_mono (h : ES K ts Γ M E) (n : ∀ Γ' M', E.nx Γ' M' → ∃ Γ0, GLe Γ0 Γ' ∧ E'.nx Γ0 M') (rt : ∀ d M', E.rt d M' → E'.rt d M') (bk : ∀ Γ' M', E.bk Γ' M' → ∃ Γ0, GLe Γ0 Γ' ∧ E'.bk Γ0 M') (ct : ∀ Γ' M', E.ct Γ' M' → ∃ Γ0, GLe Γ0 Γ' ∧ E'.ct Γ0 M') : ES K ts Γ M E' := fun σ F H S R De n' rt' b' c' =>
  h σ F H S R De (fun σ1 F1 H1 Γ1 M1 x s r q => let ⟨Γ0, g, w⟩ := n Γ1 M1 q; n' σ1 F1 H1 Γ0 M1 x (s.less g) r w) (fun v F1 H1 d M1 x r i q => rt' v F1 H1 d M1 x r i (rt d M1 q))
    (fun σ1 F1 H1 Γ1 M1 x s r q => let ⟨Γ0, g, w⟩ := bk Γ1 M1 q; b' σ1 F1 H1 Γ0 M1 x (s.less g) r w) fun σ1 F1 H1 Γ1 M1 x s r q => let ⟨Γ0, g, w⟩ := ct Γ1 M1 q; c' σ1 F1 H1 Γ0 M1 x (s.less g) r w
/-- a for, by what is known at each turn -/
theorem es_forG {wi : TI} {g : TG} {own : List Nat} (h : EI K wi Γ M fun xs M1 => ∃ C : Nat → Gm → Ms → Prop, (∃ Γ0, GLe Γ0 Γ ∧ C 0 Γ0 M1) ∧
      (∀ (i : Nat) (d : D) (Γ' : Gm) (M' : Ms), xs[i]? = some d → C i Γ' M' → EG K g own d Γ' M' fun Γ2 M2 => ES K ts Γ2 M2 { nx := fun Γ3 M3 => ∃ Γ0, GLe Γ0 Γ3 ∧ C (i + 1) Γ0 M3, ct := fun Γ3 M3 => ∃ Γ0, GLe Γ0 Γ3 ∧ C (i + 1) Γ0 M3, bk := E.nx, rt := E.rt }) ∧ ∀ Γ' M', C xs.length Γ' M' → E.nx Γ' M') : ES K (tFor wi g ts) Γ M E := fun σ F H S R De n rt b c => by
  refine es_for (own := own) (E := { E with nx := fun Γ' M' => ∃ Γ0, GLe Γ0 Γ' ∧ E.nx Γ0 M' }) ?_ σ F H S R De (fun σ1 F1 H1 Γ1 M1 x s r ⟨Γ0, g, w⟩ => n σ1 F1 H1 Γ0 M1 x (s.less g) r w) rt b c
  intro σ F H S R Rw q
  refine h σ F H S R Rw fun J F' H' xs M' x r j ⟨C, h0, hs, hd⟩ => q J F' H' xs M' x r j ⟨fun i Γ' M' => ∃ Γ0, GLe Γ0 Γ' ∧ C i Γ0 M', h0, ?_, fun Γ' M' ⟨Γ0, g, w⟩ => ⟨Γ0, g, hd Γ0 M' w⟩⟩
  intro i d Γ' M' hx ⟨Γ0, gl, w⟩ σ F H v S R i' Q q
  refine hs i d Γ0 M' hx w σ F H v (S.less gl) R i' Q fun σ2 F2 H2 Γ2 M2 x2 s2 r2 e2 w2 => q σ2 F2 H2 Γ2 M2 x2 s2 r2 e2 ?_
  exact es_mono w2 (fun Γ3 M3 q => ⟨Γ3, GLe.refl _, q⟩) (fun _ _ q => q) (fun Γ3 M3 q => ⟨Γ3, GLe.refl _, Γ3, GLe.refl _, q⟩) fun Γ3 M3 q => ⟨Γ3, GLe.refl _, q⟩
theorem es_whileG (C : Nat → Gm → Ms → Prop) (m0 : Nat) (Γ0 : Gm) (g0 : GLe Γ0 Γ) (h0 : C m0 Γ0 M)
    (hs : ∀ m Γ' M', C m Γ' M' → ET K t Γ' M' fun b M2 => if b = true then ES K ts Γ' M2 { nx := fun Γ3 M3 => ∃ m' Γ0, m' < m ∧ GLe Γ0 Γ3 ∧ C m' Γ0 M3, ct := fun Γ3 M3 => ∃ m' Γ0, m' < m ∧ GLe Γ0 Γ3 ∧ C m' Γ0 M3, bk := E.nx, rt := E.rt } else E.nx Γ' M2) : ES K (tWhile t ts) Γ M E := fun σ F H S R De n rt b c => by
  refine es_while (E := { E with nx := fun Γ' M' => ∃ Γ0, GLe Γ0 Γ' ∧ E.nx Γ0 M' }) (fun m Γ' M' => ∃ Γ0, GLe Γ0 Γ' ∧ C m Γ0 M') m0 ⟨Γ0, g0, h0⟩ ?_ σ F H S R De (fun σ1 F1 H1 Γ1 M1 x s r ⟨Γ0, g, w⟩ => n σ1 F1 H1 Γ0 M1 x (s.less g) r w) rt b c
  intro m Γ' M' ⟨Γ1, gl, w⟩ σ F H S R Q q
  refine hs m Γ1 M' w σ F H (S.less gl) R Q fun b F2 H2 M2 x2 r2 w2 => q b F2 H2 M2 x2 r2 ?_
  cases b with
  | false => exact ⟨Γ1, gl, w2⟩
  | true => exact es_forget Γ1 gl (es_mono w2 (fun Γ3 M3 ⟨m', Γ2, h1, h2, h3⟩ => ⟨Γ3, GLe.refl _, m', h1, Γ2, h2, h3⟩) (fun _ _ q => q) (fun Γ3 M3 q => ⟨Γ3, GLe.refl _, Γ3, GLe.refl _, q⟩) fun Γ3 M3 ⟨m', Γ2, h1, h2, h3⟩ => ⟨Γ3, GLe.refl _, m', h1, Γ2, h2, h3⟩)
/-- a comprehension without tests whose element changes nothing -/
theorem en_map {wi : TI} {g : TG} {vs : List Nat} {Φ : O → Ms → Prop} (h : EI K wi Γ M fun xs M1 => xs.length ≤ 100000 ∧ ∃ ys : List D, ys.length = xs.length ∧
      (∀ (i : Nat) (d : D), xs[i]? = some d → EG K g vs d (wipeG Γ vs) M1 fun Γ2 M2 => EV K te Γ2 M2 fun y M3 => ys[i]? = some y ∧ M3 = M1) ∧ Φ (.lst ys) M1) : EN K (tLc wi g tYes te vs) Γ M Φ := by
  refine en_lc ?_
  intro σ F H S R Rw q
  refine h σ F H S R Rw fun J F' H' xs M' x r j ⟨hz, ys, hl, hs, hd⟩ => q J F' H' xs M' x r j ⟨hz, fun i acc M2 => acc = ys.take i ∧ M2 = M', ⟨by simp, rfl⟩, ?_, ?_⟩
  · rintro i d acc M2 hx ⟨rfl, rfl⟩ σ F H v S R i' Q q
    refine hs i d hx σ F H v S R i' Q fun σ2 F2 H2 Γ2 M2' x2 s2 r2 e2 w2 => q σ2 F2 H2 Γ2 M2' x2 s2 r2 e2 (et_yes (iteT ?_))
    refine w2.mono fun y M3 ⟨hy, hM⟩ => ⟨?_, hM⟩
    rw [List.take_add_one, hy]
    rfl
  · rintro acc M2 ⟨rfl, rfl⟩
    rw [List.take_of_length_le (by omega)]
    exact hd
end
end DL


set_option Elab.async false
set_option linter.all false
set_option maxRecDepth 100000
set_option maxHeartbeats 2000000
/-! the rules once more, the written part by its name (so that a comprehension's block has them too) -/
namespace DL
open PySem PySem.Spec PyProof.Rows L2 StX
section
variable {X : Cx} {K : PySem.W.Frag}
theorem op_addK (hK : X.K = K) : OpR X (binaryOp .Add) (rAdd K) := by subst hK; exact op_addA
theorem op_eqK (hK : X.K = K) (hu : X.A.units + 64 < cLine) : OpR X (compareOp .Eq) (rEqA K) := by subst hK; exact op_eqA hu
theorem op_neK (hK : X.K = K) (hu : X.A.units + 64 < cLine) : OpR X (compareOp .NotEq) (rNeA K) := by subst hK; exact op_neA hu
theorem ix_seqK (hK : X.K = K) : IxR X (rIx K) := by subst hK; exact ix_seq
theorem sl_anyK (hK : X.K = K) : SlR X (rSlA K) := by subst hK; exact sl_any
theorem pget_listK (hK : X.K = K) : PGet X (rGetL K) := by subst hK; exact pget_list
theorem call_lenK (hK : X.K = K) : CallR X (.builtin "len") (fun xs H Q => ∃ x n, xs = [x] ∧ LenV K x H n ∧ Q (.int n) H) := by subst hK; exact call_len
theorem call_listK (hK : X.K = K) : CallR X (.type "list") (fun xs H Q => ∃ p ys, xs = [.ref p] ∧ (SqL K H p ys ∨ SqT K H p ys) ∧ ∀ l, H l = none → Q (.ref l) (upd H l (.lst ys))) := by subst hK; exact call_list_of
theorem call_isiK (hK : X.K = K) : CallR X (.builtin "isinstance") (rIsiA K) := by subst hK; exact call_isiA
theorem cr_sumK (hK : X.K = K) (hc : X.calm = true) : CallR X (.builtin "sum") (rSum K) := by subst hK; exact cr_sum hc
theorem cr_maxK (hK : X.K = K) (hc : X.calm = true) : CallR X (.builtin "max") (rMax K) := by subst hK; exact cr_max hc
theorem cr_minK (hK : X.K = K) (hc : X.calm = true) : CallR X (.builtin "min") (rMin K) := by subst hK; exact cr_min hc
theorem cr_allK (hK : X.K = K) (hc : X.calm = true) : CallR X (.builtin "all") (rAll K) := by subst hK; exact cr_all hc
theorem cr_anyK (hK : X.K = K) (hc : X.calm = true) : CallR X (.builtin "any") (rAny K) := by subst hK; exact cr_any hc
variable {e : Expr} {es : List Expr} {te to ta tl : TE} {t : TA} {p pos p1 p2 p3 apos cpos tpos : Pos} {name : Str} {T id : String} {r : V → List V → Hp → VK → Prop} {o tg : Expr} {elts : List Expr} {kk : Nat}
theorem pa_starK (hK : X.K = K) (he : PE X e te) (hr : PA X es t) (hs : starEach (.Starred e p :: es) X.env = (true, eval e X.env) :: starEach es X.env := by rfl) : PA X (.Starred e p :: es) (tStar K te t) := by subst hK; exact pa_star he hr hs
theorem pe_bm0K (hK : X.K = K) (pa : PlainAttrs T) (slot : Slot T name id) (hty : typeOf (.builtin id) = pure (.type "method_descriptor")) (hm : MtR X id r) (ho : PE X o to)
    (hbase : attributeBase o name X.env (eval o X.env) = eval o X.env := by rfl) (hline : (apos.endLine == cpos.line) = true := by rfl) : PE X (.Call (.Attribute o name apos) [] [] cpos) (tBM0 K T r to) := by
  subst hK; exact pe_bm0 pa slot hty hm ho hbase hline
theorem pe_bmK (hK : X.K = K) (pa : PlainAttrs T) (slot : Slot T name id) (hty : typeOf (.builtin id) = pure (.type "method_descriptor")) (hm : MtR X id r) (ho : PE X o to) (ha : PA X (e :: es) t)
    (hbase : attributeBase o name X.env (eval o X.env) = eval o X.env := by rfl)
    (hfew : ((backTo cpos (starEach (e :: es) X.env)).all (fun x => !x.1) && (backToKw cpos (keywordEach [] X.env)).all (fun x => x.1.isSome)
      && decide ((e :: es).length + ([] : List Keyword).length + (if ([] : List Keyword).isEmpty then 0 else 1) < 30)) = true := by rfl)
    (hline : (apos.endLine == cpos.line) = true := by rfl) (hs : starEach (e :: es) X.env = (false, eval e X.env) :: starEach es X.env := by rfl) (hplain : (backTo cpos (starEach es X.env)).any (·.1) = false := by rfl) :
    PE X (.Call (.Attribute o name apos) (e :: es) [] cpos) (tBM K T r to t) := by
  subst hK; exact pe_bm pa slot hty hm ho ha hbase hfew hline hs hplain
theorem pi_listK (hK : X.K = K) (hl : PE X e tl) : PI X tg e (iList K tl) := by subst hK; exact pi_list hl
theorem pi_tupK (hK : X.K = K) (hl : PE X e tl) : PI X tg e (iTup K tl) := by subst hK; exact pi_tup hl
theorem pi_reversedK (hK : X.K = K) (hg : Gl X "reversed") (hm : X.mg "reversed" = none) (ha : PA X [e] t) (hs : starEach [e] X.env = [(false, eval e X.env)] := by rfl) : PI X tg (.Call (.Name "reversed" p) [e] [] pos) (iRev K t) := by subst hK; exact pi_reversed hg hm ha hs
theorem pi_enumK (hK : X.K = K) (hg : Gl X "enumerate") (hm : X.mg "enumerate" = none) (ha : PA X [e] t) (hs : starEach [e] X.env = [(false, eval e X.env)] := by rfl) :
    PI X (.Tuple elts kk tpos) (.Call (.Name "enumerate" p) [e] [] pos) (iEnum K t) := by subst hK; exact pi_enum hg hm ha hs
theorem pi_zipK {e2 : Expr} (hK : X.K = K) (hg : Gl X "zip") (hm : X.mg "zip" = none) (ha : PA X [e, e2] t)
    (hs : starEach [e, e2] X.env = (false, eval e X.env) :: starEach [e2] X.env := by rfl) (hpl : (backTo pos (starEach [e2] X.env)).any (·.1) = false := by rfl) :
    PI X (.Tuple elts kk tpos) (.Call (.Name "zip" p) [e, e2] [] pos) (iZip K t) := by subst hK; exact pi_zip hg hm ha hs hpl
theorem pg_tupK {k : Nat} {t : TGs} {n : Nat} (hK : X.K = K) (hc : X.calm = true) (h : PGs X es t)
    (hn : (assignEach es X.env).length = n := by rfl) (hst : (assignEach es X.env).findIdx? (·.1) = none := by rfl) : PG X (.Tuple es k pos) (gTup K n t) := by subst hK; exact pg_tup hc h hn hst
theorem pe_revLK {k : Nat} (hK : X.K = K) (he : PE X e te) : PE X (.Subscript e (.Slice none none (some (.UnaryOp .USub (.Constant (.int 1) k p1) p2)) p3) pos) (tRevL K te) := by subst hK; exact pe_revL he
theorem pt_truthK (hK : X.K = K) (ha : PE X e ta) (he : ∀ whole, isTrue e X.env whole = (do let v ← whole; standAt e.pos; holding [v] (truthy v))) :
    PT X e (fun σ H Q => ta σ H fun x H' => ∃ k, TruV K x H' k ∧ Q k H') := by subst hK; exact pt_truth ha he
end

section
variable {K : PySem.W.Frag} {M : Ms} {p : Addr} {ds : List D} {q q2 : Addr × O}
theorem dty0 : DTy K "list" (.ptr p) ((p, .lst ds) :: M) := dty_own (.head _)
theorem dty1 : DTy K "list" (.ptr p) (q :: (p, .lst ds) :: M) := dty_own (.tail _ (.head _))
theorem dty2 : DTy K "list" (.ptr p) (q :: q2 :: (p, .lst ds) :: M) := dty_own (.tail _ (.tail _ (.head _)))
theorem lr0 : LR ((p, .lst ds) :: M) (.ptr p) ds := .own (.head _)
theorem lr1 : LR (q :: (p, .lst ds) :: M) (.ptr p) ds := .own (.tail _ (.head _))
theorem lr2 : LR (q :: q2 :: (p, .lst ds) :: M) (.ptr p) ds := .own (.tail _ (.tail _ (.head _)))
theorem lq0 : LQ ((p, .lst ds) :: M) (.ptr p) ds := .of lr0
theorem lq1 : LQ (q :: (p, .lst ds) :: M) (.ptr p) ds := .of lr1
theorem lq2 : LQ (q :: q2 :: (p, .lst ds) :: M) (.ptr p) ds := .of lr2
theorem sq0 : SQ ((p, .lst ds) :: M) (.ptr p) ds := .l lq0
theorem sq1 : SQ (q :: (p, .lst ds) :: M) (.ptr p) ds := .l lq1
theorem sq2 : SQ (q :: q2 :: (p, .lst ds) :: M) (.ptr p) ds := .l lq2
theorem ln_of {x : D} {n : Nat} (h : SQ M x ds) (e : ds.length = n) : LN M x n := e ▸ .sq h
theorem ln_LI {ns : List Int} : LN M (LI ns) ns.length := ln_of (SQ.lst _) (by rw [List.length_map])
end
section
variable {K : PySem.W.Frag} {M : Ms} {Γ : Gm} {ta tb te : TE} {t : TT} {ts tu : TS} {nx bk ct : Gm → Ms → Prop} {rt : D → Ms → Prop} {g : TG} {wi : TI}
/-! ends by their parts -/
theorem zs_next (h : nx Γ M) : ES K tNext Γ M ⟨nx, rt, bk, ct⟩ := es_next h
theorem zs_break (h : bk Γ M) : ES K tBreak Γ M ⟨nx, rt, bk, ct⟩ := es_break h
theorem zs_cont (h : ct Γ M) : ES K tCont Γ M ⟨nx, rt, bk, ct⟩ := es_cont h
theorem zs_seq (h : ES K ts Γ M ⟨fun Γ1 M1 => ES K tu Γ1 M1 ⟨nx, rt, bk, ct⟩, rt, bk, ct⟩) : ES K (tSeq ts tu) Γ M ⟨nx, rt, bk, ct⟩ := es_seq h
/-- what stands between two statements, said once -/
theorem zs_cut (Mid : Gm → Ms → Prop) (h : ES K ts Γ M ⟨Mid, rt, bk, ct⟩) (k : ∀ Γ' M', Mid Γ' M' → ES K tu Γ' M' ⟨nx, rt, bk, ct⟩) : ES K (tSeq ts tu) Γ M ⟨nx, rt, bk, ct⟩ :=
  zs_seq (es_mono h (fun Γ' M' q => ⟨Γ', GLe.refl _, k Γ' M' q⟩) (fun _ _ q => q) (fun Γ' _ q => ⟨Γ', GLe.refl _, q⟩) fun Γ' _ q => ⟨Γ', GLe.refl _, q⟩)
theorem zs_drop (h : EV K te Γ M fun _ M1 => nx Γ M1) : ES K (tDrop te) Γ M ⟨nx, rt, bk, ct⟩ := es_drop h
theorem zs_ret (h : EV K te Γ M rt) : ES K (tRet te) Γ M ⟨nx, rt, bk, ct⟩ := es_ret h
theorem zs_retN (h : rt .non M) : ES K tRetN Γ M ⟨nx, rt, bk, ct⟩ := es_retN h
theorem zs_if (h : ET K t Γ M fun b M1 => if b = true then ES K ts Γ M1 ⟨nx, rt, bk, ct⟩ else ES K tu Γ M1 ⟨nx, rt, bk, ct⟩) : ES K (tIfS t ts tu) Γ M ⟨nx, rt, bk, ct⟩ := es_if h
theorem zs_asg {own : List Nat} (h : EV K te Γ M fun d M1 => EG K g own d Γ M1 nx) : ES K (tAsg te g) Γ M ⟨nx, rt, bk, ct⟩ := es_asg h
theorem zs_set {i : Nat} (h : EV K te Γ M fun d M1 => nx (Γ.set i (some d)) M1) : ES K (tAsg te (gName i)) Γ M ⟨nx, rt, bk, ct⟩ := es_set h
theorem zs_par {i j : Nat} {tl : TA} (h : EA K tl Γ M fun ds M1 => ∃ a b, ds = [a, b] ∧ nx ((Γ.set i (some a)).set j (some b)) M1) : ES K (tPar i j tl) Γ M ⟨nx, rt, bk, ct⟩ := es_par h
theorem zs_augI {i : Nat} {f : Int → Int → Int} {a : Int} (h0 : Γ[i]? = some (some (.int a))) (h : EV K te Γ M fun d M1 => ∃ b, d = .int b ∧ nx (Γ.set i (some (.int (f a b)))) M1) : ES K (tAug i te (ipI f)) Γ M ⟨nx, rt, bk, ct⟩ := es_augI h0 h
theorem zs_augL {f : Int → Int → Int} (h : EV K ta Γ M fun o M1 => EV K tb Γ M1 fun i M2 => ∃ (j k : Nat) (p : Addr) (ds : List D) (a : Int), o = .ptr p ∧ i = .int (k : Int) ∧ M2[j]? = some (p, .lst ds) ∧ k < 1000000000 ∧ ds[k]? = some (.int a) ∧
      EV K te Γ M2 fun e M3 => ∃ b ds', e = .int b ∧ M3[j]? = some (p, .lst ds') ∧ k < ds'.length ∧ nx Γ (M3.set j (p, .lst (ds'.set k (.int (f a b)))))) : ES K (tAugS ta tb te (rGetL K) (ipI f) rSetL) Γ M ⟨nx, rt, bk, ct⟩ := es_augL h
theorem zs_for (own : List Nat) (h : EI K wi Γ M fun xs M1 => ∃ C : Nat → Gm → Ms → Prop, (∃ Γ0, GLe Γ0 Γ ∧ C 0 Γ0 M1) ∧
      (∀ (i : Nat) (d : D) (Γ' : Gm) (M' : Ms), xs[i]? = some d → C i Γ' M' → EG K g own d Γ' M' fun Γ2 M2 => ES K ts Γ2 M2 ⟨fun Γ3 M3 => ∃ Γ0, GLe Γ0 Γ3 ∧ C (i + 1) Γ0 M3, rt, nx, fun Γ3 M3 => ∃ Γ0, GLe Γ0 Γ3 ∧ C (i + 1) Γ0 M3⟩) ∧
      ∀ (Γ' : Gm) (M' : Ms), C xs.length Γ' M' → nx Γ' M') : ES K (tFor wi g ts) Γ M ⟨nx, rt, bk, ct⟩ := es_forG (own := own) h
theorem zs_while (C : Nat → Gm → Ms → Prop) (m0 : Nat) (Γ0 : Gm) (g0 : GLe Γ0 Γ) (h0 : C m0 Γ0 M)
    (hs : ∀ m Γ' M', C m Γ' M' → ET K t Γ' M' fun b M2 => if b = true then ES K ts Γ' M2 ⟨fun Γ3 M3 => ∃ m' Γ0, m' < m ∧ GLe Γ0 Γ3 ∧ C m' Γ0 M3, rt, nx, fun Γ3 M3 => ∃ m' Γ0, m' < m ∧ GLe Γ0 Γ3 ∧ C m' Γ0 M3⟩ else nx Γ' M2) : ES K (tWhile t ts) Γ M ⟨nx, rt, bk, ct⟩ := es_whileG C m0 Γ0 g0 h0 hs
end
section
variable {K : PySem.W.Frag} {M : Ms} {x y : D} {Φ : D → Ms → Prop}
theorem r2_eqB1 (b : Bool) (hx : x = .bl b) (hy : y = .bl b) (h : Φ (.bl true) M) : R2' K (rEqA K) x y M Φ := r2_eqB b b hx hy (by rw [decide_eq_true rfl]; exact h)
theorem r2_neB1 (b : Bool) (hx : x = .bl b) (hy : y = .bl b) (h : Φ (.bl false) M) : R2' K (rNeA K) x y M Φ := r2_neB b b hx hy (by rw [decide_eq_true rfl]; exact h)
theorem r2_eqI1 (b : Int) (hx : x = .int b) (hy : y = .int b) (h : Φ (.bl true) M) : R2' K (rEqA K) x y M Φ := r2_eqI b b hx hy (by rw [decide_eq_true rfl]; exact h)
end
end DL


set_option Elab.async false
set_option linter.all false
set_option maxRecDepth 100000
set_option maxHeartbeats 2000000
/-! dicts whose keys are ints and texts, or tuples of them -/
namespace DL
open PySem PySem.Spec PyProof.Rows L2 StX
def kD : Key → D
  | .inl i => .int i
  | .inr x => .str x
section
variable {K : PySem.W.Frag} {F H F1 H1 F2 H2 F' H' : Hp} {M M1 M2 M' A B : Ms} {σ : L2.St} {Γ Γ' : Gm} {Φ Ψ : D → Ms → Prop} {Q : VK} {ta tb tc te td ty tv : TE} {t u : TT} {ts tu tz : TS} {r r' : R2} {d x y : D} {v : V} {E E' : DE}
theorem is_kD (k : Key) : Is K F (kV k) (kD k) := by
  cases k
  · exact .int _
  · exact .str _
theorem kD_is {k : Key} (h : Is K F v (kD k)) : v = kV k := by
  cases k <;> (cases h; rfl)
theorem kDs_is : ∀ {ks : List Key} {vs : List V}, IsL K F vs (ks.map kD) → vs = ks.map kV
  | [], _, h => by cases h; rfl
  | k :: ks, _, h => by
    cases h with
    | cons h1 h2 => rw [kD_is h1, kDs_is h2]; rfl
/-! ### tables -/
section
variable {κ : Type} [DecidableEq κ]
def valD (kvs : List (κ × D)) (k : κ) : Option D := (kvs.find? fun kv => decide (kv.1 = k)).map (·.2)
def putD (kvs : List (κ × D)) (k : κ) (d : D) : List (κ × D) :=
  if (kvs.any fun kv => decide (kv.1 = k)) = true then kvs.map (fun kv => if kv.1 = k then (kv.1, d) else kv) else kvs ++ [(k, d)]
theorem valD_cons (p : κ × D) (kvs : List (κ × D)) (k : κ) : valD (p :: kvs) k = if p.1 = k then some p.2 else valD kvs k := by
  by_cases e : p.1 = k
  · simp [valD, List.find?_cons, e]
  · simp [valD, List.find?_cons, e]
theorem valD_nil (k : κ) : valD ([] : List (κ × D)) k = none := rfl
theorem valD_any (k : κ) : ∀ kvs : List (κ × D), (kvs.any fun kv => decide (kv.1 = k)) = (valD kvs k).isSome
  | [] => rfl
  | p :: r => by
    rw [List.any_cons, valD_cons]
    by_cases e : p.1 = k
    · rw [if_pos e, decide_eq_true e]; rfl
    · rw [if_neg e, decide_eq_false e, Bool.false_or]; exact valD_any k r
theorem valD_mem {kvs : List (κ × D)} {k : κ} {d : D} (h : valD kvs k = some d) : (k, d) ∈ kvs := by
  induction kvs with
  | nil => cases h
  | cons p r ih =>
    rw [valD_cons] at h
    by_cases e : p.1 = k
    · rw [if_pos e] at h
      cases h
      subst e
      exact List.mem_cons_self
    · rw [if_neg e] at h
      exact List.mem_cons_of_mem _ (ih h)
theorem valD_none {kvs : List (κ × D)} {k : κ} : valD kvs k = none ↔ k ∉ kvs.map (·.1) := by
  induction kvs with
  | nil => simp [valD]
  | cons p r ih =>
    rw [valD_cons, List.map_cons, List.mem_cons]
    by_cases e : p.1 = k
    · simp [e]
    · rw [if_neg e, ih]
      simp [Ne.symm e, eq_comm]
theorem valD_some {kvs : List (κ × D)} {k : κ} : (valD kvs k).isSome = true ↔ k ∈ kvs.map (·.1) := by
  cases h : valD kvs k with
  | none => simp [valD_none.mp h]
  | some d => exact ⟨fun _ => List.mem_map_of_mem (f := (·.1)) (valD_mem h), fun _ => rfl⟩
theorem valD_of_mem {kvs : List (κ × D)} {k : κ} {d : D} (nd : (kvs.map (·.1)).Nodup) (h : (k, d) ∈ kvs) : valD kvs k = some d := by
  induction kvs with
  | nil => cases h
  | cons p r ih =>
    rw [List.map_cons, List.nodup_cons] at nd
    rw [valD_cons]
    rcases List.mem_cons.mp h with e | e
    · subst e
      rw [if_pos rfl]
    · rw [if_neg (fun z => nd.1 (by rw [z]; exact List.mem_map_of_mem (f := (·.1)) e))]
      exact ih nd.2 e
theorem putD_new {kvs : List (κ × D)} {k : κ} (d : D) (h : valD kvs k = none) : putD kvs k d = kvs ++ [(k, d)] := by
  unfold putD
  rw [valD_any, h]
  rfl
theorem putD_old {kvs : List (κ × D)} {k : κ} (d : D) (h : (valD kvs k).isSome = true) : putD kvs k d = kvs.map (fun kv => if kv.1 = k then (kv.1, d) else kv) := by
  unfold putD
  rw [valD_any, h]
  rfl
theorem putD_keys (kvs : List (κ × D)) (k : κ) (d : D) : (putD kvs k d).map (·.1) = if k ∈ kvs.map (·.1) then kvs.map (·.1) else kvs.map (·.1) ++ [k] := by
  by_cases h : k ∈ kvs.map (·.1)
  · rw [if_pos h, putD_old d (valD_some.mpr h), List.map_map]
    refine List.map_congr_left fun p _ => ?_
    show (if p.1 = k then (p.1, d) else p).1 = p.1
    split <;> rfl
  · rw [if_neg h, putD_new d (valD_none.mpr h), List.map_append]
    rfl
theorem putD_length (kvs : List (κ × D)) (k : κ) (d : D) : (putD kvs k d).length ≤ kvs.length + 1 := by
  unfold putD
  split
  · rw [List.length_map]; omega
  · rw [List.length_append]; exact Nat.le_refl _
theorem valD_map (kvs : List (κ × D)) (k j : κ) (d : D) : valD (kvs.map fun kv => if kv.1 = k then (kv.1, d) else kv) j = if j = k ∧ (valD kvs j).isSome = true then some d else valD kvs j := by
  induction kvs with
  | nil => simp [valD]
  | cons p r ih =>
    rw [List.map_cons, valD_cons, valD_cons, ih]
    by_cases e : p.1 = k
    · rw [if_pos e]
      by_cases e2 : p.1 = j
      · rw [if_pos e2, if_pos e2, if_pos ⟨e2.symm.trans e, rfl⟩]
      · rw [if_neg e2, if_neg e2]
    · rw [if_neg e]
      by_cases e2 : p.1 = j
      · rw [if_pos e2, if_pos e2, if_neg (fun z => e (e2.trans z.1))]
      · rw [if_neg e2, if_neg e2]
theorem valD_append (kvs ls : List (κ × D)) (j : κ) : valD (kvs ++ ls) j = (valD kvs j).or (valD ls j) := by
  induction kvs with
  | nil => rfl
  | cons p r ih =>
    rw [List.cons_append, valD_cons, valD_cons, ih]
    split <;> rfl
theorem valD_put (kvs : List (κ × D)) (k j : κ) (d : D) : valD (putD kvs k d) j = if j = k then some d else valD kvs j := by
  cases h : valD kvs k with
  | none =>
    rw [putD_new d h, valD_append, valD_cons]
    by_cases e : j = k
    · subst e
      rw [h, if_pos rfl, if_pos rfl]; rfl
    · rw [if_neg (Ne.symm e), if_neg e]
      show (valD kvs j).or none = valD kvs j
      cases valD kvs j <;> rfl
  | some d' =>
    rw [putD_old d (by rw [h]; rfl), valD_map]
    by_cases e : j = k
    · subst e
      rw [h, if_pos ⟨rfl, rfl⟩, if_pos rfl]
    · rw [if_neg (fun z => e z.1), if_neg e]
/-- there, or not -/
def OptIs (K : PySem.W.Frag) (F : Hp) : Option V → Option D → Prop
  | none, none => True
  | some v, some d => Is K F v d
  | _, _ => False
theorem IsA.val {xs : List (κ × V)} {ds : List (κ × D)} (h : IsA K F κ xs ds) (k : κ) : OptIs K F (valV xs k) (valD ds k) := by
  induction ds generalizing xs with
  | nil => cases h; exact True.intro
  | cons p r ih =>
    cases h with
    | @cons _ k' w d' ws _ h1 h2 =>
      rw [valD_cons]
      by_cases e : k' = k
      · rw [valV_pos e, if_pos e]; exact h1
      · rw [valV_neg e, if_neg e]; exact ih h2
theorem IsA.length {xs : List (κ × V)} {ds : List (κ × D)} (h : IsA K F κ xs ds) : xs.length = ds.length := by
  induction ds generalizing xs with
  | nil => cases h; rfl
  | cons p r ih =>
    cases h with
    | cons h1 h2 => rw [List.length_cons, List.length_cons, ih h2]
theorem IsA.keys {xs : List (κ × V)} {ds : List (κ × D)} (h : IsA K F κ xs ds) : xs.map (·.1) = ds.map (·.1) := by
  induction ds generalizing xs with
  | nil => cases h; rfl
  | cons p r ih =>
    cases h with
    | cons h1 h2 => rw [List.map_cons, List.map_cons, ih h2]
theorem IsA.append {xs ys : List (κ × V)} {ds es : List (κ × D)} (h : IsA K F κ xs ds) (h' : IsA K F κ ys es) : IsA K F κ (xs ++ ys) (ds ++ es) := by
  induction ds generalizing xs with
  | nil => cases h; exact h'
  | cons p r ih =>
    cases h with
    | cons h1 h2 => exact .cons h1 (ih h2)
theorem IsA.repl {xs : List (κ × V)} {ds : List (κ × D)} (h : IsA K F κ xs ds) (k : κ) (i : Is K F v d) : IsA K F κ (xs.map fun kv => if kv.1 = k then (kv.1, v) else kv) (ds.map fun kv => if kv.1 = k then (kv.1, d) else kv) := by
  induction ds generalizing xs with
  | nil => cases h; exact .nil
  | cons p r ih =>
    cases h with
    | @cons _ k' w d' ws _ h1 h2 =>
      rw [List.map_cons, List.map_cons]
      by_cases e : k' = k
      · rw [if_pos e, if_pos e]; exact .cons i (ih h2)
      · rw [if_neg e, if_neg e]; exact .cons h1 (ih h2)
theorem IsA.put {xs : List (κ × V)} {ds : List (κ × D)} (h : IsA K F κ xs ds) (k : κ) (i : Is K F v d) : IsA K F κ (putK xs k v) (putD ds k d) := by
  have e : (xs.any fun kv => decide (kv.1 = k)) = (ds.any fun kv => decide (kv.1 = k)) := by
    rw [valV_any, valD_any]
    have := h.val k
    cases h1 : valV xs k <;> cases h2 : valD ds k <;> rw [h1, h2] at this <;> first | rfl | exact this.elim
  unfold putK putD
  rw [e]
  split
  · exact h.repl k i
  · exact h.append (.cons i .nil)
theorem IsA.get {xs : List (κ × V)} {ds : List (κ × D)} (h : IsA K F κ xs ds) {i : Nat} {p : κ × D} (e : ds[i]? = some p) : ∃ v, xs[i]? = some (p.1, v) ∧ Is K F v p.2 := by
  induction ds generalizing xs i with
  | nil => simp at e
  | cons q r ih =>
    cases h with
    | cons h1 h2 =>
      cases i with
      | zero =>
        simp at e
        subst e
        exact ⟨_, rfl, h1⟩
      | succ i => exact ih h2 (by simpa using e)
end

/-! ### what reads as a dict -/
inductive DR (M : Ms) : D → List (Key × D) → Prop
  | dat (ds : List (Key × D)) : DR M (.dK ds) ds
  | own {p : Addr} {ds : List (Key × D)} : (p, O.dK ds) ∈ M → DR M (.ptr p) ds
theorem DR.at {ds : List (Key × D)} (l : DR M x ds) (r : Rep K F H M) (i : Is K F v x) : ∃ a xs, v = .ref a ∧ Rd H a (.dK xs) ∧ IsA K F Key xs ds := by
  cases l with
  | dat =>
    cases i with
    | dK h1 h2 => exact ⟨_, _, rfl, r.le.rd h1, h2⟩
  | own hm =>
    cases i
    obtain ⟨_, ho, h1, h2⟩ := r.own _ hm
    cases h2 with
    | dK h2 => exact ⟨_, _, rfl, .inl h1, h2⟩
inductive DRT (M : Ms) : D → List (List Key × D) → Prop
  | dat (ds : List (List Key × D)) : DRT M (.dT ds) ds
  | own {p : Addr} {ds : List (List Key × D)} : (p, O.dT ds) ∈ M → DRT M (.ptr p) ds
theorem DRT.at {ds : List (List Key × D)} (l : DRT M x ds) (r : Rep K F H M) (i : Is K F v x) : ∃ a xs, v = .ref a ∧ Rd H a (.dT xs) ∧ IsA K F (List Key) xs ds := by
  cases l with
  | dat =>
    cases i with
    | dT h1 h2 => exact ⟨_, _, rfl, r.le.rd h1, h2⟩
  | own hm =>
    cases i
    obtain ⟨_, ho, h1, h2⟩ := r.own _ hm
    cases h2 with
    | dT h2 => exact ⟨_, _, rfl, .inl h1, h2⟩
/-- what it holds at a key -/
inductive DG (M : Ms) : D → D → Option D → Prop
  | k {x : D} {ds : List (Key × D)} {o : Option D} (k : Key) : DR M x ds → valD ds k = o → DG M x (kD k) o
  | t {x : D} {ds : List (List Key × D)} {o : Option D} (k : List Key) : DRT M x ds → valD ds k = o → DG M x (.tup (k.map kD)) o
theorem DG.i {ds : List (Key × D)} {o : Option D} {i : Int} (h : DR M x ds) (e : valD ds (.inl i) = o) : DG M x (.int i) o := .k (.inl i) h e
theorem DG.s {ds : List (Key × D)} {o : Option D} {i : Str} (h : DR M x ds) (e : valD ds (.inr i) = o) : DG M x (.str i) o := .k (.inr i) h e
theorem DG.at {o : Option D} {w : V} (g : DG M x y o) (r : Rep K F H M) (i : Is K F v x) (j : Is K F w y) : ∃ a z, v = .ref a ∧ DGet H a w z ∧ OptIs K F z o := by
  cases g with
  | k k h e =>
    subst e
    obtain ⟨a, xs, h1, h2, h3⟩ := h.at r i
    exact ⟨a, _, h1, .inl ⟨xs, k, h2, kD_is j, rfl⟩, h3.val k⟩
  | t k h e =>
    subst e
    obtain ⟨a, xs, h1, h2, h3⟩ := h.at r i
    cases j with
    | @tup b ys _ j1 j2 =>
      rw [kDs_is j2] at j1
      exact ⟨a, _, h1, .inr ⟨xs, k, b, h2, rfl, r.le.eq j1 id, rfl⟩, h3.val k⟩

/-! ### d[y], y in d -/
def rDG : R2 := fun x y H Q => ∃ a v, x = .ref a ∧ DGet H a y (some v) ∧ Q v H
def rDI (neg : Bool) : R2 := fun x y H Q => ∃ a o, y = .ref a ∧ DGet H a x o ∧ Q (.bl (if neg then !o.isSome else o.isSome)) H
theorem r2_dg (g : DG M x y (some d)) (h : Φ d M) : R2' K rDG x y M Φ := fun F H R u v i1 i2 Q q => by
  obtain ⟨a, z, e1, e2, e3⟩ := g.at R i1 i2
  cases z with
  | none => exact e3.elim
  | some w => exact ⟨a, w, e1, e2, q.here R e3 h⟩
theorem r2_di {o : Option D} (g : DG M y x o) (h : Φ (.bl o.isSome) M) : R2' K (rDI false) x y M Φ := fun F H R u v i1 i2 Q q => by
  obtain ⟨a, z, e1, e2, e3⟩ := g.at R i2 i1
  have e : z.isSome = o.isSome := by cases z <;> cases o <;> first | rfl | exact e3.elim
  exact ⟨a, z, e1, e2, by show Q (.bl z.isSome) H; rw [e]; exact q.here R (.bl _) h⟩
theorem r2_dni {o : Option D} (g : DG M y x o) (h : Φ (.bl (!o.isSome)) M) : R2' K (rDI true) x y M Φ := fun F H R u v i1 i2 Q q => by
  obtain ⟨a, z, e1, e2, e3⟩ := g.at R i2 i1
  have e : z.isSome = o.isSome := by cases z <;> cases o <;> first | rfl | exact e3.elim
  exact ⟨a, z, e1, e2, by show Q (.bl (!z.isSome)) H; rw [e]; exact q.here R (.bl _) h⟩
/-! ### d[y] = v -/
/-- the j-th that is owned gets v at y -/
inductive DPt (M : Ms) (j : Nat) : D → D → D → Ms → Prop
  | k {p : Addr} {ds : List (Key × D)} {d : D} (k : Key) : M[j]? = some (p, .dK ds) → ds.length < 100000 → DPt M j (.ptr p) (kD k) d (M.set j (p, .dK (putD ds k d)))
  | t {p : Addr} {ds : List (List Key × D)} {d : D} (k : List Key) : M[j]? = some (p, .dT ds) → ds.length < 100000 → DPt M j (.ptr p) (.tup (k.map kD)) d (M.set j (p, .dT (putD ds k d)))
theorem DPt.at {j : Nat} {u w z : V} (g : DPt M j x y d M') (r : Rep K F H M) (i1 : Is K F u x) (i2 : Is K F w y) (i3 : Is K F z d) : ∃ a H', u = .ref a ∧ DPut H a w z H' ∧ Rep K F H' M' ∧ Ext F H M F H' M' := by
  cases g with
  | @k p ds _ k h hl =>
    cases i1
    obtain ⟨_, ho, h1, h2⟩ := r.own _ (List.mem_of_getElem? h)
    cases h2 with
    | @dK vs _ h2 =>
      obtain ⟨r', x'⟩ := r.write h (Own.dK (h2.put k i3))
      exact ⟨p, _, rfl, .inl ⟨vs, k, h1, kD_is i2, by rw [h2.length]; exact sz_lt hl, rfl⟩, r', x'⟩
  | @t p ds _ k h hl =>
    cases i1
    obtain ⟨_, ho, h1, h2⟩ := r.own _ (List.mem_of_getElem? h)
    cases h2 with
    | @dT vs _ h2 =>
      cases i2 with
      | @tup b ys _ j1 j2 =>
        rw [kDs_is j2] at j1
        obtain ⟨r', x'⟩ := r.write h (Own.dT (h2.put k i3))
        exact ⟨p, _, rfl, .inr ⟨vs, k, b, h1, rfl, r.le.eq j1 id, by rw [h2.length]; exact sz_lt hl, rfl⟩, r', x'⟩
theorem es_dput (h : EV K tv Γ M fun z M1 => EV K td Γ M1 fun x M2 => EV K ty Γ M2 fun y M3 => ∃ j M4, DPt M3 j x y z M4 ∧ E.nx Γ M4) : ES K (sDPut td ty tv) Γ M E := fun σ F H S R De n rt b c =>
  h σ F H S R _ fun v F1 H1 z M1 x1 r1 i1 h1 => h1 σ F1 H1 (S.mono x1.f) r1 _ fun u F2 H2 x M2 x2 r2 i2 h2 => h2 σ F2 H2 ((S.mono x1.f).mono x2.f) r2 _ fun w F3 H3 y M3 x3 r3 i3 ⟨j, M4, g, h3⟩ => by
    obtain ⟨a, H', e1, e2, e3, e4⟩ := g.at r3 (i2.mono x3.f) i3 ((i1.mono x2.f).mono x3.f)
    exact ⟨a, H', e1, e2, n σ F3 H' Γ M4 (((x1.trans x2).trans x3).trans e4) (((S.mono x1.f).mono x2.f).mono x3.f) e3 h3⟩
/-! ### new dicts -/
theorem en_dk0 {Φ : O → Ms → Prop} (h : Φ (.dK []) M) : EN K tDNewK Γ M Φ := fun σ F H S R Q q p hp => q.made R hp (.dK .nil) h
theorem en_dt0 {Φ : O → Ms → Prop} (h : Φ (.dT []) M) : EN K tDNewT Γ M Φ := fun σ F H S R Q q p hp => q.made R hp (.dT .nil) h
/-- dict(d) -/
def rDCopy : List V → Hp → VK → Prop := fun xs H Q => ∃ (a : Addr) (kvs : List (Key × V)), xs = [.ref a] ∧ Rd H a (.dK kvs) ∧ ∀ p, H p = none → Q (.ref p) (upd H p (.dK kvs))
theorem rc_dcopy {ds : List (Key × D)} (x : D) {xs : List D} {Φ : O → Ms → Prop} (e : xs = [x]) (l : DR M x ds) (h : Φ (.dK ds) M) : RC' K rDCopy xs M (NP Φ) := fun F H R us i1 Q q => by
  subst e
  cases i1 with
  | cons i1 i2 =>
    cases i2
    obtain ⟨a, vs, rfl, e1, e2⟩ := l.at R i1
    exact ⟨a, vs, rfl, e1, fun p hp => q.made R hp (.dK e2) h⟩
end
end DL


set_option Elab.async false
set_option linter.all false
set_option maxRecDepth 100000
set_option maxHeartbeats 2000000
/-! dicts walked: they come to be locked for good -/
namespace DL
open PySem PySem.Spec PyProof.Rows L2 StX
def frzAll : List Addr → Hp → (Hp → Prop) → Prop
  | [], H, k => k H
  | d :: ds, H, k => ∃ u, H d = some u ∧ Mut (some u) ∧ ∀ od, frzAll ds (upd H d (.frz od u)) k
theorem inv_frz {X : Cx} {pins : List (Addr × Obj)} {σ : L2.St} {s : Shared} : ∀ (ds : List Addr) {H : Hp} {k : Hp → Prop}, Inv X pins σ H s → frzAll ds H k → ∃ H', Inv X pins σ H' s ∧ k H'
  | [], H, k, I, h => ⟨H, I, h⟩
  | d :: ds, H, k, I, ⟨u, hd, mu, h⟩ => by
    obtain ⟨od, I1⟩ := I.lock hd mu
    exact inv_frz ds I1 (h od)
def tFrzE (t : TE) : TE := fun σ H Q => t σ H fun v H' => ∃ ds, frzAll ds H' (Q v)
theorem pe_frzE {X : Cx} {e : Expr} {t : TE} (h : PE X e t) : PE X e (tFrzE t) := by
  refine ⟨fun pins s σ H Q I hw => ?_⟩
  refine thn (h.run pins s σ _ _ I hw) fun v s1 ⟨x, H1, I1, r, ds, q⟩ => ?_
  obtain ⟨H2, I2, q2⟩ := inv_frz ds I1 q
  exact ⟨x, H2, I2, r, q2⟩
section
variable {K : PySem.W.Frag} {F H F1 H1 F2 H2 F' H' : Hp} {M M1 M2 M' A B : Ms} {σ : L2.St} {Γ Γ' : Gm} {Φ Ψ : D → Ms → Prop} {Q : VK} {ta tb tc te td ty tv : TE} {t u : TT} {ts tu tz : TS} {r r' : R2} {d x y : D} {v : V} {E E' : DE}
/-- what is known may be known as locked -/
theorem Rep.lockF {a : Addr} {u : HO} {ob : Obj} (r : Rep K F H M) (hu : Dct u) (hf : F a = some u) (hh : H a = some (.frz ob u)) : Rep K (upd F a (.frz ob u)) H M ∧ Ext F H M (upd F a (.frz ob u)) H M := by
  have g : Gr F (upd F a (.frz ob u)) := fun b o e => by
    by_cases hb : b = a
    · subst hb
      rw [hf] at e
      cases e
      rw [upd_same]
      exact .inr ⟨hu, ob, rfl⟩
    · rw [upd_ne hb]
      exact .inl e
  refine ⟨⟨fun b o e => ?_, r.nd, fun q hq => ?_⟩, ⟨g, fun _ _ h _ => .inl h, fun b e => ?_, fun _ h => .inr h⟩⟩
  · by_cases hb : b = a
    · subst hb
      rw [upd_same] at e
      cases e
      exact .inl hh
    · rw [upd_ne hb] at e
      exact r.le b o e
  · obtain ⟨h1, ho, h2, h3⟩ := r.own q hq
    have hne : q.1 ≠ a := fun z => by rw [z, hf] at h1; cases h1
    exact ⟨by rw [upd_ne hne]; exact h1, ho, h2, h3.mono g⟩
  · by_cases hb : b = a
    · subst hb
      exact .inl (by rw [hf]; exact fun z => nomatch z)
    · rw [upd_ne hb] at e
      exact .inl e
theorem Rep.lockH {a : Addr} {u : HO} {ob : Obj} (r : Rep K F H M) (hu : Dct u) (hf : F a = some u) (hh : H a = some u) : Rep K (upd F a (.frz ob u)) (upd H a (.frz ob u)) M ∧ Ext F H M (upd F a (.frz ob u)) (upd H a (.frz ob u)) M := by
  have g : Gr F (upd F a (.frz ob u)) := fun b o e => by
    by_cases hb : b = a
    · subst hb
      rw [hf] at e
      cases e
      rw [upd_same]
      exact .inr ⟨hu, ob, rfl⟩
    · rw [upd_ne hb]
      exact .inl e
  refine ⟨⟨fun b o e => ?_, r.nd, fun q hq => ?_⟩, ⟨g, fun b o e hm => ?_, fun b e => ?_, fun _ h => .inr h⟩⟩
  · by_cases hb : b = a
    · subst hb
      rw [upd_same] at e
      cases e
      rw [upd_same]
      exact .inl rfl
    · rw [upd_ne hb] at e ⊢
      exact r.le b o e
  · obtain ⟨h1, ho, h2, h3⟩ := r.own q hq
    have hne : q.1 ≠ a := fun z => by rw [z, hf] at h1; cases h1
    exact ⟨by rw [upd_ne hne]; exact h1, ho, by rw [upd_ne hne]; exact h2, h3.mono g⟩
  · by_cases hb : b = a
    · subst hb
      rw [hh] at e
      cases e
      exact .inr ⟨(by rw [hf]; exact fun z => nomatch z), (by rw [upd_same]; exact .inr ⟨hu, ob, rfl⟩)⟩
    · rw [upd_ne hb]
      exact .inl e
  · by_cases hb : b = a
    · subst hb
      exact .inl (by rw [hf]; exact fun z => nomatch z)
    · rw [upd_ne hb] at e
      exact .inl e
/-- a dict that is known is locked, if it is not yet -/
theorem lock_it {a : Addr} {u : HO} (r : Rep K F H M) (hu : Dct u) (hm : Mut (some u)) (h : Rd F a u) {k : Hp → Prop} (hk : ∀ ob F2 H2, Ext F H M F2 H2 M → Rep K F2 H2 M → F2 a = some (.frz ob u) → k H2) : ∃ ds, frzAll ds H k := by
  rcases h with h | ⟨ob, h⟩
  · rcases r.le a u h with h1 | ⟨_, ob, h1⟩
    · refine ⟨[a], u, h1, hm, fun od => ?_⟩
      obtain ⟨r2, x2⟩ := r.lockH (ob := od) hu h h1
      exact hk od _ _ x2 r2 upd_same
    · obtain ⟨r2, x2⟩ := r.lockF hu h h1
      exact ⟨[], hk ob _ _ x2 r2 upd_same⟩
  · exact ⟨[], hk ob _ _ .refl r h⟩

/-! ### for k in d, d.values(), d.items() -/
theorem ei_keys {Ψ : List D → Ms → Prop} (h : EV K td Γ M fun x M1 => (∃ ds, x = .dK ds ∧ Ψ (ds.map fun p => kD p.1) M1) ∨ ∃ ds, x = .dT ds ∧ Ψ (ds.map fun p => .tup (p.1.map kD)) M1) : EI K (iKeys (tFrzE td)) Γ M Ψ := fun σ F H S R Rw q =>
  h σ F H S R _ fun v F1 H1 d M1 x1 r1 i1 h1 => by
    rcases h1 with ⟨ds, rfl, h1⟩ | ⟨ds, rfl, h1⟩
    · cases i1 with
      | @dK a xs _ e1 e2 =>
        refine lock_it (u := .dK xs) r1 True.intro True.intro e1 fun ob F2 H2 x2 r2 hF => ?_
        refine ⟨a, ob, rfl, .inl ⟨xs, r2.le.eq hF id, q _ F2 H2 _ M1 (x1.trans x2) r2 ⟨fun F3 H3 M3 g r3 => ⟨r3.le.eq (g.eq hF id) id, ?_⟩, fun F3 H3 M3 i d g r3 hx => ⟨⟨r3.le.eq (g.eq hF id) id, ?_⟩, fun w H4 y => ?_⟩⟩ h1⟩⟩
        · rw [List.length_map, e2.length]
          exact Nat.le_refl _
        · have := (List.getElem?_eq_some_iff.mp hx).1
          rw [List.length_map] at this
          rw [e2.length]
          exact this
        · obtain ⟨rfl, k, z, h3, rfl⟩ := y
          rw [List.getElem?_map] at hx
          cases hp : ds[i]? with
          | none => rw [hp] at hx; cases hx
          | some p =>
            rw [hp] at hx
            obtain ⟨w, h4, _⟩ := e2.get hp
            rw [h3] at h4
            cases h4
            cases hx
            exact ⟨F3, .refl, r3, is_kD _⟩
    · cases i1 with
      | @dT a xs _ e1 e2 =>
        refine lock_it (u := .dT xs) r1 True.intro True.intro e1 fun ob F2 H2 x2 r2 hF => ?_
        refine ⟨a, ob, rfl, .inr ⟨xs, r2.le.eq hF id, q _ F2 H2 _ M1 (x1.trans x2) r2 ⟨fun F3 H3 M3 g r3 => ⟨r3.le.eq (g.eq hF id) id, ?_⟩, fun F3 H3 M3 i d g r3 hx => ⟨⟨r3.le.eq (g.eq hF id) id, ?_⟩, fun w H4 y => ?_⟩⟩ h1⟩⟩
        · rw [List.length_map, e2.length]
          exact Nat.le_refl _
        · have := (List.getElem?_eq_some_iff.mp hx).1
          rw [List.length_map] at this
          rw [e2.length]
          exact this
        · obtain ⟨rfl, k, z, qa, h3, rfl, hq⟩ := y
          rw [List.getElem?_map] at hx
          cases hp : ds[i]? with
          | none => rw [hp] at hx; cases hx
          | some p =>
            rw [hp] at hx
            obtain ⟨w, h4, _⟩ := e2.get hp
            rw [h3] at h4
            cases h4
            cases hx
            have isl : ∀ (F : Hp) (ks : List Key), IsL K F (ks.map kV) (ks.map kD) := fun F ks => by
              induction ks with
              | nil => exact .nil
              | cons k ks ih => exact .cons (is_kD k) ih
            cases hf : F3 qa with
            | some o =>
              have : F3 qa = some (.tup (p.1.map kV)) := by
                rw [hf]
                rcases r3.le qa o hf with z | ⟨_, ob, z⟩
                · rw [z] at hq; exact hq
                · rw [z] at hq; cases hq
              exact ⟨F3, .refl, r3, .tup this (isl _ _)⟩
            | none =>
              have hn : qa ∉ M3.map (·.1) := fun z => by
                obtain ⟨m, hm, rfl⟩ := List.mem_map.mp z
                obtain ⟨_, ho, h2, h3⟩ := r3.own m hm
                rw [hq] at h2
                cases h2
                cases h3
              have g2 : Gr F3 (upd F3 qa (.tup (p.1.map kV))) := Gr.new hf
              refine ⟨_, ⟨g2, fun _ _ e _ => .inl e, fun b e => ?_, fun _ e => .inr e⟩, r3.put hq hn hf, .tup upd_same (isl _ _)⟩
              by_cases hb : b = qa
              · subst hb
                exact .inr (.inr (.inr ⟨_, hq⟩))
              · rw [upd_ne hb] at e
                exact .inl e
theorem ei_vals {Ψ : List D → Ms → Prop} (h : EV K td Γ M fun x M1 => ∃ ds, x = .dK ds ∧ Ψ (ds.map (·.2)) M1) : EI K (iVals (tFrzE td)) Γ M Ψ := fun σ F H S R Rw q =>
  h σ F H S R _ fun v F1 H1 d M1 x1 r1 i1 ⟨ds, e, h1⟩ => by
    subst e
    cases i1 with
    | @dK a xs _ e1 e2 =>
      refine lock_it (u := .dK xs) r1 True.intro True.intro e1 fun ob F2 H2 x2 r2 hF => ?_
      refine ⟨a, ob, xs, rfl, r2.le.eq hF id, q _ F2 H2 _ M1 (x1.trans x2) r2 ⟨fun F3 H3 M3 g r3 => ⟨r3.le.eq (g.eq hF id) id, ?_⟩, fun F3 H3 M3 i d g r3 hx => ⟨⟨r3.le.eq (g.eq hF id) id, ?_⟩, fun w H4 y => ?_⟩⟩ h1⟩
      · rw [List.length_map, e2.length]
        exact Nat.le_refl _
      · have := (List.getElem?_eq_some_iff.mp hx).1
        rw [List.length_map] at this
        rw [e2.length]
        exact this
      · obtain ⟨rfl, k, h3⟩ := y
        rw [List.getElem?_map] at hx
        cases hp : ds[i]? with
        | none => rw [hp] at hx; cases hx
        | some p =>
          rw [hp] at hx
          obtain ⟨z, h4, i4⟩ := e2.get hp
          rw [h3] at h4
          cases h4
          cases hx
          exact ⟨F3, .refl, r3, i4.mono (x2.f.trans g)⟩
theorem ei_items {Ψ : List D → Ms → Prop} (h : EV K td Γ M fun x M1 => ∃ ds, x = .dK ds ∧ Ψ (ds.map fun p => .tup [kD p.1, p.2]) M1) : EI K (iItems (tFrzE td)) Γ M Ψ := fun σ F H S R Rw q =>
  h σ F H S R _ fun v F1 H1 d M1 x1 r1 i1 ⟨ds, e, h1⟩ => by
    subst e
    cases i1 with
    | @dK a xs _ e1 e2 =>
      refine lock_it (u := .dK xs) r1 True.intro True.intro e1 fun ob F2 H2 x2 r2 hF => ?_
      refine ⟨a, ob, xs, rfl, r2.le.eq hF id, q _ F2 H2 _ M1 (x1.trans x2) r2 ⟨fun F3 H3 M3 g r3 => ⟨r3.le.eq (g.eq hF id) id, ?_⟩, fun F3 H3 M3 i d g r3 hx => ⟨⟨r3.le.eq (g.eq hF id) id, ?_⟩, fun w H4 y => ?_⟩⟩ h1⟩
      · rw [List.length_map, e2.length]
        exact Nat.le_refl _
      · have := (List.getElem?_eq_some_iff.mp hx).1
        rw [List.length_map] at this
        rw [e2.length]
        exact this
      · obtain ⟨T, k, z, h3, rfl, hT, rfl⟩ := y
        rw [List.getElem?_map] at hx
        cases hp : ds[i]? with
        | none => rw [hp] at hx; cases hx
        | some p =>
          rw [hp] at hx
          obtain ⟨z', h4, i4⟩ := e2.get hp
          rw [h3] at h4
          cases h4
          cases hx
          exact r3.pair hT (is_kD _) (i4.mono (x2.f.trans g))
/-! ### comprehensions of dicts -/
theorem en_dc {wi : TI} {g : TG} {vs : List Nat} {Φ : O → Ms → Prop} (h : EI K wi Γ M fun xs M1 => xs.length ≤ 90000 ∧ ∃ I : Nat → List (Key × D) → Ms → Prop, I 0 [] M1 ∧
      (∀ i d acc M', xs[i]? = some d → I i acc M' → EG K g vs d (wipeG Γ vs) M' fun Γ2 M2 => ET K t Γ2 M2 fun b M3 => if b = true then EV K te Γ2 M3 fun y M4 => EV K tv Γ2 M4 fun z M5 => ∃ k, y = kD k ∧ I (i + 1) (putD acc k z) M5 else I (i + 1) acc M3) ∧
      ∀ acc M', I xs.length acc M' → Φ (.dK acc) M') : EN K (tDc wi g t te tv vs) Γ M Φ := fun σ F H S R Q q => by
  refine h σ F H S R _ fun J F1 H1 xs M1 x1 r1 j ⟨hz, I, h0, hs, hd⟩ Dl hD => ?_
  obtain ⟨rN, xN⟩ := r1.new hD (Own.dK (K := K) (F := F1) .nil)
  have s1 : RepS K F1 (wipe σ vs) (wipeG Γ vs) := (S.mono x1.f).wipe vs
  refine ⟨fun i m H' => m = xs.length - i ∧ i ≤ xs.length ∧ ∃ F' M' acc, Ext F1 H1 M1 F' H' ((Dl, .dK acc) :: M') ∧ Rep K F' H' ((Dl, .dK acc) :: M') ∧ acc.length ≤ i ∧ I i acc M', ⟨xs.length, by omega, Nat.zero_le _, F1, M1, [], xN, rN, Nat.le_refl _, h0⟩, ?_⟩
  rintro i m H' ⟨rfl, hi, F', M', acc, x', r', hl, i'⟩
  by_cases hlt : i < xs.length
  · have hx : xs[i]? = some xs[i] := List.getElem?_eq_getElem hlt
    obtain ⟨go, yl⟩ := j.item F' H' _ i _ x'.f r' hx
    refine .inr ⟨go, fun H2 => ∃ F2 M2 acc, Ext F1 H1 M1 F2 H2 ((Dl, .dK acc) :: M2) ∧ Rep K F2 H2 ((Dl, .dK acc) :: M2) ∧ acc.length ≤ i + 1 ∧ I (i + 1) acc M2, fun H2 ⟨F2, M2, acc, w⟩ => ⟨xs.length - (i + 1), by omega, rfl, hlt, F2, M2, acc, w⟩, fun v H2 y => ?_⟩
    obtain ⟨F2, x2, r2, i2⟩ := yl v H2 y
    have sub2 : List.Sublist M' ((Dl, O.dK acc) :: M') := List.sublist_cons_self _ _
    refine hs i _ acc M' hx i' (wipe σ vs) F2 H2 v (s1.mono (x'.trans x2).f) (r2.sub sub2) i2 _ fun σ3 F3 H3 Γ3 M3 x3 s3 r3 e3 w3 => ?_
    obtain ⟨r3', x3'⟩ := r2.frame1 x3 r3
    refine ⟨wipe_back (e3.1.trans (wipe_length σ vs)) e3.2, ?_⟩
    refine w3 σ3 F3 H3 s3 r3 _ fun b F4 H4 M4 x4 r4 w4 => ?_
    obtain ⟨r4', x4'⟩ := r3'.frame1 x4 r4
    have x1234 := ((x'.trans x2).trans x3').trans x4'
    cases b with
    | false => exact ⟨F4, M4, acc, x1234, r4', by omega, w4⟩
    | true =>
      refine w4 σ3 F4 H4 (s3.mono x4.f) r4 _ fun yv F5 H5 yd M5 x5 r5 i5 w5 => ?_
      obtain ⟨r5', x5'⟩ := r4'.frame1 x5 r5
      refine w5 σ3 F5 H5 ((s3.mono x4.f).mono x5.f) r5 _ fun zv F6 H6 zd M6 x6 r6 i6 ⟨k, ek, w6⟩ => ?_
      obtain ⟨r6', x6'⟩ := r5'.frame1 x6 r6
      subst ek
      obtain ⟨_, ho, hh, ow⟩ := r6'.own (Dl, O.dK acc) List.mem_cons_self
      cases ow with
      | @dK vacc _ ow =>
        obtain ⟨r7, x7⟩ := r6'.write (j := 0) rfl (Own.dK (ow.put k i6))
        refine ⟨vacc, k, kD_is i5, hh, by rw [ow.length]; exact sz_lt (by omega), F6, M6, putD acc k zd, ((x1234.trans x5').trans x6').trans x7, r7, ?_, w6⟩
        have := putD_length acc k zd
        omega
  · have e : i = xs.length := by omega
    subst e
    refine .inl ⟨j.stop F' H' _ x'.f r', q _ F' H' (.ptr Dl) _ (x1.trans x') r' (.ptr Dl) ⟨Dl, .dK acc, M', rfl, rfl, hd acc M' i'⟩⟩
end
end DL


set_option Elab.async false
set_option linter.all false
set_option maxRecDepth 100000
set_option maxHeartbeats 2000000
/-! instances: fields, methods, making; len(o), x in o by the text's own defs -/
namespace DL
open PySem PySem.Spec PyProof.Rows L2 StX
def putFD (f : Str) (v : D) : List (Str × D) → List (Str × D)
  | [] => [(f, v)]
  | (g, x) :: r => if g = f then (g, v) :: r else (g, x) :: putFD f v r
section
variable {K : PySem.W.Frag} {F H F1 H1 F2 H2 F' H' : Hp} {M M1 M2 M' A B : Ms} {σ : L2.St} {Γ Γ' : Gm} {Φ Ψ : D → Ms → Prop} {Q : VK} {ta tb tc te td ty tv : TE} {tl : TA} {t u : TT} {ts tu tz : TS} {r r' : R2} {d x y : D} {v : V} {E E' : DE} {C : Addr}
theorem isa_lookup {f : Str} : ∀ {xs : List (Str × V)} {ds : List (Str × D)}, IsA K F Str xs ds → OptIs K F (xs.lookup f) (ds.lookup f)
  | [], [], _ => True.intro
  | (k, v) :: vs, (k', d) :: ds, h => by
    cases h with
    | cons h1 h2 =>
      rw [List.lookup_cons, List.lookup_cons]
      by_cases e : (f == k) = true
      · rw [e]; exact h1
      · rw [Bool.not_eq_true] at e
        rw [e]; exact isa_lookup h2
  | [], _ :: _, h => by cases h
  | _ :: _, [], h => by cases h
theorem isa_putF {f : Str} (i : Is K F v d) : ∀ {xs : List (Str × V)} {ds : List (Str × D)}, IsA K F Str xs ds → IsA K F Str (putF f v xs) (putFD f d ds)
  | [], [], _ => .cons i .nil
  | (k, w) :: vs, (k', e) :: ds, h => by
    cases h with
    | cons h1 h2 =>
      unfold putF putFD
      by_cases q : k = f
      · rw [if_pos q, if_pos q]; exact .cons i h2
      · rw [if_neg q, if_neg q]; exact .cons h1 (isa_putF i h2)
  | [], _ :: _, h => by cases h
  | _ :: _, [], h => by cases h
theorem putFD_length (f : Str) (v : D) : ∀ fs : List (Str × D), (putFD f v fs).length ≤ fs.length + 1
  | [] => Nat.le_refl _
  | (g, x) :: r => by
    unfold putFD
    split
    · rw [List.length_cons, List.length_cons]; omega
    · rw [List.length_cons, List.length_cons]
      have := putFD_length f v r
      omega
/-- what reads as an instance -/
inductive IR (M : Ms) : D → Addr → List (Str × D) → Prop
  | dat (C : Addr) (fs : List (Str × D)) : IR M (.ins C fs) C fs
  | own {p C dx : Addr} {fs : List (Str × D)} : (p, O.ins C dx fs) ∈ M → IR M (.ptr p) C fs
theorem IR.at {fs : List (Str × D)} (l : IR M x C fs) (r : Rep K F H M) (i : Is K F v x) : ∃ a dx xs, v = .ref a ∧ H a = some (.ins C dx xs) ∧ IsA K F Str xs fs := by
  cases l with
  | dat =>
    cases i with
    | ins h1 h2 => exact ⟨_, _, _, rfl, r.le.eq h1 id, h2⟩
  | own hm =>
    cases i
    obtain ⟨_, ho, h1, h2⟩ := r.own _ hm
    cases h2 with
    | ins h2 => exact ⟨_, _, _, rfl, h1, h2⟩
theorem ev_fld {f : Str} (h : EV K ta Γ M fun x M1 => ∃ C fs d, IR M1 x C fs ∧ Cls K C ∧ NoAttr K C f ∧ fs.lookup f = some d ∧ Φ d M1) : EV K (tFld K ta f) Γ M Φ := fun σ F H S R Q q =>
  h σ F H S R _ fun v F1 H1 x M1 x1 r1 i1 ⟨C, fs, d, l, c, n, e, h1⟩ => by
    obtain ⟨a, dx, xs, e1, e2, e3⟩ := l.at r1 i1
    have := isa_lookup (f := f) e3
    rw [e] at this
    cases hv : xs.lookup f with
    | none => rw [hv] at this; exact this.elim
    | some w =>
      rw [hv] at this
      exact ⟨a, C, dx, xs, w, e1, e2, c, n, hv, q w F1 H1 d M1 x1 r1 this h1⟩
theorem es_fld {f : Str} (h : EV K tv Γ M fun z M1 => EV K ta Γ M1 fun x M2 => ∃ j p C dx fs, x = .ptr p ∧ M2[j]? = some (p, .ins C dx fs) ∧ Cls K C ∧ NoAttr K C f ∧ fs.length < 1000 ∧ E.nx Γ (M2.set j (p, .ins C dx (putFD f z fs)))) : ES K (sFld K ta tv f) Γ M E := fun σ F H S R De n rt b c =>
  h σ F H S R _ fun v F1 H1 z M1 x1 r1 i1 h1 => h1 σ F1 H1 (S.mono x1.f) r1 _ fun u F2 H2 x M2 x2 r2 i2 ⟨j, p, C, dx, fs, ex, hj, hc, hn, hl, h2⟩ => by
    subst ex
    cases i2
    obtain ⟨_, ho, e1, e2⟩ := r2.own _ (List.mem_of_getElem? hj)
    cases e2 with
    | @ins _ _ vs _ e2 =>
      obtain ⟨r3, x3⟩ := r2.write hj (Own.ins (C := C) (dx := dx) (isa_putF (i1.mono x2.f) e2))
      exact ⟨p, C, dx, vs, rfl, e1, hc, hn, by rw [e2.length]; exact hl, n σ F2 _ Γ _ ((x1.trans x2).trans x3) ((S.mono x1.f).mono x2.f) r3 h2⟩
/-- a method -/
theorem ev_meth {S : SpD} {Ex : XK} {m : Str} (h : EV K ta Γ M fun x M1 => ∃ fs, IR M1 x C fs ∧ fs.lookup m = none ∧ EA K tl Γ M1 fun ds M2 => S (x :: ds) M2 Φ) : EV K (tMeth C m (spOf K S) [] Ex ta tl) Γ M Φ := fun σ F H S' R Q q =>
  h σ F H S' R _ fun v F1 H1 x M1 x1 r1 i1 ⟨fs, l, e, h1⟩ => by
    obtain ⟨a, dx, xs, e1, e2, e3⟩ := l.at r1 i1
    have hl := isa_lookup (f := m) e3
    rw [e] at hl
    refine ⟨a, dx, xs, e1, e2, ?_, h1 σ F1 H1 (S'.mono x1.f) r1 _ fun vs F2 H2 ds M2 x2 r2 i2 h2 => ⟨F2, M2, x :: ds, _, r2, ?_, h2, q.trans (x1.trans x2)⟩⟩
    · cases hv : xs.lookup m with
      | none => rfl
      | some w => rw [hv] at hl; exact hl.elim
    · rw [List.append_nil]
      exact .cons (i1.mono x2.f) i2
/-- C(..) -/
theorem ev_make {S : SpD} {Ex : XK} (h : EA K tl Γ M fun ds M1 => ∀ x dx, S (.ptr x :: ds) ((x, .ins C dx []) :: M1) fun d M2 => d = .non ∧ Φ (.ptr x) M2) : EV K (tMake C (spOf K S) [] Ex tl) Γ M Φ := fun σ F H S' R Q q =>
  h σ F H S' R _ fun vs F1 H1 ds M1 x1 r1 i1 h1 x dx hx hdx hne => by
    obtain ⟨f1, n1⟩ := r1.fresh hdx
    have rq : Rep K F1 (upd H1 dx (.own x)) M1 ∧ L2.Ext H1 (upd H1 dx (.own x)) := ⟨⟨fun a o e => by
      have := r1.le a o e
      rw [upd_ne (fun z => this.some (by rw [z]; exact hdx))]
      exact this, r1.nd, fun p hp => by
        obtain ⟨e1, ho, e2, e3⟩ := r1.own p hp
        exact ⟨e1, ho, by rw [upd_ne (fun z => by rw [z, hdx] at e2; cases e2)]; exact e2, e3⟩⟩, L2.Ext.upd hdx⟩
    have xq : DL.Ext F1 H1 M1 F1 (upd H1 dx (.own x)) M1 := ⟨Gr.refl _, fun a o e _ => .inl (rq.2 a o e), fun _ e => .inl e, fun _ e => .inr e⟩
    have hx2 : upd H1 dx (.own x) x = none := by rw [upd_ne (Ne.symm hne)]; exact hx
    obtain ⟨r2, x2⟩ := rq.1.new hx2 (Own.ins (C := C) (dx := dx) (K := K) (F := F1) (.nil (κ := Str)))
    refine ⟨F1, _, .ptr x :: ds, _, r2, ?_, h1 x dx, ?_⟩
    · rw [List.append_nil]
      exact .cons (.ptr x) i1
    · rintro v F3 H3 d M3 x3 r3 i3 ⟨rfl, h3⟩
      cases i3
      exact ⟨rfl, q (.ref x) F3 H3 (.ptr x) M3 (((x1.trans xq).trans x2).trans x3) r3 (.ptr x) h3⟩
end

/-! ### len(o), x in o -/
section
variable {X : Cx} {CX : CXT} {k : Nat} {C f : Addr} {fd : FuncData} {ps : List Str} {sp : Sp} {Ex : XK}
def rLenO (C : Addr) (sp : Sp) (Ex : XK) : List V → Hp → VK → Prop := fun xs H Q => ∃ a dx fs, xs = [.ref a] ∧ H a = some (.ins C dx fs) ∧ sp [.ref a] H (fun v H' => ∃ n : Int, v = .int n ∧ 0 ≤ n ∧ n < 2 ^ 63 ∧ Q (.int n) H') Ex
def rInO (C : Addr) (sp : Sp) (Ex : XK) (neg : Bool) : R2 := fun x y H Q => ∃ a dx fs, y = .ref a ∧ H a = some (.ins C dx fs) ∧ sp [.ref a, x] H (fun v H' => ∃ b, v = .bl b ∧ Q (.bl (if neg then !b else b)) H') Ex
theorem call_lenO (F : FnOk X.prog X.w X.K X.mg X.base CX k f fd ps sp) (hs : PySem.W.findIn X.K (.ref C) "__len__" = some (some (.ref f))) (hf : PySem.W.isFn X.K (.ref f) = true) (hb : Binds X.K fd ps []) (hx : Passes CX X Ex) (hr : Room (k + 1) X.A) : CallR X (.builtin "len") (rLenO C sp Ex) := by
  intro pins s σ H xs us Q I r h
  obtain ⟨a, dx, fs, rfl, ha, hsp⟩ := h
  obtain ⟨u, eu, rx⟩ := vals1 r
  subst eu
  cases rx
  obtain ⟨mA, J, _⟩ := ins_get I.hok ha
  obtain ⟨od, J, _⟩ := J.look
  obtain ⟨m, hF⟩ := I.fr
  refine PySem.W.len_K hF I.ok.mod.kin J hs hf ?_
  have hr1 := hr.in1
  have e0 : Env0 X.prog X.w X.K X.mg X.base X.A.in1 X.stack s H := by
    have e := I.env0
    exact ⟨e.frames, e.mod, e.bs, e.bsz, e.funs, e.frf, e.hok, e.bare⟩
  have hl := F.len _ _ _ _ hsp
  refine wpAny_call (codeAny_mono (F.run X.A.in1 X.stack s H ⟨[.ref a], []⟩ [.ref a] [.ref a] _ Ex hr1 e0 (by
    have := hb s [.ref a] I.kIn (by simpa using hl)
    simpa using this) (.cons rfl .nil) hsp) fun r s' hq => ?_)
  cases r with
  | error e => exact hx pins σ H s e s' I hq
  | ok fl =>
    cases fl with
    | ret w =>
      obtain ⟨z, H', I', rz, n, ez, h0, h1, q⟩ := I.after hq
      subst ez
      obtain ⟨t, rfl⟩ := rz
      exact ⟨⟨h0, h1⟩, .int n, H', I'.tok (t := s'.toks + 1), ⟨_, rfl⟩, q⟩
    | next => exact False.elim hq
    | brk => exact False.elim hq
    | cont => exact False.elim hq
theorem op_inO {neg : Bool} (F : FnOk X.prog X.w X.K X.mg X.base CX k f fd ps sp) (hs : PySem.W.findIn X.K (.ref C) "__contains__" = some (some (.ref f))) (hf : PySem.W.isFn X.K (.ref f) = true) (hb : Binds X.K fd ps []) (hx : Passes CX X Ex) (hr : Room k X.A) : OpR X (compareOp (if neg then .NotIn else .In)) (rInO C sp Ex neg) := by
  intro pins s σ H x y v u Q I rx ry h
  obtain ⟨a, dx, fs, rfl, ha, hsp⟩ := h
  cases ry
  obtain ⟨mA, J, _⟩ := ins_get I.hok ha
  obtain ⟨od, J, _⟩ := J.look
  obtain ⟨m, hF⟩ := I.fr
  have e0 : Env0 X.prog X.w X.K X.mg X.base X.A X.stack s H := I.env0
  have hl := F.len _ _ _ _ hsp
  have run := codeAny_mono (F.run X.A X.stack s H ⟨[.ref a, v], []⟩ [.ref a, v] [.ref a, x] _ Ex hr e0 (by
    have := hb s [.ref a, v] I.kIn (by simpa using hl)
    simpa using this) (.cons rfl (.cons rx .nil)) hsp) (fun r s' hq => (show wants (fun w s' => ∃ b, w = .bool b ∧ EP X pins σ Q (.bool (if neg then !b else b)) s') X.xe r s' from by
      cases r with
      | error e => exact hx pins σ H s e s' I hq
      | ok fl =>
        cases fl with
        | ret w =>
          obtain ⟨z, H', I', rz, b, ez, q⟩ := I.after hq
          subst ez
          cases rz
          exact ⟨b, rfl, .bl _, H', I', rfl, q⟩
        | next => exact False.elim hq
        | brk => exact False.elim hq
        | cont => exact False.elim hq))
  cases neg with
  | false =>
    refine PySem.W.in_K hF I.ok.mod.kin J hs hf (wpAny_mono (wpAny_call run) (fun r s' hr => ?_) fun _ _ z => z)
    obtain ⟨b, rfl, q⟩ := hr
    exact wpAny_truthy_bool q
  | true =>
    refine PySem.W.notIn_K hF I.ok.mod.kin J hs hf (wpAny_mono (wpAny_call run) (fun r s' hr => ?_) fun _ _ z => z)
    obtain ⟨b, rfl, q⟩ := hr
    exact wpAny_truthy_bool q
end
end DL


set_option Elab.async false
set_option linter.all false
set_option maxRecDepth 100000
set_option maxHeartbeats 2000000
/-! for x in o, o's class with its own __iter__ that gives out iter(a dict) -/
namespace DL
open PySem PySem.Spec PyProof.Rows L2 StX
/-! ### a base that is as long as the heap -/
def padH (h : Heap) (n : Nat) : Heap := ⟨h.objs ++ Array.replicate (n - h.objs.size) ⟨.none, none, .freed, #[]⟩, h.life⟩
theorem padH_get (h : Heap) (n : Nat) (a : Addr) : (padH h n).get? a = h.get? a := by
  unfold padH Heap.get?
  dsimp only
  by_cases ha : a < h.objs.size
  · rw [Array.getElem?_append_left ha]
  · have hn : h.objs[a]? = none := Array.getElem?_eq_none (Nat.le_of_not_lt ha)
    rw [Array.getElem?_append_right (Nat.le_of_not_lt ha), Array.getElem?_replicate, hn]
    by_cases q : a - h.objs.size < n - h.objs.size
    · rw [if_pos q]
    · rw [if_neg q]
theorem padH_size {h : Heap} {n : Nat} (hn : h.objs.size ≤ n) : (padH h n).objs.size = n := by
  unfold padH
  simp only [Array.size_append, Array.size_replicate]
  omega
theorem funFrames_of {h base base' : Heap} (g : ∀ b, base'.get? b = base.get? b) : ∀ l : List Env, h.FunFrames base l → h.FunFrames base' l
  | [], _ => True.intro
  | _ :: r, ⟨k, ⟨L, o, hf, hn, ho, hd⟩, t⟩ => ⟨k, ⟨L, o, hf, (g L).trans hn, ho, hd⟩, funFrames_of g r t⟩
theorem env0_pad {P : Program} {w : World} {K : PySem.W.Frag} {mg : Str → Option Value} {base : Heap} {A : Around} {outer : List Env} {s : Shared} {H : Hp} (e : Env0 P w K mg base A outer s H) : Env0 P w K mg (padH base s.heap.objs.size) A outer s H := by
  have k : ∀ b o, base.get? b = some o → (padH base s.heap.objs.size).get? b = some o := fun b o q => (padH_get _ _ _).trans q
  refine ⟨e.frames, ⟨e.mod.kin.keeps k, e.mod.glob.keeps k, ?_, ?_⟩, fun b o q => e.bs b o ((padH_get _ _ _).symm.trans q), Nat.le_of_eq (padH_size e.bsz), funFrames_of (padH_get _ _) _ e.funs, e.frf, e.hok, e.bare⟩
  · obtain ⟨mb, h1, h2⟩ := e.mod.blt
    exact ⟨mb, h1.keeps k, h2⟩
  · obtain ⟨mc, h1, h2⟩ := e.mod.nolimit
    exact ⟨mc, h1.keeps k, h2⟩
/-! ### iter(d) -/
def KIt (d it : Addr) (ob : Obj) (n : Nat) : HO := .ext fun h => ∃ es ep, ob.data = .dict es ep ∧ h.IsKeyIter it d 0 n ep
theorem kit_ok {P : Program} {w : World} {H : Hp} {h : Heap} {d it : Addr} {ob : Obj} {n ep : Nat} {es : Array DictEntry} (e : ob.data = .dict es ep) (k : h.IsKeyIter it d 0 n ep) : ObjOk P w H h it (KIt d it ob n) :=
  ⟨⟨es, ep, e, k⟩, let ⟨o, ho, _⟩ := k; ⟨o, ho⟩, fun _ _ ⟨es, ep, e, o, ho, r⟩ k => ⟨es, ep, e, o, k _ ho, r⟩⟩
def rIterK (n : Nat) : List V → Hp → VK → Prop := fun xs H Q => ∃ (d : Addr) (ob : Obj) (kvs : List (Key × V)), xs = [.ref d] ∧ H d = some (.frz ob (.dK kvs)) ∧ ∀ it, H it = none → n ≤ it → Q (.ref it) (upd H it (KIt d it ob kvs.length))
section
variable {X : Cx}
theorem call_iterK : CallR X (.builtin "iter") (rIterK X.base.objs.size) := by
  intro pins s σ H xs us Q I r h
  obtain ⟨d, ob, kvs, rfl, hd, q⟩ := h
  obtain rfl := Vals.ref1 r
  obtain ⟨hs, hgd, hx, es, ep, vs, hdt, hsz, kv, hm⟩ := I.frzK hd
  refine Calls.call_function_entry (by decide +kernel) (by decide +kernel) PySem.W.kdk_entry_iter (PySem.W.kdk_args_iter _) ?_
  unfold Builtin.«iter»
  refine wpAny_bind (m := someArgs "iter" 1 2 _) (wpAny_of_eq (a := [Value.ref d]) (by first | rfl | kernel_rfl!) ?_)
  show wpAny _ _ (pyIter (.ref d) >>= _) _ _ _
  refine wpAny_bind (iter_keys hs hgd hx hdt ?_)
  refine wpAny_pure ⟨_, rfl, .ref s.heap.objs.size, _, I.laid (t' := s.toks) (fun b u e => Heap.get?_push_of_some _ e) (Nat.le_refl _) (kit_ok hdt ⟨_, Heap.get?_push_size _ rfl, rfl, ?_⟩), rfl, q _ (I.hok.fresh (Nat.le_refl _)) (Nat.le_trans I.ok.bsz I.sz)⟩
  rw [hsz] <;> rfl
/-! ### its promise, the walk -/
def spIter (C : Addr) (u : Str) (n : Nat) : Sp := fun vs H Q _ => ∃ a dx fs d ob kvs, vs = [.ref a] ∧ H a = some (.ins C dx fs) ∧ fs.lookup u = some (.ref d) ∧ H d = some (.frz ob (.dK kvs)) ∧ ∀ it, H it = none → n ≤ it → Q (.ref it) (upd H it (KIt d it ob kvs.length))
def iOwn (C : Addr) (u : Str) (td : TE) : TI := fun σ H R => td σ H fun x H1 => ∃ a dx fs d ob kvs, x = .ref a ∧ H1 a = some (.ins C dx fs) ∧ fs.lookup u = some (.ref d) ∧ H1 d = some (.frz ob (.dK kvs)) ∧ R (Itk d ob kvs) H1
theorem pi_own {tg e : Expr} {td : TE} {C f : Addr} {u : Str} {fd : FuncData} {ps : List Str} {k : Nat} (he : PE X e td) (F : ∀ base : Heap, FnOk X.prog X.w X.K X.mg base CX0 k f fd ps (spIter C u base.objs.size)) (hs : PySem.W.findIn X.K (.ref C) "__iter__" = some (some (.ref f))) (hf : PySem.W.isFn X.K (.ref f) = true) (hb : Binds X.K fd ps []) (hr : Room k X.A) : PI X tg e (iOwn C u td) := by
  refine ⟨fun pins s σ H R I h => ?_⟩
  refine thn (he.run pins s σ H _ I h) fun v s1 ⟨x, H1, I1, r1, a, dx, fs, d, ob, kvs, ex, ha, hl, hd, q⟩ => ?_
  subst ex
  obtain rfl : v = Value.ref a := r1
  obtain ⟨mA, J, _⟩ := ins_get I1.hok ha
  obtain ⟨od, J, _⟩ := J.look
  obtain ⟨m, hF⟩ := I1.fr
  refine PySem.W.owit_iter hF I1.ok.mod.kin J hs hf ?_
  have e0 := env0_pad I1.env0
  have hsz : (padH X.base s1.heap.objs.size).objs.size = s1.heap.objs.size := padH_size I1.env0.bsz
  have hsp : spIter C u (padH X.base s1.heap.objs.size).objs.size [.ref a] H1 (fun v H' => ∃ it, v = .ref it ∧ H' = upd H1 it (KIt d it ob kvs.length) ∧ H1 it = none ∧ s1.heap.objs.size ≤ it) E0 := ⟨a, dx, fs, d, ob, kvs, rfl, ha, hl, hd, fun it h1 h2 => ⟨it, rfl, rfl, h1, by rw [hsz] at h2; exact h2⟩⟩
  have hlen := (F (padH X.base s1.heap.objs.size)).len _ _ _ _ hsp
  refine wpAny_call (codeAny_mono ((F (padH X.base s1.heap.objs.size)).run X.A X.stack s1 H1 ⟨[.ref a], []⟩ [.ref a] [.ref a] _ E0 hr e0 (by
    have := hb s1 [.ref a] I1.kIn (by simpa using hlen)
    simpa using this) (.cons rfl .nil) hsp) fun r s' hq => ?_)
  cases r with
  | error e => exact hq.elim
  | ok fl =>
    cases fl with
    | ret w =>
      obtain ⟨z, H', I', rz, it, ez, eH, h1, h2⟩ := I1.after hq
      subst ez eH
      cases rz
      have hk : upd H1 it (KIt d it ob kvs.length) it = some (KIt d it ob kvs.length) := upd_same
      obtain ⟨⟨es, ep, hdt, hit⟩, _⟩ := (show ObjOk _ _ _ _ it (KIt d it ob kvs.length) from I'.hok it _ hk)
      unfold PySem.W.OwitIt
      refine wpAny_specialOf (name := Str.ofString "__next__") hit.typeIs PySem.F.slot_dict_keyiterator_next.lookup ?_
      have I2 := ItX.inv_drop I' hk
      rw [ItX.dropH_upd h1] at I2
      refine ⟨it, [it], _, Itk d ob kvs, H1, rfl, I2, turn_keys it hdt, hit, fun b hb => ?_, q⟩
      have e : b = it := by simpa using hb
      subst e
      have := ItX.inv_fp I' hk (Nat.le_trans I1.sz h2)
      rw [ItX.dropH_upd h1] at this
      exact this
    | next => exact False.elim hq
    | brk => exact False.elim hq
    | cont => exact False.elim hq
end
section
variable {K : PySem.W.Frag} {F H F1 H1 F2 H2 F' H' : Hp} {M M1 M2 M' A B : Ms} {σ : L2.St} {Γ Γ' : Gm} {Φ Ψ : D → Ms → Prop} {td : TE} {x y d : D} {C : Addr} {u : Str}
theorem ei_own {Ψ : List D → Ms → Prop} (h : EV K td Γ M fun x M1 => ∃ fs ds, x = .ins C fs ∧ fs.lookup u = some (.dK ds) ∧ Ψ (ds.map fun p => kD p.1) M1) : EI K (iOwn C u (tFrzE td)) Γ M Ψ := fun σ F H S R Rw q =>
  h σ F H S R _ fun v F1 H1 d M1 x1 r1 i1 ⟨fs, ds, e, hl, h1⟩ => by
    subst e
    cases i1 with
    | @ins a _ dx xs _ e1 e2 =>
      have := isa_lookup (f := u) e2
      rw [hl] at this
      cases hv : xs.lookup u with
      | none => rw [hv] at this; exact this.elim
      | some w =>
        rw [hv] at this
        cases this with
        | @dK a' xs' _ e3 e4 =>
          refine lock_it (u := .dK xs') r1 True.intro True.intro e3 fun ob F2 H2 x2 r2 hF => ?_
          refine ⟨a, dx, xs, a', ob, xs', rfl, r2.le.eq (x2.f.eq e1 id) id, hv, r2.le.eq hF id, q _ F2 H2 _ M1 (x1.trans x2) r2 ⟨fun F3 H3 M3 g r3 => ⟨r3.le.eq (g.eq hF id) id, ?_⟩, fun F3 H3 M3 i d g r3 hx => ⟨⟨r3.le.eq (g.eq hF id) id, ?_⟩, fun w H4 y => ?_⟩⟩ h1⟩
          · rw [List.length_map, e4.length]
            exact Nat.le_refl _
          · have := (List.getElem?_eq_some_iff.mp hx).1
            rw [List.length_map] at this
            rw [e4.length]
            exact this
          · obtain ⟨rfl, k, z, h3, rfl⟩ := y
            rw [List.getElem?_map] at hx
            cases hp : ds[i]? with
            | none => rw [hp] at hx; cases hx
            | some p =>
              rw [hp] at hx
              obtain ⟨w, h4, _⟩ := e4.get hp
              rw [h3] at h4
              cases h4
              cases hx
              exact ⟨F3, .refl, r3, is_kD _⟩
theorem rc_lenO {S : SpD} {Ex : XK} {fs : List (Str × D)} (x : D) {xs : List D} (e : xs = [x]) (l : IR M x C fs) (h : S [x] M fun d M' => ∃ n : Int, d = .int n ∧ 0 ≤ n ∧ n < 2 ^ 63 ∧ Φ (.int n) M') : RC' K (rLenO C (spOf K S) Ex) xs M Φ := fun F H R us i1 Q q => by
  subst e
  cases i1 with
  | cons i1 i2 =>
    cases i2
    obtain ⟨a, dx, vs, rfl, e1, e2⟩ := l.at R i1
    refine ⟨a, dx, vs, rfl, e1, F, M, [x], _, R, .cons i1 .nil, h, ?_⟩
    rintro v F2 H2 d M2 x2 r2 i2 ⟨n, rfl, h0, h1, h2⟩
    cases i2
    exact ⟨n, rfl, h0, h1, q _ F2 H2 _ M2 x2 r2 (.int n) h2⟩
theorem r2_inO {S : SpD} {Ex : XK} {neg : Bool} {fs : List (Str × D)} (l : IR M y C fs) (h : S [y, x] M fun d M' => ∃ b, d = .bl b ∧ Φ (.bl (if neg then !b else b)) M') : R2' K (rInO C (spOf K S) Ex neg) x y M Φ := fun F H R u v i1 i2 Q q => by
  obtain ⟨a, dx, vs, rfl, e1, e2⟩ := l.at R i2
  refine ⟨a, dx, vs, rfl, e1, F, M, [y, x], _, R, .cons i2 (.cons i1 .nil), h, ?_⟩
  rintro w F2 H2 d M2 x2 r2 i3 ⟨b, rfl, h2⟩
  cases i3
  exact ⟨b, rfl, q _ F2 H2 _ M2 x2 r2 (.bl _) h2⟩
end
end DL


set_option Elab.async false
set_option linter.all false
set_option maxRecDepth 100000
set_option maxHeartbeats 2000000
/-! dicts with tuple keys: dict(pairs) -/
namespace DL
open PySem PySem.Spec PyProof.Rows L2 StX
def mergeT (kvs more : List (List Key × V)) : List (List Key × V) := more.foldl (fun acc kv => putK acc kv.1 kv.2) kvs
theorem length_mergeT : ∀ (more kvs : List (List Key × V)), (mergeT kvs more).length ≤ kvs.length + more.length
  | [], kvs => by show kvs.length ≤ kvs.length + 0; omega
  | p :: r, kvs => by
    have h1 := length_mergeT r (putK kvs p.1 p.2)
    have h2 := length_putK kvs p.1 p.2
    show (mergeT (putK kvs p.1 p.2) r).length ≤ _
    rw [List.length_cons]; omega
/-- the pairs: tuples of a key's tuple and a value -/
abbrev PTs (K : PySem.W.Frag) (H : Hp) : List Addr → List (List Key × V) → Prop := Paired fun p kv => ∃ b, H p = some (.tup [.ref b, kv.2]) ∧ H b = some (.tup (kv.1.map kV))
section
variable {X : Cx}
theorem kt_merge {H : Hp} {more : List (List Key × V)} {ps : List (List Key × Addr × Value)} (r : KT H more ps) : ∀ {kvs : List (List Key × V)} {xs : List (List Key × Addr × Value)}, KT H kvs xs → KT H (mergeT kvs more) (storedAllH xs ps) := by
  induction r with
  | nil => intro kvs xs q; exact q
  | @cons p q ps qs h t ih =>
    intro kvs xs r0
    obtain ⟨h1, h2, h3⟩ := h
    have e : KT H (putK kvs p.1 p.2) (storedH xs q.1 q.2.1 q.2.2) := by
      have := r0.put _ h2 h3
      rw [← h1]
      exact this
    exact ih e
theorem ptsT_of {pins : List (Addr × Obj)} {σ : L2.St} {H : Hp} {s : Shared} (I : Inv X pins σ H s) : ∀ {ps : List Addr} {kvs : List (List Key × V)}, PTs X.K H ps kvs →
    ∃ qs : List (List Key × Addr × Value), KT H kvs qs ∧ qs.length = ps.length ∧ ∀ (j : Nat) (q : List Key × Addr × Value), qs[j]? = some q → ∃ p, ps[j]? = some p ∧ PairAt s.heap p (.ref q.2.1) q.2.2 ∧ H q.2.1 = some (.tup (q.1.map kV))
  | _, _, .nil => ⟨[], .nil, rfl, fun j q e => by simp at e⟩
  | _, _, .cons (a := p) (b := kv) h t => by
    obtain ⟨qs, r, hl, hp⟩ := ptsT_of I t
    obtain ⟨b, h1, h2⟩ := h
    obtain ⟨its, rv, ht, _⟩ := I.tuple (.inl (.inl h1))
    obtain ⟨u, y, ei, ru, ry⟩ := vals2 rv
    subst ei
    cases ru
    refine ⟨(kv.1, b, y) :: qs, .cons ⟨rfl, h2, ry⟩ r, by rw [List.length_cons, List.length_cons, hl], fun j q e => ?_⟩
    cases j with
    | zero =>
      have e' : (kv.1, b, y) = q := Option.some.inj e
      subst e'
      exact ⟨p, rfl, .inl ht, h2⟩
    | succ j =>
      obtain ⟨p', e1, e2⟩ := hp j q (by simpa using e)
      exact ⟨p', by simpa using e1, e2⟩
theorem key_stays {P : Program} {w : World} {h h' : Heap} {ks : List Key} {a : Addr} (k : (tupleKind (mixKind P w)).is h ks a) (e : ∀ o, h.get? a = some o → h'.get? a = some o) : (tupleKind (mixKind P w)).is h' ks a := by
  obtain ⟨o, its, n, h1, h2, h3, h4⟩ := k
  exact ⟨o, its, n, e o h1, h2, h3, h4⟩
/-- dict(xs) of a list of pairs whose keys are tuples -/
def rDictPT (K : PySem.W.Frag) : List V → Hp → VK → Prop := fun xs H Q => ∃ (a : Addr) (ps : List Addr) (kvs : List (List Key × V)), xs = [.ref a] ∧ SqL K H a (ps.map V.ref) ∧ PTs K H ps kvs ∧ ∀ p, H p = none → Q (.ref p) (upd H p (.dT (mergeT [] kvs)))
theorem call_dictPT (hcalm : X.calm = true) (hu : X.A.units + 64 < cLine) : CallR X (.type "dict") (rDictPT X.K) := by
  intro pins s σ H xs us Q I r q
  obtain ⟨a, ps, kvs, ex, hq, hp, q⟩ := q
  subst ex
  obtain ⟨u, eu, rx⟩ := vals1 r
  subst eu
  cases rx
  obtain ⟨its, rv, pl, hz⟩ := I.list hq
  have ei := refs_at rv
  subst ei
  rw [List.length_map] at hz
  obtain ⟨qs, rel, hl, hpr⟩ := ptsT_of I hp
  have hpl : PlainSeq "list" s.heap a (ps.map Value.ref).toArray := by
    obtain ⟨o, n, ho, hc, hd, hdat⟩ := pl
    exact ⟨o, n, ho, hc, hd, hdat⟩
  have hpi : PairItems s.heap (ps.map Value.ref).toArray (fun j => ps.getD j 0) (qs.map fun q => (Value.ref q.2.1, q.2.2)) := by
    refine ⟨by simp [hl], fun j k v e => ?_⟩
    rw [List.getElem?_map] at e
    cases hq2 : qs[j]? with
    | none => rw [hq2] at e; cases e
    | some q2 =>
      rw [hq2] at e
      obtain ⟨p, h1, h2, _⟩ := hpr j q2 hq2
      cases e
      have eD : ps.getD j 0 = p := by rw [List.getD_eq_getElem?_getD, h1]; rfl
      refine ⟨?_, ?_⟩
      · rw [List.getElem?_toArray, List.getElem?_map, h1]
        show some (Value.ref p) = some (Value.ref (ps.getD j 0))
        rw [eD]
      · show PairAt s.heap (ps.getD j 0) _ _
        rw [eD]
        exact h2
  have hkey : ∀ x ∈ qs, H x.2.1 = some (.tup (x.1.map kV)) := fun x hx => by
    obtain ⟨j, hj⟩ := List.getElem?_of_mem hx
    obtain ⟨_, _, _, h3⟩ := hpr j x hj
    exact h3
  refine call_dict_pairsH (knd := tupleKind (mixKind X.prog X.w)) (ps := qs) (PairArg.list a (ps.map Value.ref).toArray (fun j => ps.getD j 0) (qs.map fun q => (Value.ref q.2.1, q.2.2))) (I.ok.hd hcalm) (show X.A.in1.in1.units < cLine from Nat.lt_of_le_of_lt (Nat.add_le_add_left (by decide : 2 ≤ 64) X.A.units) hu) ⟨hpl, hpi⟩ ⟨by rw [List.length_map], fun i key v e => ?_⟩ (fun h' hk x hx => key_stays (key_of I.hok (hkey x hx)) fun o e => hk _ o (Nat.ne_of_lt (Heap.lt_size e)) (fun z => nomatch z) e) (by rw [List.length_map, hl]; exact hz) fun h' tk hd' hk => ?_
  · have e2 : (qs.map fun q => (Value.ref q.2.1, q.2.2))[i]? = some (key, v) := e
    rw [List.getElem?_map] at e2
    cases hq2 : qs[i]? with
    | none => rw [hq2] at e2; cases e2
    | some q2 =>
      rw [hq2] at e2
      cases e2
      exact ⟨q2.1, q2.2.1, rfl, rfl⟩
  · have hm : (s.heap.objs.size == sysModules) = false := beq_eq_false_iff_ne.mpr (Nat.ne_of_gt I.big)
    have hlen : (mergeT [] kvs).length ≤ sizeLine := by
      refine Nat.le_trans (length_mergeT kvs []) ?_
      rw [List.length_nil, Nat.zero_add, Paired.length rel, hl]
      exact hz
    obtain ⟨o, es, ep, h1, h2, h3, h4, _, h5⟩ := hd'
    have hf := I.hok.fresh (Nat.le_refl s.heap.objs.size)
    have rel2 : KT (upd H s.heap.objs.size (.dT (mergeT [] kvs))) (mergeT [] kvs) (storedAllH [] qs) := (kt_merge rel .nil).keeps fun b ys e => by rw [upd_ne (fun z => by rw [z, hf] at e; cases e)]; exact e
    exact ⟨.ref s.heap.objs.size, upd H s.heap.objs.size (.dT (mergeT [] kvs)), I.laid (t' := tk) (fun b o e => hk b o (fun z => nomatch z) e) (Nat.le_refl _) (show ObjOk X.prog X.w _ _ _ (.dT (mergeT [] kvs)) from ⟨hlen, hm, storedAllH [] qs, rel2, o, es, ep, h1, h2, h3, h4, h5⟩), rfl, q _ hf⟩
end
end DL


set_option Elab.async false
set_option linter.all false
set_option maxRecDepth 100000
set_option maxHeartbeats 2000000
/-! built-ins over dicts, sorted, tuples, at the level of data -/
namespace DL
open PySem PySem.Spec PyProof.Rows L2 StX
section
variable {K : PySem.W.Frag} {F H F1 H1 F2 H2 F' H' : Hp} {M M1 M2 M' A B : Ms} {σ : L2.St} {Γ Γ' : Gm} {Φ Ψ : D → Ms → Prop} {Q : VK} {ta tb tc te td ty tv : TE} {tl : TA} {t u : TT} {ts tu tz : TS} {r r' : R2} {d x y : D} {v : V} {E E' : DE} {C : Addr}
def mergeD {κ : Type} [DecidableEq κ] (kvs more : List (κ × D)) : List (κ × D) := more.foldl (fun acc kv => putD acc kv.1 kv.2) kvs
theorem isa_mergeK : ∀ {more : List (Key × V)} {me : List (Key × D)} {kvs : List (Key × V)} {ke : List (Key × D)}, IsA K F Key more me → IsA K F Key kvs ke → IsA K F Key (mergeK kvs more) (mergeD ke me)
  | [], [], _, _, _, r => r
  | (k, v) :: more, (k', d) :: me, kvs, ke, h, r => by
    cases h with
    | cons h1 h2 =>
      show IsA K F Key (mergeK (putK kvs k v) more) (mergeD (putD ke k d) me)
      exact isa_mergeK h2 (r.put k h1)
  | [], _ :: _, _, _, h, _ => by cases h
  | _ :: _, [], _, _, h, _ => by cases h
theorem isa_mergeT : ∀ {more : List (List Key × V)} {me : List (List Key × D)} {kvs : List (List Key × V)} {ke : List (List Key × D)}, IsA K F (List Key) more me → IsA K F (List Key) kvs ke → IsA K F (List Key) (mergeT kvs more) (mergeD ke me)
  | [], [], _, _, _, r => r
  | (k, v) :: more, (k', d) :: me, kvs, ke, h, r => by
    cases h with
    | cons h1 h2 =>
      show IsA K F (List Key) (mergeT (putK kvs k v) more) (mergeD (putD ke k d) me)
      exact isa_mergeT h2 (r.put k h1)
  | [], _ :: _, _, _, h, _ => by cases h
  | _ :: _, [], _, _, h, _ => by cases h
/-- pairs as data -/
def pairK (kvs : List (Key × D)) : List D := kvs.map fun p => .tup [kD p.1, p.2]
def pairT (kvs : List (List Key × D)) : List D := kvs.map fun p => .tup [.tup (p.1.map kD), p.2]
theorem pairK_at (R : Rep K F H M) : ∀ {kvs : List (Key × D)} {vs : List V}, IsL K F vs (pairK kvs) → ∃ (ps : List Addr) (ks : List (Key × V)), vs = ps.map V.ref ∧ Paired (fun p kv => SqT K H p [kV kv.1, kv.2]) ps ks ∧ IsA K F Key ks kvs
  | [], _, h => by cases h; exact ⟨[], [], rfl, .nil, .nil⟩
  | (k, d) :: kvs, _, h => by
    cases h with
    | cons h1 h2 =>
      obtain ⟨ps, ks, e1, e2, e3⟩ := pairK_at R h2
      cases h1 with
      | @tup a xs _ g1 g2 =>
        cases g2 with
        | cons g2 g3 =>
          cases g3 with
          | @cons w _ _ _ g3 g4 =>
            cases g4
            rw [kD_is g2] at g1
            exact ⟨a :: ps, (k, w) :: ks, by rw [e1]; rfl, .cons (.inl (.inl (R.le.eq g1 id))) e2, .cons g3 e3⟩
theorem pairT_at (R : Rep K F H M) : ∀ {kvs : List (List Key × D)} {vs : List V}, IsL K F vs (pairT kvs) → ∃ (ps : List Addr) (ks : List (List Key × V)), vs = ps.map V.ref ∧ PTs K H ps ks ∧ IsA K F (List Key) ks kvs
  | [], _, h => by cases h; exact ⟨[], [], rfl, .nil, .nil⟩
  | (k, d) :: kvs, _, h => by
    cases h with
    | cons h1 h2 =>
      obtain ⟨ps, ks, e1, e2, e3⟩ := pairT_at R h2
      cases h1 with
      | @tup a xs _ g1 g2 =>
        cases g2 with
        | cons g2 g3 =>
          cases g2 with
          | @tup b ys _ g5 g6 =>
            rw [kDs_is g6] at g5
            cases g3 with
            | @cons w _ _ _ g3 g4 =>
              cases g4
              exact ⟨a :: ps, (k, w) :: ks, by rw [e1]; rfl, .cons ⟨b, R.le.eq g1 id, R.le.eq g5 id⟩ e2, .cons g3 e3⟩
def rDictP (K : PySem.W.Frag) : List V → Hp → VK → Prop := fun xs H Q => ∃ (a : Addr) (ps : List Addr) (kvs : List (Key × V)), xs = [.ref a] ∧ SqL K H a (ps.map V.ref) ∧ Paired (fun p kv => SqT K H p [kV kv.1, kv.2]) ps kvs ∧ ∀ p, H p = none → Q (.ref p) (upd H p (.dK (mergeK [] kvs)))
theorem rc_dictP {kvs : List (Key × D)} (x : D) {xs : List D} {Φ : O → Ms → Prop} (e : xs = [x]) (l : LQ M x (pairK kvs)) (h : Φ (.dK (mergeD [] kvs)) M) : RC' K (rDictP K) xs M (NP Φ) := fun F H R us i1 Q q => by
  subst e
  cases i1 with
  | cons i1 i2 =>
    cases i2
    obtain ⟨a, vs, rfl, e1, e2⟩ := l.at R i1
    obtain ⟨ps, ks, rfl, e3, e4⟩ := pairK_at R e2
    exact ⟨a, ps, ks, rfl, e1, e3, fun p hp => q.made R hp (.dK (isa_mergeK e4 .nil)) h⟩
theorem rc_dictPT {kvs : List (List Key × D)} (x : D) {xs : List D} {Φ : O → Ms → Prop} (e : xs = [x]) (l : LQ M x (pairT kvs)) (h : Φ (.dT (mergeD [] kvs)) M) : RC' K (rDictPT K) xs M (NP Φ) := fun F H R us i1 Q q => by
  subst e
  cases i1 with
  | cons i1 i2 =>
    cases i2
    obtain ⟨a, vs, rfl, e1, e2⟩ := l.at R i1
    obtain ⟨ps, ks, rfl, e3, e4⟩ := pairT_at R e2
    exact ⟨a, ps, ks, rfl, e1, e3, fun p hp => q.made R hp (.dT (isa_mergeT e4 .nil)) h⟩
/-! ### sorted -/
abbrev LS (ns : List Str) : D := .lst (ns.map .str)
theorem lqi {x : D} {ns : List Int} (l : LQ M x (ns.map .int)) (R : Rep K F H M) (i : Is K F v x) : ∃ a, v = .ref a ∧ SqL K H a (ns.map V.int) := by
  obtain ⟨a, vs, e, h1, h2⟩ := l.at R i
  rw [isl_ints' ns vs h2] at h1
  exact ⟨a, e, h1⟩
theorem lqs {x : D} {ns : List Str} (l : LQ M x (ns.map .str)) (R : Rep K F H M) (i : Is K F v x) : ∃ a, v = .ref a ∧ SqL K H a (ns.map V.str) := by
  obtain ⟨a, vs, e, h1, h2⟩ := l.at R i
  rw [isl_strs' ns vs h2] at h1
  exact ⟨a, e, h1⟩
theorem isl_strs : ∀ ns : List Str, IsL K F (ns.map V.str) (ns.map D.str)
  | [] => .nil
  | n :: ns => .cons (.str n) (isl_strs ns)
theorem rc_sortedI {ns : List Int} (x : D) {xs : List D} {Φ : O → Ms → Prop} (e : xs = [x]) (l : LQ M x (ns.map .int)) (h : ∀ ns' : List Int, ns'.Perm ns → ns'.Pairwise (· ≤ ·) → Φ (.lst (ns'.map .int)) M) : RC' K (rSortedI K) xs M (NP Φ) := fun F H R us i1 Q q => by
  subst e
  cases i1 with
  | cons i1 i2 =>
    cases i2
    obtain ⟨a, rfl, e1⟩ := lqi l R i1
    exact ⟨a, ns, rfl, e1, fun ns' p h1 h2 hp => q.made R hp (.lst (isl_ints ns')) (h ns' h1 h2)⟩
theorem rc_sortedS {ns : List Str} (x : D) {xs : List D} {Φ : O → Ms → Prop} (e : xs = [x]) (l : LQ M x (ns.map .str)) (h64 : ns.length < 64) (h : ∀ ns' : List Str, ns'.Perm ns → sortedS ns' = true → Φ (.lst (ns'.map .str)) M) : RC' K (rSortedS K) xs M (NP Φ) := fun F H R us i1 Q q => by
  subst e
  cases i1 with
  | cons i1 i2 =>
    cases i2
    obtain ⟨a, rfl, e1⟩ := lqs l R i1
    exact ⟨a, ns, rfl, e1, h64, fun ns' p h1 h2 hp => q.made R hp (.lst (isl_strs ns')) (h ns' h1 h2)⟩
def rSortedDS : List V → Hp → VK → Prop := fun xs H Q => ∃ (a : Addr) (kvs : List (Key × V)) (ks : List Str), xs = [.ref a] ∧ Rd H a (.dK kvs) ∧ kvs.map (·.1) = ks.map Sum.inr ∧ ks.length < 64 ∧ ∀ ys p, ys.Perm ks → sortedS ys = true → H p = none → Q (.ref p) (upd H p (.lst (ys.map V.str)))
def rSortedDI : List V → Hp → VK → Prop := fun xs H Q => ∃ (a : Addr) (kvs : List (Key × V)) (ks : List Int), xs = [.ref a] ∧ Rd H a (.dK kvs) ∧ kvs.map (·.1) = ks.map Sum.inl ∧ ks.length < 64 ∧ ∀ (ys : List Int) (p : Addr), ys.Perm ks → ys.Pairwise (· ≤ ·) → H p = none → Q (.ref p) (upd H p (.lst (ys.map V.int)))
theorem rc_sortedDS {ds : List (Key × D)} {ks : List Str} (x : D) {xs : List D} {Φ : O → Ms → Prop} (e : xs = [x]) (l : DR M x ds) (hk : ds.map (·.1) = ks.map Sum.inr) (h64 : ks.length < 64) (h : ∀ ns' : List Str, ns'.Perm ks → sortedS ns' = true → Φ (.lst (ns'.map .str)) M) : RC' K rSortedDS xs M (NP Φ) := fun F H R us i1 Q q => by
  subst e
  cases i1 with
  | cons i1 i2 =>
    cases i2
    obtain ⟨a, vs, rfl, e1, e2⟩ := l.at R i1
    exact ⟨a, vs, ks, rfl, e1, by rw [e2.keys]; exact hk, h64, fun ns' p h1 h2 hp => q.made R hp (.lst (isl_strs ns')) (h ns' h1 h2)⟩
theorem rc_sortedDI {ds : List (Key × D)} {ks : List Int} (x : D) {xs : List D} {Φ : O → Ms → Prop} (e : xs = [x]) (l : DR M x ds) (hk : ds.map (·.1) = ks.map Sum.inl) (h64 : ks.length < 64) (h : ∀ ns' : List Int, ns'.Perm ks → ns'.Pairwise (· ≤ ·) → Φ (.lst (ns'.map .int)) M) : RC' K rSortedDI xs M (NP Φ) := fun F H R us i1 Q q => by
  subst e
  cases i1 with
  | cons i1 i2 =>
    cases i2
    obtain ⟨a, vs, rfl, e1, e2⟩ := l.at R i1
    exact ⟨a, vs, ks, rfl, e1, by rw [e2.keys]; exact hk, h64, fun ns' p h1 h2 hp => q.made R hp (.lst (isl_ints ns')) (h ns' h1 h2)⟩
/-! ### d.get -/
theorem OptIs.getD' {o : Option V} {p : Option D} {w : V} {e : D} (h : OptIs K F o p) (i : Is K F w e) : Is K F (o.getD w) (p.getD e) := by
  cases o <;> cases p <;> first | exact i | exact h | exact h.elim
theorem DR.isD {ds : List (Key × D)} (l : DR M x ds) (r : Rep K F H M) (i : Is K F v x) : ∃ a, v = .ref a ∧ IsD H a := by
  obtain ⟨a, xs, e, h1, _⟩ := l.at r i
  exact ⟨a, e, .inl ⟨xs, h1⟩⟩
theorem DRT.isD {ds : List (List Key × D)} (l : DRT M x ds) (r : Rep K F H M) (i : Is K F v x) : ∃ a, v = .ref a ∧ IsD H a := by
  obtain ⟨a, xs, e, h1, _⟩ := l.at r i
  exact ⟨a, e, .inr ⟨xs, h1⟩⟩
def DD (M : Ms) (x : D) : Prop := (∃ ds, DR M x ds) ∨ ∃ ds, DRT M x ds
theorem ev_get1 (h : EV K td Γ M fun x M1 => DD M1 x ∧ EV K ty Γ M1 fun y M2 => ∃ o, DG M2 x y o ∧ Φ (o.getD .non) M2) : EV K (tDGet1 td ty) Γ M Φ := fun σ F H S R Q q =>
  h σ F H S R _ fun v F1 H1 x M1 x1 r1 i1 ⟨dd, h1⟩ => by
    obtain ⟨a, rfl, ea⟩ : ∃ a, v = .ref a ∧ IsD H1 a := by
      rcases dd with ⟨ds, l⟩ | ⟨ds, l⟩
      · exact l.isD r1 i1
      · exact l.isD r1 i1
    refine ⟨a, rfl, ea, h1 σ F1 H1 (S.mono x1.f) r1 _ fun w F2 H2 y M2 x2 r2 i2 ⟨o, g, h2⟩ => ?_⟩
    obtain ⟨a', z, e1, e2, e3⟩ := g.at r2 (i1.mono x2.f) i2
    cases e1
    exact ⟨z, e2, (q.trans (x1.trans x2)).here r2 (e3.getD' .non) h2⟩
theorem ev_get2 (h : EV K td Γ M fun x M1 => DD M1 x ∧ EV K ty Γ M1 fun y M2 => EV K tv Γ M2 fun z M3 => ∃ o, DG M3 x y o ∧ Φ (o.getD z) M3) : EV K (tDGet2 td ty tv) Γ M Φ := fun σ F H S R Q q =>
  h σ F H S R _ fun v F1 H1 x M1 x1 r1 i1 ⟨dd, h1⟩ => by
    obtain ⟨a, rfl, ea⟩ : ∃ a, v = .ref a ∧ IsD H1 a := by
      rcases dd with ⟨ds, l⟩ | ⟨ds, l⟩
      · exact l.isD r1 i1
      · exact l.isD r1 i1
    refine ⟨a, rfl, ea, h1 σ F1 H1 (S.mono x1.f) r1 _ fun w F2 H2 y M2 x2 r2 i2 h2 => h2 σ F2 H2 ((S.mono x1.f).mono x2.f) r2 _ fun z F3 H3 d M3 x3 r3 i3 ⟨o, g, h3⟩ => ?_⟩
    obtain ⟨a', zz, e1, e2, e3⟩ := g.at r3 (i1.mono (x2.trans x3).f) (i2.mono x3.f)
    cases e1
    exact ⟨zz, e2, (q.trans ((x1.trans x2).trans x3)).here r3 (e3.getD' i3) h3⟩
/-! ### list(d), tuple(x), t + u, x in a list or tuple of flat items -/
def rListD' : List V → Hp → VK → Prop := rListD
theorem rc_listD {ds : List (Key × D)} (p : Addr) {xs : List D} {Φ : O → Ms → Prop} (e : xs = [.ptr p]) (l : (p, O.dK ds) ∈ M) (h : Φ (.lst (ds.map fun q => kD q.1)) M) : RC' K rListD xs M (NP Φ) := fun F H R us i1 Q q => by
  subst e
  cases i1 with
  | cons i1 i2 =>
    cases i2
    cases i1
    obtain ⟨_, ho, h1, h2⟩ := R.own _ l
    cases h2 with
    | @dK vs _ h2 =>
      refine ⟨p, vs, rfl, h1, fun a ha => q.made R ha (.lst ?_) h⟩
      have hk := h2.keys
      have isl : ∀ (ks : List Key), IsL K F (ks.map kV) (ks.map kD) := fun ks => by
        induction ks with
        | nil => exact .nil
        | cons k ks ih => exact .cons (is_kD k) ih
      have e1 : vs.map (fun kv => kV kv.1) = (ds.map (·.1)).map kV := by rw [← hk, List.map_map]; rfl
      have e2 : ds.map (fun q => kD q.1) = (ds.map (·.1)).map kD := by rw [List.map_map]; rfl
      rw [e1, e2]
      exact isl _
theorem ev_tupleOf {ds : List D} (h : EV K ta Γ M fun x M1 => SQ M1 x ds ∧ Φ (.tup ds) M1) : EV K (tThen ta (kTup K)) Γ M Φ := fun σ F H S R Q q =>
  h σ F H S R _ fun v F1 H1 x M1 x1 r1 i1 ⟨l, h1⟩ => by
    cases l with
    | l l =>
      obtain ⟨a, vs, rfl, e1, e2⟩ := l.at r1 i1
      exact .inl ⟨a, vs, rfl, e1, fun p hp => by
        obtain ⟨F2, r2, x2, i2⟩ := r1.tup hp e2
        exact q _ F2 _ _ M1 (x1.trans x2) r2 i2 h1⟩
    | t =>
      cases i1 with
      | @tup a xs _ e1 e2 => exact .inr ⟨a, xs, rfl, .inl (.inl (r1.le.eq e1 id)), (q.trans x1).here r1 (.tup e1 e2) h1⟩
theorem r2_catT {xs ys : List D} (hz : xs.length + ys.length ≤ 100000) (h : Φ (.tup (xs ++ ys)) M) : R2' K (rCatA K) (.tup xs) (.tup ys) M Φ := fun F H R u v i1 i2 Q q => by
  cases i1 with
  | @tup a us _ e1 e2 =>
    cases i2 with
    | @tup b vs _ f1 f2 =>
      refine ⟨a, b, us, vs, rfl, rfl, .inl (.inl (R.le.eq e1 id)), .inl (.inl (R.le.eq f1 id)), by rw [e2.length, f2.length]; exact sz_of hz, fun e => ?_, fun e e' => ?_, fun _ _ p hp => ?_⟩
      · subst e
        cases e2
        exact q.here R (.tup f1 f2) h
      · subst e'
        cases f2
        rw [List.append_nil] at h
        exact q.here R (.tup e1 e2) h
      · obtain ⟨F2, r2, x2, i2⟩ := R.tup hp (e2.append f2)
        exact q _ F2 _ _ M x2 r2 i2 h
end
end DL


set_option Elab.async false
set_option linter.all false
set_option maxRecDepth 100000
set_option maxHeartbeats 2000000
/-! displays with tuple keys; sorted of a tuple -/
namespace DL
open PySem PySem.Spec PyProof.Rows L2 StX
section
variable {X : Cx}
/-- {t: v}, t a tuple -/
def tDisp1T (trs : List (TE × TE)) : TE := fun σ H Q => ∀ p, H p = none → tPairs trs σ (upd H p (.dT [])) fun ps H2 => H2 p = some (.dT []) ∧ ∃ b k y, ps = [(V.ref b, y)] ∧ H2 b = some (.tup (List.map kV k)) ∧ Q (.ref p) (upd H2 p (.dT [(k, y)]))
theorem pe_disp1T {k v : Expr} {trs : List (TE × TE)} {pos : Pos} (hu : X.A.units + 64 < cLine) (PP : PPs X pos [some k] [v] trs) : PE X (.Dict [some k] [v] pos) (tDisp1T trs) := by
  refine ⟨fun pins s σ H Q I q => ?_⟩
  have hn := I.hok.fresh (Nat.le_refl s.heap.objs.size)
  have I1 := I.laid (a := s.heap.objs.size) (o := .dT []) (h' := s.heap.push { cls := .type "dict", data := .dict #[] }) (t' := s.toks) (fun _ _ q => Heap.get?_push_of_some _ q) (Nat.le_refl _) (dt_empty s.heap I.big)
  rw [arm_eval_Dict, zip_pairTrees [some k] [v] X.env pos rfl rfl, dictDisplay_pairs (pairTrees [some k] [v] X.env pos) (fun z => nomatch z) (show (1 : Nat) < 17 from by decide)]
  refine wpAny_bind (wpAny_standAt (wpAny_bind (wpAny_subDictH (knd := tupleKind (mixKind X.prog X.w)) (show X.A.units < cLine from Nat.lt_of_le_of_lt (Nat.le_add_right _ 64) hu) (show (1 : Nat) ≤ 15 from by decide) ?_)))
  refine thn (PP.run pins _ σ _ _ I1 (q _ hn)) fun ws s2 ⟨ps, H2, I2, rel, e, b, kk, y, ep, eb, q2⟩ => ?_
  subst ep
  cases rel with
  | @cons pa wa _ _ r1 r2 =>
    cases r2
    obtain ⟨u, w'⟩ := wa
    obtain ⟨ru, rw'⟩ := r1
    obtain rfl : u = Value.ref b := ru
    obtain ⟨z, hd, xs0, r0, dd⟩ := dt_of I2.hok e
    cases r0
    refine ⟨[(kk, b, w')], ⟨rfl, rfl, key_of I2.hok eb, True.intro⟩, dd, fun h' tk' dd' hs => wpAny_pure ⟨.ref s.heap.objs.size, _, ?_, rfl, q2⟩⟩
    obtain ⟨o, es, ep, h1, h2, h3, h4, _, h5⟩ := dd'
    have hb : b ≠ s.heap.objs.size := fun z => by rw [z, e] at eb; cases eb
    have rel2 : KT (upd H2 s.heap.objs.size (.dT [(kk, y)])) [(kk, y)] [(kk, b, w')] := .cons ⟨rfl, by rw [upd_ne hb]; exact eb, rw'⟩ .nil
    exact d_write (t' := tk') I2 (by rw [e]; exact True.intro) hs ⟨o, h1⟩ (show ObjOk X.prog X.w _ _ _ (.dT [(kk, y)]) from ⟨(by decide : (1 : Nat) ≤ sizeLine), hd, [(kk, b, w')], rel2, o, es, ep, h1, h2, h3, h4, h5⟩)
/-! ### sorted of a tuple of ints -/
theorem collect_tup {prog : Program} {w : World} {A : Around} {E : Value → Shared → Prop} {s : Shared} {l : Addr} {vs : List Value} {Q : List Value → Shared → Prop} (hl : s.heap.IsTuple l vs.toArray)
    (h : Q vs { s with heap := (s.heap.push (seqObj "list" #[] 0)).update s.heap.objs.size (Obj.mapSeq (· ++ vs.toArray)) }) (hsz : vs.length ≤ sizeLine) :
    wpAny (model prog w) A (collect (.ref l)) Q E s := by
  obtain ⟨o, ho, hc, n, hd⟩ := id hl
  unfold collect
  refine wpAny_bind (wpAny_runValue (codeAny_builtin entry_proto_collect' ?_))
  show wpAny _ _ (do again (.builtin "list.__iadd__" ⟨[← newList [], .ref l], []⟩)) _ _ s
  refine wpAny_bind (wpAny_newList (wpAny_pure ⟨Code.quiet_builtin _ (by decide +kernel), codeAny_builtin entry_list_iadd' ?_⟩))
  show wpAny _ _ (Builtin.List.listExtendWith (.ref s.heap.objs.size) (.ref l) (.ref s.heap.objs.size)) _ _ { s with heap := s.heap.push (seqObj "list" #[] 0) }
  unfold Builtin.List.listExtendWith
  have ho' : (s.heap.push (seqObj "list" #[] 0)).get? l = some o := Heap.get?_push_of_some _ ho
  refine wpAny_bind (wpAny_typeOf (T := "tuple") ⟨o, ho', hc⟩ ?_)
  have ht : (Value.type "tuple" == Value.type "tuple") = true := by rfl
  rw [if_pos (by rw [ht]; simp)]
  refine wpAny_bind (listItems_at ho' hd ?_)
  refine wpAny_bind (listItems_at (xs := #[]) (n := 0) (Heap.get?_push_size _ rfl) rfl ?_)
  rw [if_neg (by simp)]
  refine wpAny_bind (listUpdate_at (xs := #[]) (n := 0) (Heap.get?_push_size _ rfl) rfl ?_ (Nat.zero_le _) (by show (#[] ++ vs.toArray).size ≤ sizeLine + 1; simp only [Array.size_append, List.size_toArray, List.length_nil]; omega))
  refine wpAny_pure ?_
  show wpAny (model prog w) A (do
      let o ← load s.heap.objs.size
      match o.data with
      | .seq xs _ => pure xs.toList
      | _ => unsupported "internal:collect") Q E { s with heap := (s.heap.push (seqObj "list" #[] 0)).update s.heap.objs.size (Obj.mapSeq (· ++ vs.toArray)) }
  refine wpAny_bind (wpAny_load (get?_update_seq (Heap.get?_push_size _ rfl) _) ?_)
  show wpAny _ _ (pure ((#[] : Array Value) ++ vs.toArray).toList) Q E _
  rw [show ((#[] : Array Value) ++ vs.toArray).toList = vs by simp]
  exact wpAny_pure h
def rSortedIT (K : PySem.W.Frag) : List V → Hp → VK → Prop := fun vs H Q => ∃ (a : Addr) (ns : List Int), vs = [V.ref a] ∧ SqT K H a (ns.map V.int) ∧
  ∀ (ns' : List Int) (p : Addr), ns'.Perm ns → ns'.Pairwise (· ≤ ·) → H p = none → Q (.ref p) (upd H p (.lst (ns'.map V.int)))
theorem cr_sortedIT : CallR X (.builtin "sorted") (rSortedIT X.K) := by
  intro pins s σ H vs us Q I r h
  obtain ⟨a, ns, rfl, hs, q⟩ := h
  obtain ⟨its, rv, hl, hz⟩ := I.tuple hs
  rw [Vals.ref1 r]
  have hi := rv.ints
  have hz2 : its.length ≤ sizeLine := by rw [← rv.length]; exact hz
  refine Calls.call_function_entry PyProof.Rows.kind_sorted PyProof.Rows.plain_sorted PyProof.Rows.entry_sorted (PyProof.Rows.args_sorted1 _) ?_
  unfold Builtin.«sorted»
  refine wpAny_bind (m := checkCount "sorted" 1 1 _) (wpAny_pure ?_)
  refine wpAny_bind (collect_tup hl ?_ hz2)
  refine wpAny_bind (wpAny_newList ?_ hz2)
  have hsz : ((s.heap.push (seqObj "list" #[] 0)).update s.heap.objs.size (Obj.mapSeq (· ++ its.toArray))).objs.size = s.heap.objs.size + 1 := by
    rw [Heap.size_update, size_push']
  show wpAny _ _ _ _ _ { s with heap := PySem.W.copyHeap s.heap its }
  rw [hsz]
  refine wpAny_bind (wpAny_holding (wpAny_call_entry PyProof.Rows.slot_list_sort ⟨_, PySem.W.copyHeap_at s.heap its, rfl⟩ PyProof.Rows.entry_list_sort
    (SrtO.list_sort_ord SrtO.swo_int (PySem.W.copyHeap_at s.heap its) hz2 (fun h2 => SrtO.ints_sortable hi h2) fun out h1 h2 => ⟨_, rfl, ?_⟩) (PyProof.Rows.args_list_sort _)))
  obtain ⟨k1, k2, k3⟩ := SrtO.ints_out hi h1 h2
  obtain ⟨ep, he'⟩ := PyProof.Rows.sortedAll_at s.heap its out.toArray
  have hlen : ((out.map SrtO.iv).map V.int).length ≤ sizeLine := by
    rw [List.length_map, k2.length_eq]
    rw [List.length_map] at hz
    exact hz
  exact wpAny_pure ⟨_, rfl, .ref _, upd H (s.heap.objs.size + 1) (.lst ((out.map SrtO.iv).map V.int)), I.laid (t' := s.toks) (fun _ _ => PyProof.Rows.sortedAll_old) (Nat.le_succ _) ⟨hlen, out, ep, vals_of_ints k1, he'⟩, rfl, q _ _ k2 k3 (I.hok.fresh (Nat.le_succ _))⟩
end
section
variable {K : PySem.W.Frag} {F H F1 H1 F2 H2 F' H' : Hp} {M M1 M2 M' A B : Ms} {σ : L2.St} {Γ Γ' : Gm} {Φ Ψ : D → Ms → Prop} {Q : VK} {tk tv : TE} {d x y : D} {v : V}
theorem rc_sortedIT {ns : List Int} {xs : List D} {Φ : O → Ms → Prop} (e : xs = [.tup (ns.map .int)]) (h : ∀ ns' : List Int, ns'.Perm ns → ns'.Pairwise (· ≤ ·) → Φ (.lst (ns'.map .int)) M) : RC' K (rSortedIT K) xs M (NP Φ) := fun F H R us i1 Q q => by
  subst e
  cases i1 with
  | cons i1 i2 =>
    cases i2
    cases i1 with
    | @tup a vs _ e1 e2 =>
      rw [isl_ints' ns vs e2] at e1
      exact ⟨a, ns, rfl, .inl (.inl (R.le.eq e1 id)), fun ns' p h1 h2 hp => q.made R hp (.lst (isl_ints ns')) (h ns' h1 h2)⟩
theorem en_disp1T {Φ : O → Ms → Prop} (h : EV K tk Γ M fun x M1 => EV K tv Γ M1 fun y M2 => ∃ k, x = .tup (List.map kD k) ∧ Φ (.dT [(k, y)]) M2) : EN K (tDisp1T [(tk, tv)]) Γ M Φ := fun σ F H S R Q q p hp => by
  obtain ⟨r0, x0⟩ := R.new hp (Own.dT (K := K) (F := F) .nil)
  have sub : List.Sublist M ((p, O.dT []) :: M) := List.sublist_cons_self _ _
  refine h σ F _ S (r0.sub sub) _ fun v F1 H1 x M1 x1 r1 i1 h1 => ?_
  obtain ⟨r1', x1'⟩ := r0.frame1 x1 r1
  refine h1 σ F1 H1 (S.mono x1.f) r1 _ fun w F2 H2 y M2 x2 r2 i2 ⟨k, e, h2⟩ => ?_
  obtain ⟨r2', x2'⟩ := r1'.frame1 x2 r2
  subst e
  cases i1 with
  | @tup b vs _ e1 e2 =>
    rw [kDs_is e2] at e1
    obtain ⟨_, ho, g1, g2⟩ := r2'.own (p, O.dT []) List.mem_cons_self
    cases g2 with
    | dT g2 =>
      cases g2
      obtain ⟨r3, x3⟩ := r2'.write (j := 0) rfl (Own.dT (.cons (k := k) i2 .nil))
      refine ⟨g1, b, k, w, rfl, r2.le.eq (x2.f.eq e1 id) id, q _ F2 _ (.ptr p) _ (((x0.trans x1').trans x2').trans x3) r3 (.ptr p) ⟨p, _, M2, rfl, rfl, h2⟩⟩
end
end DL


set_option Elab.async false
set_option linter.all false
set_option maxRecDepth 100000
set_option maxHeartbeats 2000000
/-! dict(d), keys tuples whose hashes differ -/
namespace DL
open PySem PySem.Spec PyProof.Rows L2 StX
section
variable {X : Cx}
def rDCopyT (P : Program) (w : World) : List V → Hp → VK → Prop := fun xs H Q => ∃ (a : Addr) (kvs : List (List Key × V)), xs = [.ref a] ∧ Rd H a (.dT kvs) ∧ (kvs.map fun p => (tupleKind (mixKind P w)).hash p.1).Nodup ∧ ∀ p, H p = none → Q (.ref p) (upd H p (.dT kvs))
theorem call_dictCT (hu : X.A.units + 64 < cLine) : CallR X (.type "dict") (rDCopyT X.prog X.w) := by
  intro pins s σ H xs us Q I r h
  obtain ⟨a, kvs, rfl, hd, hn, q⟩ := h
  obtain ⟨u, eu, rx⟩ := vals1 r
  subst eu
  cases rx
  obtain ⟨z, lo, qs, rel, dd⟩ := dt_rd I.hok hd
  have hkeys : ∀ {l : List (List Key × V)} {m : List (List Key × Addr × Value)}, KT H l m → m.map (fun x => (tupleKind (mixKind X.prog X.w)).hash x.1) = l.map (fun p => (tupleKind (mixKind X.prog X.w)).hash p.1) := by
    intro l m q
    induction q with
    | nil => rfl
    | @cons p q ps qs hq t ih => rw [List.map_cons, List.map_cons, ih, hq.1]
  refine callType_codes (Q₁ := fun obj s₁ => obj = .ref s.heap.objs.size ∧ s₁ = { s with heap := s.heap.push { cls := .type "dict", data := .dict #[] } }) PySem.F.kt_called_dict (PySem.F.kt_typeCall_dict_1 _) PySem.F.entry_dict_init (kt_code_dict_new _ ⟨rfl, rfl⟩) ?_
  rintro obj s₁ ⟨rfl, rfl⟩
  have k0 : ∀ b o, s.heap.get? b = some o → (s.heap.push { cls := .type "dict", data := .dict #[] }).get? b = some o := fun b o e => Heap.get?_push_of_some _ e
  have hnew : (s.heap.push { cls := .type "dict", data := .dict #[] }).DictOfH (tupleKind (mixKind X.prog X.w)) s.heap.objs.size [] := Heap.DictOfH.new s.heap
  have hT : Shared.TypeIs { s with heap := s.heap.push { cls := .type "dict", data := .dict #[] } } (.ref s.heap.objs.size) "dict" := ⟨_, Heap.get?_push_size _ rfl, rfl⟩
  have dd0 : (s.heap.push { cls := .type "dict", data := .dict #[] }).DictOfH (tupleKind (mixKind X.prog X.w)) a qs := by
    obtain ⟨o, es, ep, h1, h2, h3, h4, h5, h6⟩ := dd
    exact ⟨o, es, ep, k0 _ _ h1, h2, h3, h4, fun x hx => key_stays (h5 x hx) fun o e => k0 _ o e, h6⟩
  have ha : s.heap.objs.size ≠ a := by
    obtain ⟨o, es, ep, h1, _⟩ := dd
    exact Nat.ne_of_gt (Heap.lt_size h1)
  have hty : ∀ x ∈ qs, Shared.TypeIs { s with heap := s.heap.push { cls := .type "dict", data := .dict #[] } } (.ref x.2.1) "tuple" := fun x hx => by
    obtain ⟨o, es, ep, h1, h2, h3, h4, h5, h6⟩ := dd
    obtain ⟨ot, its, n, e1, e2, _⟩ := h5 x hx
    exact ⟨ot, k0 _ _ e1, e2⟩
  have hfresh := I.hok.fresh (Nat.le_refl s.heap.objs.size)
  refine ⟨hT, PySem.F.args_dict_init_2 _ _, ?_⟩
  unfold Builtin.«dict.__init__»
  refine wpAny_bind ?_
  unfold Builtin.Dict.selfAndRest
  refine wpAny_bind (wpAny_notOrdered_dict hT ?_)
  show wpAny _ _ (pure (s.heap.objs.size, [Value.ref a])) _ _ _
  refine wpAny_pure ?_
  show wpAny _ _ (Builtin.Dict.updateFrom "dict.__init__" s.heap.objs.size (.ref a) [] .none) _ _ _
  refine updateFrom_dictH (A := X.A.in1) (knd := tupleKind (mixKind X.prog X.w)) (kvs := []) (more := qs) .none (show X.A.in1.in1.units < cLine from Nat.lt_of_le_of_lt (Nat.add_le_add_left (by decide : 2 ≤ 64) X.A.units) hu) ha lo hnew dd0 (.inr ⟨hty, by rw [hkeys rel]; exact hn⟩) (by rw [List.length_nil, Nat.zero_add, ← Paired.length rel]; exact z) fun h' hd' ho' hs => ⟨rfl, ?_⟩
  have hst : storedAllH [] qs = qs := storedAllH_nil_of_nodup qs (by obtain ⟨_, _, _, _, _, _, _, _, hn⟩ := dd; exact hn)
  rw [hst] at hd'
  obtain ⟨o, es, ep, h1, h2, h3, h4, _, h5⟩ := hd'
  have hm : (s.heap.objs.size == sysModules) = false := beq_eq_false_iff_ne.mpr (Nat.ne_of_gt I.big)
  have rel2 : KT (upd H s.heap.objs.size (.dT kvs)) kvs qs := rel.keeps fun b ys e => by rw [upd_ne (fun z => by rw [z, hfresh] at e; cases e)]; exact e
  exact ⟨.ref s.heap.objs.size, upd H s.heap.objs.size (.dT kvs), I.laid (t' := s.toks) (fun b o e => (hs.2 b (Nat.ne_of_lt (Heap.lt_size e))).trans (k0 b o e)) (Nat.le_refl _) (show ObjOk X.prog X.w _ _ _ (.dT kvs) from ⟨z, hm, qs, rel2, o, es, ep, h1, h2, h3, h4, h5⟩), rfl, q _ hfresh⟩
end
section
variable {K : PySem.W.Frag} {M : Ms} {x : D}
theorem rc_dcopyT {P : Program} {w : World} {ds : List (List Key × D)} {xs : List D} {Φ : O → Ms → Prop} (e : xs = [x]) (l : DRT M x ds) (hn : (ds.map fun p => (tupleKind (mixKind P w)).hash p.1).Nodup) (h : Φ (.dT ds) M) : RC' K (rDCopyT P w) xs M (NP Φ) := fun F H R us i1 Q q => by
  subst e
  cases i1 with
  | cons i1 i2 =>
    cases i2
    obtain ⟨a, vs, rfl, e1, e2⟩ := l.at R i1
    refine ⟨a, vs, rfl, e1, ?_, fun p hp => q.made R hp (.dT e2) h⟩
    have : vs.map (fun p => (tupleKind (mixKind P w)).hash p.1) = ds.map (fun p => (tupleKind (mixKind P w)).hash p.1) := by
      have := congrArg (List.map fun k => (tupleKind (mixKind P w)).hash k) e2.keys
      rw [List.map_map, List.map_map] at this
      exact this
    rw [this]
    exact hn
end
end DL


set_option Elab.async false
set_option linter.all false
set_option maxRecDepth 100000
set_option maxHeartbeats 2000000
/-! readings that serve several kinds of things at once -/
namespace DL
open PySem PySem.Spec PyProof.Rows L2 StX
def rIxU (K : PySem.W.Frag) : R2 := fun x y H Q => rIx K x y H Q ∨ rDG x y H Q
def rInU (K : PySem.W.Frag) (neg : Bool) : R2 := fun x y H Q => rIn K neg x y H Q ∨ (rDI neg x y H Q ∨ (if neg then rNotInS else rInS) x y H Q)
def rAddU (K : PySem.W.Frag) : R2 := fun x y H Q => rAdd K x y H Q ∨ rCatA K x y H Q
def rLenDK : List V → Hp → VK → Prop := fun xs H Q => ∃ (a : Addr) (kvs : List (Key × V)), xs = [.ref a] ∧ Rd H a (.dK kvs) ∧ Q (.int kvs.length) H
def rLenU (K : PySem.W.Frag) : List V → Hp → VK → Prop := fun xs H Q => (∃ x n, xs = [x] ∧ LenV K x H n ∧ Q (.int n) H) ∨ rLenDK xs H Q
def rListDR : List V → Hp → VK → Prop := fun xs H Q => ∃ p kvs, xs = [.ref p] ∧ Rd H p (.dK kvs) ∧ ∀ q, H q = none → Q (.ref q) (upd H q (.lst (kvs.map fun kv => kV kv.1)))
def rListU (K : PySem.W.Frag) : List V → Hp → VK → Prop := fun xs H Q => (∃ p ys, xs = [.ref p] ∧ (SqL K H p ys ∨ SqT K H p ys) ∧ ∀ l, H l = none → Q (.ref l) (upd H l (.lst ys))) ∨ rListDR xs H Q
def rDictU (K : PySem.W.Frag) (P : Program) (w : World) : List V → Hp → VK → Prop := fun xs H Q => (rDictP K xs H Q ∨ rDictPT K xs H Q) ∨ (rDCopy xs H Q ∨ rDCopyT P w xs H Q)
def rSortedU (K : PySem.W.Frag) : List V → Hp → VK → Prop := fun xs H Q => (rSortedI K xs H Q ∨ rSortedIT K xs H Q) ∨ (rSortedS K xs H Q ∨ (rSortedDI xs H Q ∨ rSortedDS xs H Q))
/-- what may be walked: a list, a tuple, a dict's keys -/
def iSrc (K : PySem.W.Frag) (te : TE) : TI := fun σ H R => iList K te σ H R ∨ (iTup K te σ H R ∨ iKeys (tFrzE te) σ H R)
section
variable {X : Cx} {K : PySem.W.Frag}
theorem ix_dict (hu : X.A.units + 64 < cLine) : IxR X rDG := by
  intro value slice pins s σ H x y v u Q I rx ry h hs
  obtain ⟨a, d, rfl, g, q⟩ := h
  obtain rfl : v = Value.ref a := rx
  have hT := dict_typeIs I g
  unfold subscriptTail
  refine wpAny_bind ?_
  rw [getitemInPython_of_ne hT.not_modules]
  refine wpAny_bind (wpAny_specialOf hT PySem.F.slot_dict_getitem.lookup ?_)
  have h2 : wpAny (model X.prog X.w) X.A (getItem (.ref a) u) (EP X pins σ Q) X.xe s := d_getItem (Nat.lt_of_le_of_lt (Nat.add_le_add_left (by decide : 1 ≤ 64) X.A.units) hu) I g ry fun w' s' I' rw' => ⟨d, H, I', rw', q⟩
  have fin : wpAny (model X.prog X.w) X.A (subscripted slice false (.ref a) u) (fun r s₃ => wpAny (model X.prog X.w) X.A (letTemporaryGo value (.ref a) r >>= fun _ => pure r) (EP X pins σ Q) X.xe s₃) X.xe s := by
    rw [hs]
    exact wpAny_operating (wpAny_mono h2 (fun r s₃ h₃ => wpAny_bind (wpAny_letTemporaryGo (wpAny_pure h₃))) fun _ _ x => x)
  first
    | exact wpAny_pure (wpAny_bind fin)
    | exact wpAny_bind (wpAny_pure (wpAny_bind fin))
    | exact wpAny_bind fin
theorem ixU (hK : X.K = K) (hu : X.A.units + 64 < cLine) : IxR X (rIxU K) := by subst hK; exact ix_seq.or (ix_dict hu)
theorem op_inDct (hu : X.A.units + 64 < cLine) : OpR X (compareOp .In) (rDI false) := by
  intro pins s σ H x y v u Q I rx ry h
  obtain ⟨a, o, rfl, g, q⟩ := h
  obtain rfl : u = Value.ref a := ry
  exact d_in (Nat.lt_of_le_of_lt (Nat.add_le_add_left (by decide : 1 ≤ 64) X.A.units) hu) I g rx fun s' I' => ⟨.bl o.isSome, H, I', rfl, q⟩
theorem op_notInDct (hu : X.A.units + 64 < cLine) : OpR X (compareOp .NotIn) (rDI true) := by
  intro pins s σ H x y v u Q I rx ry h
  obtain ⟨a, o, rfl, g, q⟩ := h
  obtain rfl : u = Value.ref a := ry
  exact d_notIn (Nat.lt_of_le_of_lt (Nat.add_le_add_left (by decide : 1 ≤ 64) X.A.units) hu) I g rx fun s' I' => ⟨.bl (!o.isSome), H, I', rfl, q⟩
theorem op_inU (hK : X.K = K) (hu : X.A.units + 64 < cLine) : OpR X (compareOp .In) (rInU K false) := by subst hK; exact L2.OpR.or op_in_seq (L2.OpR.or (op_inDct hu) op_inS)
theorem op_notInU (hK : X.K = K) (hu : X.A.units + 64 < cLine) : OpR X (compareOp .NotIn) (rInU K true) := by subst hK; exact L2.OpR.or op_notIn_seq (L2.OpR.or (op_notInDct hu) op_notInS)
theorem op_addU (hK : X.K = K) : OpR X (binaryOp .Add) (rAddU K) := by subst hK; exact L2.OpR.or op_addA op_catA
theorem call_lenDK : CallR X (.builtin "len") rLenDK := by
  intro pins s σ H xs us Q I r h
  obtain ⟨a, kvs, rfl, hd, q⟩ := h
  obtain rfl := Vals.ref1 r
  exact d_len I hd fun t s' I' => ⟨.int kvs.length, H, I', ⟨t, rfl⟩, q⟩
theorem call_lenU (hK : X.K = K) : CallR X (.builtin "len") (rLenU K) := by subst hK; exact call_len.or call_lenDK
theorem call_list_dR (hc : X.calm = true) : CallR X (.type "list") rListDR := by
  intro pins s σ H xs us Q I r h
  obtain ⟨p, kvs, e, hk, q⟩ := h
  subst e
  obtain ⟨u, eu, rx⟩ := vals1 r
  subst eu
  obtain rfl : u = Value.ref p := rx
  obtain ⟨z, lo, vs, rk, hd⟩ := dk_rd I.hok hk
  obtain ⟨ep, hat⟩ := hd.dictAt
  have hl : kvs.length = vs.length := Paired.length rk
  refine PySem.W.kdl_call (PySem.W.kdl_dict (knd := mixKind X.prog X.w) (kvs := vs) (ep := ep) lo) (I.ok.hd hc) hat (by rw [← hl]; exact z) fun h' tk acc' c' hkeep hS hacc => ?_
  refine ⟨.ref s.heap.objs.size, upd H s.heap.objs.size (.lst (kvs.map fun kv => kV kv.1)), I.laid hkeep (Nat.le_refl _) (show ObjOk X.prog X.w _ _ _ (.lst (kvs.map fun kv => kV kv.1)) from ⟨?_, acc'.toList, c', ?_, ?_⟩), rfl, q _ (I.hok.fresh (Nat.le_refl _))⟩
  · rw [List.length_map]; exact z
  · have el : acc'.toList.length = acc'.size := by simp
    refine vals_of_at (by rw [List.length_map, el, hacc.1, hl]) fun j x w h1 h2 => ?_
    obtain ⟨k, y, hky, hi⟩ := hacc.2 j w (by rw [← Array.getElem?_toList]; exact h2)
    have e1 : (kvs.map (·.1))[j]? = some k := by
      rw [KV.keys rk, List.getElem?_map, hky] <;> rfl
    have e2 : (kvs.map fun kv => kV kv.1)[j]? = some (kV k) := by
      have e3 : (kvs.map fun kv => kV kv.1) = (kvs.map (·.1)).map kV := by rw [List.map_map] <;> rfl
      rw [e3, List.getElem?_map, e1] <;> rfl
    rw [e2] at h1
    cases h1
    exact keyIs_rel hi
  · rw [Array.toArray_toList]; exact hS
theorem call_listU (hK : X.K = K) (hc : X.calm = true) : CallR X (.type "list") (rListU K) := by subst hK; exact call_list_of.or (call_list_dR hc)
theorem call_dictU {P : Program} {w : World} (hK : X.K = K) (hP : X.prog = P) (hw : X.w = w) (hc : X.calm = true) (hu : X.A.units + 64 < cLine) : CallR X (.type "dict") (rDictU K P w) := by
  subst hK hP hw
  exact CallR.or (CallR.or (call_dictP hc) (call_dictPT hc hu)) (CallR.or call_dictD (call_dictCT hu))
theorem call_sortedU (hK : X.K = K) (hc : X.calm = true) : CallR X (.builtin "sorted") (rSortedU K) := by
  subst hK
  exact CallR.or (CallR.or cr_sortedI cr_sortedIT) (CallR.or cr_sortedS (CallR.or (call_sortedDI hc) (call_sortedD hc)))
variable {tg e : Expr} {te : TE}
theorem pi_or {t1 t2 : TI} (h1 : PI X tg e t1) (h2 : PI X tg e t2) : PI X tg e (fun σ H R => t1 σ H R ∨ t2 σ H R) := ⟨fun pins s σ H R I h => h.elim (h1.run pins s σ H R I) (h2.run pins s σ H R I)⟩
theorem pi_src (hK : X.K = K) (he : PE X e te) : PI X tg e (iSrc K te) := by subst hK; exact pi_or (pi_list he) (pi_or (pi_tup he) (pi_keys (pe_frzE he)))
end
section
variable {K : PySem.W.Frag} {F H F1 H1 F2 H2 F' H' : Hp} {M M1 M2 M' A B : Ms} {σ : L2.St} {Γ Γ' : Gm} {Φ Ψ : D → Ms → Prop} {Q : VK} {ta tb tc te td ty tv : TE} {tl : TA} {d x y : D} {v : V} {C : Addr}
/-! ### the kinds apart -/
theorem u_ix (h : R2' K (rIx K) x y M Φ) : R2' K (rIxU K) x y M Φ := r2_inl h
theorem u_ixL {ds : List D} (i : Int) (hx : LQ M x ds) (hy : y = .int i) (he : atI ds i = some d) (h : Φ d M) : R2' K (rIxU K) x y M Φ := r2_inl (r2_ixL i hx hy he h)
theorem u_ixT {ds : List D} (i : Int) (hx : x = .tup ds) (hy : y = .int i) (he : atI ds i = some d) (h : Φ d M) : R2' K (rIxU K) x y M Φ := r2_inl (r2_ixT i hx hy he h)
theorem u_dg (g : DG M x y (some d)) (h : Φ d M) : R2' K (rIxU K) x y M Φ := r2_inr (r2_dg g h)
theorem u_inD {o : Option D} (g : DG M y x o) (h : Φ (.bl o.isSome) M) : R2' K (rInU K false) x y M Φ := r2_inr (r2_inl (r2_di g h))
theorem u_niD {o : Option D} (g : DG M y x o) (h : Φ (.bl (!o.isSome)) M) : R2' K (rInU K true) x y M Φ := r2_inr (r2_inl (r2_dni g h))
/-- an int among ints -/
theorem inV_int (i : Int) : ∀ ns : List Int, inV (.int i) (ns.map V.int) = decide (i ∈ ns)
  | [] => rfl
  | n :: ns => by
    have ih := inV_int i ns
    unfold inV at ih ⊢
    rw [List.map_cons, List.any_cons, ih]
    have e : eqV (.int n) (.int i) = decide (n = i) := by simp [eqV]; rfl
    rw [e]
    by_cases h : n = i
    · simp [h]
    · simp [h, Ne.symm h, eq_comm]
theorem flat_ints : ∀ ns : List Int, (ns.map V.int).all flatV = true
  | [] => rfl
  | n :: ns => by rw [List.map_cons, List.all_cons, flat_ints ns]; rfl
theorem u_inI {ns : List Int} (i : Int) (hx : x = .int i) (hy : SQ M y (ns.map .int)) (h : Φ (.bl (decide (i ∈ ns))) M) : R2' K (rInU K false) x y M Φ := r2_inl fun F H R u v i1 i2 Q q => by
  subst hx
  cases i1
  obtain ⟨a, vs, rfl, e1, e2⟩ := hy.at R i2
  rw [isl_ints' ns vs e2] at e1
  refine ⟨a, ns.map V.int, rfl, e1, rfl, flat_ints ns, ?_⟩
  rw [inV_int]
  exact q.here R (.bl _) h
theorem u_niI {ns : List Int} (i : Int) (hx : x = .int i) (hy : SQ M y (ns.map .int)) (h : Φ (.bl (!decide (i ∈ ns))) M) : R2' K (rInU K true) x y M Φ := r2_inl fun F H R u v i1 i2 Q q => by
  subst hx
  cases i1
  obtain ⟨a, vs, rfl, e1, e2⟩ := hy.at R i2
  rw [isl_ints' ns vs e2] at e1
  refine ⟨a, ns.map V.int, rfl, e1, rfl, flat_ints ns, ?_⟩
  rw [inV_int]
  exact q.here R (.bl _) h
theorem u_add (i j : Int) (hx : x = .int i) (hy : y = .int j) (h : Φ (.int (i + j)) M) : R2' K (rAddU K) x y M Φ := r2_inl (r2_add i j hx hy h)
theorem u_cat {xs ys : List D} {Φ : O → Ms → Prop} (hx : LR M x xs) (hy : LR M y ys) (hz : xs.length + ys.length ≤ 100000) (h : Φ (.lst (xs ++ ys)) M) : R2' K (rAddU K) x y M (NP Φ) := r2_inl (r2_cat hx hy hz h)
theorem u_addS (i j : Str) (hx : x = .str i) (hy : y = .str j) (hz : i.length + j.length ≤ 100000) (h : Φ (.str (i ++ j)) M) : R2' K (rAddU K) x y M Φ := r2_inl (r2_addS i j hx hy hz h)
theorem u_catT {xs ys : List D} (hx : x = .tup xs) (hy : y = .tup ys) (hz : xs.length + ys.length ≤ 100000) (h : Φ (.tup (xs ++ ys)) M) : R2' K (rAddU K) x y M Φ := by
  subst hx hy
  exact r2_inr (r2_catT hz h)
theorem u_len (x : D) (n : Nat) {xs : List D} (e : xs = [x]) (l : LN M x n) (h : Φ (.int (n : Int)) M) : RC' K (rLenU K) xs M Φ := rc_inl (rc_len x n e l h)
theorem u_lenD {ds : List (Key × D)} (x : D) {xs : List D} (e : xs = [x]) (l : DR M x ds) (h : Φ (.int (ds.length : Int)) M) : RC' K (rLenU K) xs M Φ := rc_inr fun F H R us i1 Q q => by
  subst e
  cases i1 with
  | cons i1 i2 =>
    cases i2
    obtain ⟨a, vs, rfl, e1, e2⟩ := l.at R i1
    exact ⟨a, vs, rfl, e1, by rw [e2.length]; exact q.here R (.int _) h⟩
theorem isl_kD : ∀ ks : List Key, IsL K F (ks.map kV) (ks.map kD)
  | [] => .nil
  | k :: ks => .cons (is_kD k) (isl_kD ks)
theorem u_list {ds : List D} (x : D) {xs : List D} {Φ : O → Ms → Prop} (e : xs = [x]) (l : SQ M x ds) (h : Φ (.lst ds) M) : RC' K (rListU K) xs M (NP Φ) := rc_inl (rc_list x e l h)
theorem u_listD {ds : List (Key × D)} (x : D) {xs : List D} {Φ : O → Ms → Prop} (e : xs = [x]) (l : DR M x ds) (h : Φ (.lst (ds.map fun p => kD p.1)) M) : RC' K (rListU K) xs M (NP Φ) := rc_inr fun F H R us i1 Q q => by
  subst e
  cases i1 with
  | cons i1 i2 =>
    cases i2
    obtain ⟨a, vs, rfl, e1, e2⟩ := l.at R i1
    refine ⟨a, vs, rfl, e1, fun p hp => q.made R hp (.lst ?_) h⟩
    have hk := e2.keys
    have a1 : vs.map (fun kv => kV kv.1) = (ds.map (·.1)).map kV := by rw [← hk, List.map_map]; rfl
    have a2 : ds.map (fun p => kD p.1) = (ds.map (·.1)).map kD := by rw [List.map_map]; rfl
    rw [a1, a2]
    exact isl_kD _
theorem ei_srcL {Ψ : List D → Ms → Prop} (h : EV K te Γ M fun x M1 => ∃ ds, (x = .lst ds ∨ x = .rol ds) ∧ Ψ ds M1) : EI K (iSrc K te) Γ M Ψ := fun σ F H S R Rw q => .inl (ei_list h σ F H S R Rw q)
theorem ei_srcT {Ψ : List D → Ms → Prop} (h : EV K te Γ M fun x M1 => ∃ ds, x = .tup ds ∧ Ψ ds M1) : EI K (iSrc K te) Γ M Ψ := fun σ F H S R Rw q => .inr (.inl (ei_tup h σ F H S R Rw q))
theorem ei_srcD {Ψ : List D → Ms → Prop} (h : EV K te Γ M fun x M1 => (∃ ds, x = .dK ds ∧ Ψ (ds.map fun p => kD p.1) M1) ∨ ∃ ds, x = .dT ds ∧ Ψ (ds.map fun p => .tup (p.1.map kD)) M1) : EI K (iSrc K te) Γ M Ψ := fun σ F H S R Rw q => .inr (.inr (ei_keys h σ F H S R Rw q))
end
end DL


set_option Elab.async false
set_option linter.all false
set_option maxRecDepth 100000
set_option maxHeartbeats 2000000
/-! either reading; the written part by its name -/
namespace DL
open PySem PySem.Spec PyProof.Rows L2 StX
def tEither (t1 t2 : TE) : TE := fun σ H Q => t1 σ H Q ∨ t2 σ H Q
def sEither (t1 t2 : TS) : TS := fun E σ H => t1 E σ H ∨ t2 E σ H
def iEither (t1 t2 : TI) : TI := fun σ H R => t1 σ H R ∨ t2 σ H R
section
variable {X : Cx} {K : PySem.W.Frag} {e : Expr} {st : Stmt} {tg : Expr} {ta : TE}
theorem pe_either {t1 t2 : TE} (h1 : PE X e t1) (h2 : PE X e t2) : PE X e (tEither t1 t2) := ⟨fun pins s σ H Q I h => h.elim (h1.run pins s σ H Q I) (h2.run pins s σ H Q I)⟩
theorem ps_either {t1 t2 : TS} (h1 : PS X st t1) (h2 : PS X st t2) : PS X st (sEither t1 t2) := ⟨fun pins s σ H D I h => h.elim (h1.run pins s σ H D I) (h2.run pins s σ H D I)⟩
theorem pi_either {t1 t2 : TI} (h1 : PI X tg e t1) (h2 : PI X tg e t2) : PI X tg e (iEither t1 t2) := pi_or h1 h2
theorem pe_dnewU {pos : Pos} : PE X (.Dict [] [] pos) (tEither tDNewK tDNewT) := pe_either pe_dnewK pe_dnewT
theorem pe_tupleOfK {p pos : Pos} (hK : X.K = K) (hg : Gl X "tuple") (hm : X.mg "tuple" = none) (ha : PE X e ta) (na : starEach [e] X.env = (false, eval e X.env) :: starEach [] X.env := by rfl) :
    PE X (.Call (.Name "tuple" p) [e] [] pos) (tThen ta (kTup K)) := by subst hK; exact pe_tupleOf hg hm ha na
theorem pe_fldK {f : Str} {pos : Pos} (hK : X.K = K) (he : PE X e ta) (hb : attributeBase e f X.env (eval e X.env) = eval e X.env := by rfl) : PE X (.Attribute e f pos) (tFld K ta f) := by subst hK; exact pe_fld he hb
theorem ix1 (hu : X.A.units + 64 < cLine) : X.A.units + 1 < cLine := Nat.lt_of_le_of_lt (Nat.add_le_add_left (by decide : 1 ≤ 64) X.A.units) hu
end
section
variable {K : PySem.W.Frag} {F H F1 H1 F2 H2 F' H' : Hp} {M M1 M2 M' A B : Ms} {σ : L2.St} {Γ Γ' : Gm} {Φ Ψ : D → Ms → Prop} {Q : VK} {ta tb tc te td ty tv t1 t2 : TE} {s1 s2 : TS} {i1 i2 : TI} {tl : TA} {d x y : D} {v : V} {C : Addr} {nx bk ct : Gm → Ms → Prop} {rt : D → Ms → Prop}
theorem ev_eL (h : EV K t1 Γ M Φ) : EV K (tEither t1 t2) Γ M Φ := fun σ F H S R Q q => .inl (h σ F H S R Q q)
theorem ev_eR (h : EV K t2 Γ M Φ) : EV K (tEither t1 t2) Γ M Φ := fun σ F H S R Q q => .inr (h σ F H S R Q q)
theorem es_eL {E : DE} (h : ES K s1 Γ M E) : ES K (sEither s1 s2) Γ M E := fun σ F H S R De n rt b c => .inl (h σ F H S R De n rt b c)
theorem es_eR {E : DE} (h : ES K s2 Γ M E) : ES K (sEither s1 s2) Γ M E := fun σ F H S R De n rt b c => .inr (h σ F H S R De n rt b c)
theorem ei_eL {Ψ : List D → Ms → Prop} (h : EI K i1 Γ M Ψ) : EI K (iEither i1 i2) Γ M Ψ := fun σ F H S R Rw q => .inl (h σ F H S R Rw q)
theorem ei_eR {Ψ : List D → Ms → Prop} (h : EI K i2 Γ M Ψ) : EI K (iEither i1 i2) Γ M Ψ := fun σ F H S R Rw q => .inr (h σ F H S R Rw q)
theorem en_dk {Φ : O → Ms → Prop} (h : Φ (.dK []) M) : EN K (tEither tDNewK tDNewT) Γ M Φ := ev_eL (en_dk0 h)
theorem en_dt {Φ : O → Ms → Prop} (h : Φ (.dT []) M) : EN K (tEither tDNewK tDNewT) Γ M Φ := ev_eR (en_dt0 h)
/-- {k: v}, k an int or a text -/
theorem en_disp1 {Φ : O → Ms → Prop} {tk : TE} (h : EV K tk Γ M fun x M1 => EV K tv Γ M1 fun y M2 => ∃ k, x = kD k ∧ Φ (.dK [(k, y)]) M2) : EN K (tDisp [(tk, tv)]) Γ M Φ := fun σ F H S R Q q p hp => by
  obtain ⟨r0, x0⟩ := R.new hp (Own.dK (K := K) (F := F) .nil)
  have sub : List.Sublist M ((p, O.dK []) :: M) := List.sublist_cons_self _ _
  refine h σ F _ S (r0.sub sub) _ fun v F1 H1 x M1 x1 r1 i1 h1 => ?_
  obtain ⟨r1', x1'⟩ := r0.frame1 x1 r1
  refine h1 σ F1 H1 (S.mono x1.f) r1 _ fun w F2 H2 y M2 x2 r2 i2 ⟨k, e, h2⟩ => ?_
  obtain ⟨r2', x2'⟩ := r1'.frame1 x2 r2
  subst e
  have ev := kD_is i1
  subst ev
  obtain ⟨_, ho, g1, g2⟩ := r2'.own (p, O.dK []) List.mem_cons_self
  cases g2 with
  | dK g2 =>
    cases g2
    obtain ⟨r3, x3⟩ := r2'.write (j := 0) rfl (Own.dK (.cons (k := k) i2 .nil))
    exact ⟨g1, [(k, w)], rfl, (by decide : (1 : Nat) ≤ 15), q _ F2 _ (.ptr p) _ (((x0.trans x1').trans x2').trans x3) r3 (.ptr p) ⟨p, _, M2, rfl, rfl, h2⟩⟩
/-- for t in list(d), d's keys tuples -/
theorem ei_listT {Ψ : List D → Ms → Prop} (h : EV K td Γ M fun x M1 => ∃ ds, x = .dT ds ∧ Ψ (ds.map fun p => .tup (p.1.map kD)) M1) : EI K (iListT (tFrzE td)) Γ M Ψ := fun σ F H S R Rw q =>
  h σ F H S R _ fun v F1 H1 d M1 x1 r1 i1 ⟨ds, e, h1⟩ => by
    subst e
    cases i1 with
    | @dT a xs _ e1 e2 =>
      refine lock_it (u := .dT xs) r1 True.intro True.intro e1 fun ob F2 H2 x2 r2 hF => ?_
      refine ⟨a, ob, xs, rfl, r2.le.eq hF id, q _ F2 H2 _ M1 (x1.trans x2) r2 ⟨fun F3 H3 M3 g r3 => ⟨r3.le.eq (g.eq hF id) id, ?_⟩, fun F3 H3 M3 i d g r3 hx => ⟨⟨r3.le.eq (g.eq hF id) id, ?_⟩, fun w H4 y => ?_⟩⟩ h1⟩
      · rw [List.length_map, e2.length]
        exact Nat.le_refl _
      · have := (List.getElem?_eq_some_iff.mp hx).1
        rw [List.length_map] at this
        rw [e2.length]
        exact this
      · obtain ⟨rfl, k, z, qa, h3, rfl, hq⟩ := y
        rw [List.getElem?_map] at hx
        cases hp : ds[i]? with
        | none => rw [hp] at hx; cases hx
        | some p =>
          rw [hp] at hx
          obtain ⟨w, h4, _⟩ := e2.get hp
          rw [h3] at h4
          cases h4
          cases hx
          have isl : ∀ (F : Hp) (ks : List Key), IsL K F (ks.map kV) (ks.map kD) := fun F ks => by
            induction ks with
            | nil => exact .nil
            | cons k ks ih => exact .cons (is_kD k) ih
          cases hf : F3 qa with
          | some o =>
            have : F3 qa = some (.tup (p.1.map kV)) := by
              rw [hf]
              rcases r3.le qa o hf with z | ⟨_, ob, z⟩
              · rw [z] at hq; exact hq
              · rw [z] at hq; cases hq
            exact ⟨F3, .refl, r3, .tup this (isl _ _)⟩
          | none =>
            have hn : qa ∉ M3.map (·.1) := fun z => by
              obtain ⟨m, hm, rfl⟩ := List.mem_map.mp z
              obtain ⟨_, ho, h2, h3⟩ := r3.own m hm
              rw [hq] at h2
              cases h2
              cases h3
            have g2 : Gr F3 (upd F3 qa (.tup (p.1.map kV))) := Gr.new hf
            refine ⟨_, ⟨g2, fun _ _ e _ => .inl e, fun b e => ?_, fun _ e => .inr e⟩, r3.put hq hn hf, .tup upd_same (isl _ _)⟩
            by_cases hb : b = qa
            · subst hb
              exact .inr (.inr (.inr ⟨_, hq⟩))
            · rw [upd_ne hb] at e
              exact .inl e
end
end DL


set_option Elab.async false
set_option linter.all false
set_option maxRecDepth 100000
set_option maxHeartbeats 2000000
/-! zip of tuples too, is None -/
namespace DL
open PySem PySem.Spec PyProof.Rows L2 StX
section
variable {X : Cx} {K : PySem.W.Frag} {t : TA} {p pos tpos : Pos} {e tg : Expr} {elts : List Expr} {kk : Nat}
theorem pi_zipU {e2 : Expr} (hK : X.K = K) (hg : Gl X "zip") (hm : X.mg "zip" = none) (ha : PA X [e, e2] t)
    (hs : starEach [e, e2] X.env = (false, eval e X.env) :: starEach [e2] X.env := by rfl) (hpl : (backTo pos (starEach [e2] X.env)).any (·.1) = false := by rfl) :
    PI X (.Tuple elts kk tpos) (.Call (.Name "zip" p) [e, e2] [] pos) (RZ.iZipA K t) := by subst hK; exact RZ.pi_zipA hg hm ha hs hpl
end
section
variable {K : PySem.W.Frag} {F H F1 H1 F2 H2 F' H' : Hp} {M M1 M2 M' A B : Ms} {σ : L2.St} {Γ Γ' : Gm} {Φ Ψ : D → Ms → Prop} {Q : VK} {tl : TA} {d x y : D} {v : V}
theorem ei_zipL {tl : TA} {Ψ : List D → Ms → Prop} (h : EA K tl Γ M fun zs M1 => ∃ x y xs ys, zs = [x, y] ∧ (x = .lst xs ∨ x = .rol xs) ∧ (y = .lst ys ∨ y = .rol ys) ∧ Ψ (zipD xs ys) M1) : EI K (RZ.iZipA K tl) Γ M Ψ := fun σ F H S R Rw q =>
  h σ F H S R _ fun vs F1 H1 es M1 x1 r1 i1 ⟨x, y, xs, ys, e0, e, e', h1⟩ => by
    subst e0
    cases i1 with
    | @cons v _ _ _ i1 i2 =>
    cases i2 with
    | @cons w _ _ _ i2 i3 =>
    cases i3
    have key : ∀ {v : V} {x : D} {ds : List D}, (x = .lst ds ∨ x = .rol ds) → Is K F1 v x → ∃ a xs, v = .ref a ∧ SqL K F1 a xs ∧ IsL K F1 xs ds := by
      intro v x ds e i1
      rcases e with e | e
      · subst e
        cases i1 with
        | lst h1 h2 => exact ⟨_, _, rfl, .inl (.inl h1), h2⟩
      · subst e
        cases i1 with
        | rol h1 h2 => exact ⟨_, _, rfl, h1, h2⟩
    obtain ⟨a, us, e1, e2, e3⟩ := key e i1
    obtain ⟨b, ws, f1, f2, f3⟩ := key e' i2
    subst e1 f1
    refine ⟨a, b, us, ws, rfl, .inl ⟨r1.le.sql e2, r1.le.sql f2, q _ F1 H1 (zipD xs ys) M1 x1 r1 ⟨fun F2 H2 M2 g r2 => ⟨us, ws, (g.trans r2.le).sql e2, (g.trans r2.le).sql f2, ?_⟩, fun F2 H2 M2 i d g r2 hx => ?_⟩ h1⟩⟩
    · rw [zipD_length, e3.length, f3.length]
      omega
    · obtain ⟨x, y, hx2, hy, rfl⟩ := zipD_get hx
      obtain ⟨w1, hw1, iw1⟩ := e3.get hx2
      obtain ⟨w2, hw2, iw2⟩ := f3.get hy
      refine ⟨⟨us, ws, w1, w2, (g.trans r2.le).sql e2, (g.trans r2.le).sql f2, hw1, hw2⟩, fun v' H3 z => ?_⟩
      obtain ⟨T, u1, u2, rfl, nT, rfl, z1, z2⟩ := z
      have k1 := z1 us ((g.trans r2.le).sql e2)
      have k2 := z2 ws ((g.trans r2.le).sql f2)
      rw [hw1] at k1
      rw [hw2] at k2
      cases k1
      cases k2
      exact r2.pair nT (iw1.mono g) (iw2.mono g)

theorem ei_zipT {tl : TA} {Ψ : List D → Ms → Prop} (h : EA K tl Γ M fun zs M1 => ∃ x y xs ys, zs = [x, y] ∧ x = .tup xs ∧ y = .tup ys ∧ Ψ (zipD xs ys) M1) : EI K (RZ.iZipA K tl) Γ M Ψ := fun σ F H S R Rw q =>
  h σ F H S R _ fun vs F1 H1 es M1 x1 r1 i1 ⟨x, y, xs, ys, e0, e, e', h1⟩ => by
    subst e0
    cases i1 with
    | @cons v _ _ _ i1 i2 =>
    cases i2 with
    | @cons w _ _ _ i2 i3 =>
    cases i3
    have key : ∀ {v : V} {x : D} {ds : List D}, x = .tup ds → Is K F1 v x → ∃ a xs, v = .ref a ∧ SqT K F1 a xs ∧ IsL K F1 xs ds := by
      intro v x ds e i1
      subst e
      cases i1 with
      | tup h1 h2 => exact ⟨_, _, rfl, .inl (.inl h1), h2⟩
    have sqt : ∀ {F F' : Hp} {a : Addr} {xs : List V}, Gr F F' → SqT K F a xs → SqT K F' a xs := fun g h => h.elim (fun z => .inl (g.rd z)) .inr
    obtain ⟨a, us, e1, e2, e3⟩ := key e i1
    obtain ⟨b, ws, f1, f2, f3⟩ := key e' i2
    subst e1 f1
    refine ⟨a, b, us, ws, rfl, .inr ⟨sqt r1.le e2, sqt r1.le f2, q _ F1 H1 (zipD xs ys) M1 x1 r1 ⟨fun F2 H2 M2 g r2 => ⟨us, ws, sqt (g.trans r2.le) e2, sqt (g.trans r2.le) f2, ?_⟩, fun F2 H2 M2 i d g r2 hx => ?_⟩ h1⟩⟩
    · rw [zipD_length, e3.length, f3.length]
      omega
    · obtain ⟨x, y, hx2, hy, rfl⟩ := zipD_get hx
      obtain ⟨w1, hw1, iw1⟩ := e3.get hx2
      obtain ⟨w2, hw2, iw2⟩ := f3.get hy
      refine ⟨⟨us, ws, w1, w2, sqt (g.trans r2.le) e2, sqt (g.trans r2.le) f2, hw1, hw2⟩, fun v' H3 z => ?_⟩
      obtain ⟨T, u1, u2, rfl, nT, rfl, z1, z2⟩ := z
      have k1 := z1 us (sqt (g.trans r2.le) e2)
      have k2 := z2 ws (sqt (g.trans r2.le) f2)
      rw [hw1] at k1
      rw [hw2] at k2
      cases k1
      cases k2
      exact r2.pair nT (iw1.mono g) (iw2.mono g)

def isNonD : D → Bool
  | .non => true
  | _ => false
theorem r2_isN (hy : y = .non) (h : Φ (.bl (isNonD x)) M) : R2' K (fun x y H Q => y = .non ∧ Q (.bl (decide (x = .non))) H) x y M Φ := fun F H R u v i1 i2 Q q => by
  subst hy
  cases i2
  have e : decide (u = V.non) = isNonD x := by cases i1 <;> first | rfl | exact decide_eq_false (fun z => nomatch z)
  exact ⟨rfl, by rw [e]; exact q.here R (.bl _) h⟩
theorem r2_notN (hy : y = .non) (h : Φ (.bl (!isNonD x)) M) : R2' K (fun x y H Q => y = .non ∧ Q (.bl (!decide (x = .non))) H) x y M Φ := fun F H R u v i1 i2 Q q => by
  subst hy
  cases i2
  have e : decide (u = V.non) = isNonD x := by cases i1 <;> first | rfl | exact decide_eq_false (fun z => nomatch z)
  exact ⟨rfl, by rw [e]; exact q.here R (.bl _) h⟩
end
end DL


set_option Elab.async false
set_option linter.all false
set_option maxRecDepth 100000
set_option maxHeartbeats 2000000
/-! comprehensions with a condition, without effects -/
namespace DL
open PySem PySem.Spec PyProof.Rows L2 StX
section
variable {K : PySem.W.Frag} {M : Ms} {Γ : Gm} {te : TE} {t : TT}
theorem filterMap_take {α β : Type} (g : α → Option β) (xs : List α) (i : Nat) (d : α) (h : xs[i]? = some d) : (xs.take (i + 1)).filterMap g = (xs.take i).filterMap g ++ (g d).toList := by
  rw [List.take_add_one, h, List.filterMap_append]
  cases e : g d <;> simp [e]
/-- each thing gives something or nothing -/
theorem en_flt {wi : TI} {g : TG} {vs : List Nat} {Φ : O → Ms → Prop} (h : EI K wi Γ M fun xs M1 => xs.length ≤ 100000 ∧ ∃ f : D → Option D,
      (∀ (i : Nat) (d : D), xs[i]? = some d → EG K g vs d (wipeG Γ vs) M1 fun Γ2 M2 => ET K t Γ2 M2 fun b M3 => if b = true then EV K te Γ2 M3 fun y M4 => f d = some y ∧ M4 = M1 else f d = none ∧ M3 = M1) ∧ Φ (.lst (xs.filterMap f)) M1) : EN K (tLc wi g t te vs) Γ M Φ := by
  refine en_lc ?_
  intro σ F H S R Rw q
  refine h σ F H S R Rw fun J F' H' xs M' x r j ⟨hz, f, hs, hd⟩ => q J F' H' xs M' x r j ⟨hz, fun i acc M2 => acc = (xs.take i).filterMap f ∧ M2 = M', ⟨by simp, rfl⟩, ?_, ?_⟩
  · rintro i d acc M2 hx ⟨rfl, rfl⟩ σ F H v S R i' Q q
    refine hs i d hx σ F H v S R i' Q fun σ2 F2 H2 Γ2 M2' x2 s2 r2 e2 w2 => q σ2 F2 H2 Γ2 M2' x2 s2 r2 e2 ?_
    intro σ3 F3 H3 S3 R3 Q3 q3
    refine w2 σ3 F3 H3 S3 R3 Q3 fun b F4 H4 M4 x4 r4 h4 => q3 b F4 H4 M4 x4 r4 ?_
    cases b with
    | true =>
      refine EV.mono (show EV K te Γ2 M4 _ from h4) fun y M5 h5 => ?_
      refine ⟨?_, h5.2⟩
      rw [filterMap_take f xs i d hx, h5.1]
      rfl
    | false =>
      have h5 : f d = none ∧ M4 = _ := h4
      refine ⟨?_, h5.2⟩
      rw [filterMap_take f xs i d hx, h5.1]
      simp
  · rintro acc M2 ⟨rfl, rfl⟩
    rw [List.take_length]
    exact hd
end
end DL


set_option Elab.async false
set_option linter.all false
set_option maxRecDepth 100000
set_option maxHeartbeats 2000000
/-! what is no longer wanted; merged tables -/
namespace DL
open PySem PySem.Spec PyProof.Rows L2 StX
section
variable {K : PySem.W.Frag} {F H F' H' : Hp} {M M' M2 : Ms} {Γ : Gm} {te : TE} {Φ : D → Ms → Prop}
theorem Ext.sub (x : DL.Ext F H M F' H' M') (s : List.Sublist M2 M') : DL.Ext F H M F' H' M2 := ⟨x.f, x.h, x.n, fun a h => x.m a ((s.map _).subset h)⟩
/-- owned things may be forgotten -/
theorem ev_sub (h : EV K te Γ M fun d M' => ∃ M2, List.Sublist M2 M' ∧ Φ d M2) : EV K te Γ M Φ := fun σ F H S R Q q =>
  h σ F H S R Q fun v F' H' d M' x r i ⟨M2, s, e⟩ => q v F' H' d M2 (Ext.sub x s) (r.sub s) i e
theorem en_sub {Φ : O → Ms → Prop} (h : EN K te Γ M fun o M' => ∃ M2, List.Sublist M2 M' ∧ Φ o M2) : EN K te Γ M Φ := fun σ F H S R Q q =>
  h σ F H S R Q fun v F' H' d M' x r i ⟨p, o, M1, e1, e2, M2, s, e⟩ => by
    subst e1 e2
    have s2 : List.Sublist ((p, o) :: M2) ((p, o) :: M1) := s.cons₂ _
    exact q v F' H' _ _ (Ext.sub x s2) (r.sub s2) i ⟨p, o, M2, rfl, rfl, e⟩
end
section
variable {κ : Type} [DecidableEq κ]
theorem mergeD_mem (me ke : List (κ × D)) (k : κ) : k ∈ (mergeD ke me).map (·.1) ↔ k ∈ ke.map (·.1) ∨ k ∈ me.map (·.1) := by
  induction me generalizing ke with
  | nil => simp [mergeD]
  | cons p r ih =>
    show k ∈ (mergeD (putD ke p.1 p.2) r).map (·.1) ↔ _
    rw [ih, putD_keys, List.map_cons, List.mem_cons]
    by_cases h : p.1 ∈ ke.map (·.1)
    · rw [if_pos h]
      constructor
      · rintro (a | a)
        · exact .inl a
        · exact .inr (.inr a)
      · rintro (a | a | a)
        · exact .inl a
        · subst a; exact .inl h
        · exact .inr a
    · rw [if_neg h, List.mem_append, List.mem_singleton]
      constructor
      · rintro ((a | a) | a)
        · exact .inl a
        · exact .inr (.inl a)
        · exact .inr (.inr a)
      · rintro (a | a | a)
        · exact .inl (.inl a)
        · exact .inl (.inr a)
        · exact .inr a
theorem mergeD_new (me ke : List (κ × D)) (h : ((ke ++ me).map (·.1)).Nodup) : mergeD ke me = ke ++ me := by
  induction me generalizing ke with
  | nil => simp [mergeD]
  | cons p r ih =>
    show mergeD (putD ke p.1 p.2) r = _
    have hn : p.1 ∉ ke.map (·.1) := fun z => by
      rw [List.map_append, List.nodup_append] at h
      exact h.2.2 p.1 z p.1 (by simp) rfl
    rw [putD_new p.2 (valD_none.mpr hn), ih _ (by simpa using h)]
    simp
theorem mergeD_nil (me : List (κ × D)) (h : (me.map (·.1)).Nodup) : mergeD [] me = me := mergeD_new me [] h
theorem putD_nodup {kvs : List (κ × D)} (k : κ) (d : D) (h : (kvs.map (·.1)).Nodup) : ((putD kvs k d).map (·.1)).Nodup := by
  rw [putD_keys]
  split
  · exact h
  · rename_i hk
    rw [List.nodup_append]
    exact ⟨h, by simp, fun a ha b hb e => hk (by rw [List.mem_singleton] at hb; rw [← hb, ← e]; exact ha)⟩
theorem mergeD_nodup (me ke : List (κ × D)) (h : (ke.map (·.1)).Nodup) : ((mergeD ke me).map (·.1)).Nodup := by
  induction me generalizing ke with
  | nil => exact h
  | cons p r ih => exact ih _ (putD_nodup _ _ h)
end
end DL


set_option Elab.async false
set_option linter.all false
set_option maxRecDepth 100000
set_option maxHeartbeats 2000000
/-! a dict that is still written later, locked while one expression reads it -/
namespace DL
open PySem PySem.Spec PyProof.Rows L2 StX
section
variable {K : PySem.W.Frag} {F H F' H' : Hp} {M M' M2 : Ms} {Γ : Gm} {te : TE} {Φ : D → Ms → Prop}
theorem en_lock {i : Nat} (j : Nat) {p : Addr} {ds : List (Key × D)} {Φ : O → Ms → Prop} (h0 : Γ[i]? = some (some (.ptr p))) (hj : M[j]? = some (p, .dK ds))
    (h : EN K te (Γ.set i (some (.dK ds))) [] fun o M' => M' = [] ∧ ∃ ns : List Int, o = .lst (ns.map .int) ∧ Φ o M) : EN K (tLockE te) Γ M Φ := fun σ F H S R Q q => by
  have hm : (p, O.dK ds) ∈ M := List.mem_of_getElem? hj
  obtain ⟨f, ho, h1, h2⟩ := R.own _ hm
  cases h2 with
  | @dK vs _ hv =>
    refine ⟨p, .dK vs, h1, True.intro, fun od => ?_⟩
    have g1 : Gr F (upd F p (.frz od (.dK vs))) := Gr.new f
    have ip : Is K (upd F p (.frz od (.dK vs))) (.ref p) (.dK ds) := .dK (.inr ⟨od, upd_same⟩) (hv.mono g1)
    have r1 : Rep K (upd F p (.frz od (.dK vs))) (upd H p (.frz od (.dK vs))) [] := by
      refine ⟨fun b o e => ?_, List.nodup_nil, fun _ z => absurd z List.not_mem_nil⟩
      by_cases hb : b = p
      · subst hb
        rw [upd_same] at e
        cases e
        rw [upd_same]
        exact .inl rfl
      · rw [upd_ne hb] at e ⊢
        exact R.le b o e
    obtain ⟨v, e1, e2⟩ := S.at' i _ h0
    cases e2
    have s1 : RepS K (upd F p (.frz od (.dK vs))) σ (Γ.set i (some (.dK ds))) := by
      have s2 := (S.mono g1).set i ip
      have hl := (List.getElem?_eq_some_iff.mp e1)
      have e : σ.set i (some (.ref p)) = σ := by
        rw [← hl.2]
        exact List.set_getElem_self hl.1
      rw [e] at s2
      exact s2
    refine h σ _ _ s1 r1 _ fun v F' H' d M' x r iv ⟨a, o, Mx, ed, em, e3, ns, e4, hΦ⟩ => ?_
    subst ed em e3 e4
    have fp : F' p = some (.frz od (.dK vs)) := x.f.eq upd_same id
    have hp : H' p = some (.frz od (.dK vs)) := r.le.eq fp id
    refine ⟨hp, ?_⟩
    obtain ⟨fa, ha, ha1, ha2⟩ := r.own _ List.mem_cons_self
    have hap : a ≠ p := fun z => by rw [z, fp] at fa; cases fa
    have hHa : H a = none := by
      rcases x.m a (by simp) with z | z
      · rw [upd_ne hap] at z; exact z
      · simp at z
    have g2 : Gr F (fun b => if b = p then none else F' b) := fun b o e => by
      have hb : b ≠ p := fun z => by rw [z, f] at e; cases e
      have := x.f b o (by rw [upd_ne hb]; exact e)
      show Lo o (if b = p then none else F' b)
      rw [if_neg hb]
      exact this
    have hMa : a ∉ M.map (·.1) := fun z => by
      obtain ⟨m, hm2, e⟩ := List.mem_map.mp z
      obtain ⟨_, ho2, h3, _⟩ := R.own m hm2
      rw [e, hHa] at h3
      cases h3
    cases ha2 with
    | @lst ws _ hw =>
      have own2 : Own K (fun b => if b = p then none else F' b) (.lst ws) (.lst (ns.map .int)) := by
        rw [isl_ints' ns ws hw]
        exact .lst (isl_ints ns)
      have rep2 : Rep K (fun b => if b = p then none else F' b) (upd H' p (.dK vs)) ((a, .lst (ns.map .int)) :: M) := by
        refine ⟨fun b o e => ?_, ?_, fun m hm2 => ?_⟩
        · by_cases hb : b = p
          · subst hb
            simp at e
          · rw [if_neg hb] at e
            rw [upd_ne hb]
            exact r.le b o e
        · rw [List.map_cons, List.nodup_cons]
          exact ⟨hMa, R.nd⟩
        · rcases List.mem_cons.mp hm2 with rfl | hm2
          · refine ⟨?_, .lst ws, ?_, own2⟩
            · show (if a = p then none else F' a) = none
              rw [if_neg hap]
              exact fa
            · show upd H' p (.dK vs) a = _
              rw [upd_ne hap]
              exact ha1
          · obtain ⟨f3, ho3, h3, w3⟩ := R.own m hm2
            by_cases hb : m.1 = p
            · refine ⟨by show (if m.1 = p then none else _) = none; rw [if_pos hb], .dK vs, by rw [hb, upd_same], ?_⟩
              rw [hb, h1] at h3
              cases h3
              exact w3.mono g2
            · have hH1 : upd H p (.frz od (.dK vs)) m.1 = some ho3 := by rw [upd_ne hb]; exact h3
              have hF1 : upd F p (.frz od (.dK vs)) m.1 = none := by rw [upd_ne hb]; exact f3
              refine ⟨?_, ho3, ?_, w3.mono g2⟩
              · show (if m.1 = p then none else F' m.1) = none
                rw [if_neg hb]
                cases z : F' m.1 with
                | none => rfl
                | some u =>
                  rcases x.n m.1 (by rw [z]; exact fun y => nomatch y) with y | y | y | ⟨xs, y⟩
                  · exact absurd hF1 y
                  · rw [hH1] at y; cases y
                  · simp at y
                  · rw [hH1] at y
                    cases y
                    cases w3
              · rw [upd_ne hb]
                rcases x.h m.1 ho3 hH1 (by simp) with y | ⟨y, _⟩
                · exact y
                · exact absurd hF1 y
      have ext2 : DL.Ext F H M (fun b => if b = p then none else F' b) (upd H' p (.dK vs)) ((a, .lst (ns.map .int)) :: M) := by
        refine ⟨g2, fun b o e hb => ?_, fun b e => ?_, fun b e => ?_⟩
        · have hbp : b ≠ p := fun z => hb (by rw [z]; exact mem_fst hm)
          rw [upd_ne hbp]
          rcases x.h b o (by rw [upd_ne hbp]; exact e) (by simp) with y | ⟨y, y2⟩
          · exact .inl y
          · rw [upd_ne hbp] at y
            exact .inr ⟨y, y2⟩
        · by_cases hbp : b = p
          · exact absurd (show (if b = p then none else F' b) = none by rw [if_pos hbp]) e
          · have e' : F' b ≠ none := by
              intro z
              exact e (show (if b = p then none else F' b) = none by rw [if_neg hbp]; exact z)
            rcases x.n b e' with y | y | y | ⟨xs, y⟩
            · rw [upd_ne hbp] at y; exact .inl y
            · rw [upd_ne hbp] at y; exact .inr (.inl y)
            · simp at y
            · rw [upd_ne hbp] at y; exact .inr (.inr (.inr ⟨xs, y⟩))
        · rw [List.map_cons, List.mem_cons] at e
          rcases e with e | e
          · exact .inl (by rw [e]; exact hHa)
          · exact .inr e
      cases iv
      exact q _ _ _ _ _ ext2 rep2 (.ptr a) ⟨a, _, M, rfl, rfl, hΦ⟩
theorem es_lockAsg {i : Nat} {E : DE} (h : EV K (tLockE te) Γ M fun d M1 => E.nx (Γ.set i (some d)) M1) : ES K (tLock (tAsg te (gName i))) Γ M E := fun σ F H S R De n rt b c =>
  h σ F H S R (fun v H' => De.nx (σ.set i (some v)) H') fun v F' H' d M' x r iv hE => n _ F' H' _ M' x ((S.mono x.f).set i iv) r hE
end
end DL


set_option Elab.async false
set_option linter.all false
set_option maxRecDepth 100000
set_option maxHeartbeats 2000000
/-! truth of lists, None beside ints -/
namespace DL
open PySem PySem.Spec PyProof.Rows L2 StX
section
variable {K : PySem.W.Frag} {F H F' H' : Hp} {M M' M2 : Ms} {Γ : Gm} {te ta : TE} {x y : D} {Φ : D → Ms → Prop}
theorem isEmpty_isl {F : Hp} {vs : List V} {ds : List D} (h : IsL K F vs ds) : vs.isEmpty = ds.isEmpty := by cases h <;> rfl
theorem et_truL {Φ : Bool → Ms → Prop} (h : EV K ta Γ M fun d M1 => ∃ ds, LQ M1 d ds ∧ Φ (!ds.isEmpty) M1) : ET K (fun σ H Q => ta σ H fun x H' => ∃ k, TruV K x H' k ∧ Q k H') Γ M Φ := fun σ F H S R Q q =>
  h σ F H S R _ fun v F1 H1 d M1 x1 r1 i1 ⟨ds, l, h1⟩ => by
    obtain ⟨a, vs, rfl, e1, e2⟩ := l.at r1 i1
    refine ⟨!ds.isEmpty, .inl ⟨vs, e1, by rw [isEmpty_isl e2]⟩, q _ F1 H1 M1 x1 r1 h1⟩
theorem et_truI {Φ : Bool → Ms → Prop} (h : EV K ta Γ M fun d M1 => ∃ i, d = .int i ∧ Φ (i != 0) M1) : ET K (fun σ H Q => ta σ H fun x H' => ∃ k, TruV K x H' k ∧ Q k H') Γ M Φ := fun σ F H S R Q q =>
  h σ F H S R _ fun v F1 H1 d M1 x1 r1 i1 ⟨i, e, h1⟩ => by
    subst e
    cases i1
    exact ⟨_, rfl, q _ F1 H1 M1 x1 r1 h1⟩
theorem r2_neNI (j : Int) (hx : x = .non) (hy : y = .int j) (h : Φ (.bl true) M) : R2' K (rNeA K) x y M Φ := r2_inl fun F H R u v i1 i2 Q q => by
  subst hx hy
  cases i1
  cases i2
  have e : decide (V.non = V.int j) = false := by simp
  exact ⟨rfl, by rw [e]; exact q.here R (.bl _) h⟩
theorem r2_eqNI (j : Int) (hx : x = .non) (hy : y = .int j) (h : Φ (.bl false) M) : R2' K (rEqA K) x y M Φ := r2_inl fun F H R u v i1 i2 Q q => by
  subst hx hy
  cases i1
  cases i2
  have e : decide (V.non = V.int j) = false := by simp
  exact ⟨rfl, by rw [e]; exact q.here R (.bl _) h⟩
end
end DL


set_option Elab.async false
set_option linter.all false
set_option maxRecDepth 100000
set_option maxHeartbeats 2000000
/-! d.update(e) -/
namespace DL
open PySem PySem.Spec PyProof.Rows L2 StX
def rDUpd : V → List V → Hp → VK → Prop := fun x xs H Q => ∃ (a b : Addr) (kvs more : List (Key × V)), x = .ref a ∧ xs = [.ref b] ∧ H a = some (.dK kvs) ∧ Rd H b (.dK more) ∧ a ≠ b ∧ kvs.length + more.length ≤ sizeLine ∧ Q .non (upd H a (.dK (mergeK kvs more)))
section
variable {X : Cx}
theorem mt_dupd : MtR X "dict.update" rDUpd := by
  intro pins s σ H x xs v us Q I rx rxs h
  obtain ⟨a, b, kvs, more, rfl, rfl, ha, hb, hab, hz, q⟩ := h
  obtain rfl : v = Value.ref a := rx
  obtain rfl := Vals.ref1 rxs
  obtain ⟨z, hd, vs, rel, dd⟩ := dk_of I.hok ha
  obtain ⟨z2, hd2, ws, rel2, dd2⟩ := dk_rd I.hok hb
  refine call_meetsIn PySem.F.slot_dict_update dd.typeIs PySem.F.entry_dict_update (PySem.F.args_dict_update_2 _ _) (meets_dict_update (mixKind X.prog X.w) a b hab hd2)
    ⟨vs, ws, dd, dd2, by rw [← rel.length, ← rel2.length]; exact hz, fun h' dd' _ hs => ?_⟩
  have hl := length_mergeK more kvs
  have he : ∃ q, h'.get? a = some q := let ⟨q, _, _, hq, _⟩ := dd'; ⟨q, hq⟩
  exact ⟨.non, _, d_write (t' := s.toks) I (by rw [ha]; exact True.intro) hs he (dk_new (by omega) hd (rel2.merge rel) dd'), rfl, q⟩
end
section
variable {K : PySem.W.Frag} {F H F' H' : Hp} {M M' M2 : Ms} {Γ : Gm} {te ta : TE} {x y : D} {Φ : D → Ms → Prop}
theorem dty_ownK {p : Addr} {ds : List (Key × D)} (h : (p, O.dK ds) ∈ M) : DTy K "dict" (.ptr p) M := fun F H R v i => by
  cases i
  obtain ⟨_, ho, h1, h2⟩ := R.own _ h
  cases h2 with
  | dK h2 => exact .inr (.inr (.inl ⟨rfl, .inl ⟨_, h1⟩⟩))
theorem rm_dupd {p : Addr} {ke me : List (Key × D)} (j : Nat) {xs : List D} (hx : x = .ptr p) (e : xs = [.dK me]) (hm : M[j]? = some (p, .dK ke)) (hz : ke.length + me.length < 100000) (h : Φ .non (M.set j (p, .dK (mergeD ke me)))) : RM' K rDUpd x xs M Φ := fun F H R u us i1 i2 Q q => by
  subst hx e
  cases i1
  cases i2 with
  | @cons v _ _ _ i2 i3 =>
    cases i3
    cases i2 with
    | @dK b ws _ g1 g2 =>
    obtain ⟨f, ho, h1, h2⟩ := R.own _ (List.mem_of_getElem? hm)
    cases h2 with
    | @dK vs _ h2 =>
      obtain ⟨r2, x2⟩ := R.write hm (.dK (isa_mergeK g2 h2))
      refine ⟨p, b, vs, ws, rfl, rfl, h1, R.le.rd g1, fun z => ?_, ?_, q _ F _ .non _ x2 r2 .non h⟩
      · rw [← z] at g1
        rcases g1 with g1 | ⟨o, g1⟩
        · rw [f] at g1; cases g1
        · rw [f] at g1; cases g1
      · rw [h2.length, g2.length, sizeLine_eq]
        omega
theorem en_revL {Φ : O → Ms → Prop} (h : EV K te Γ M fun x M1 => ∃ ds, LQ M1 x ds ∧ Φ (.lst ds.reverse) M1) : EN K (tRevL K te) Γ M Φ := fun σ F H S R Q q =>
  h σ F H S R _ fun v F1 H1 d M1 x1 r1 i1 ⟨ds, l, h1⟩ => by
    obtain ⟨a, vs, rfl, e1, e2⟩ := l.at r1 i1
    exact ⟨a, vs, rfl, e1, fun p hp => (q.trans x1).made r1 hp (.lst e2.reverse) h1⟩
theorem rngD_Z (lo : Int) (n : Nat) : rngD lo n = ((List.range n).map fun i : Nat => lo + (i : Int)).map D.int := by
  unfold rngD
  rw [List.map_map]
  rfl
end
end DL


set_option Elab.async false
set_option linter.all false
set_option maxRecDepth 100000
set_option maxHeartbeats 4000000
namespace K16
/-! ### the mathematics: rows of ways to choose, sums over partings -/
def ch : Nat → Nat → Int
  | _, 0 => 1
  | 0, _ + 1 => 0
  | n + 1, k + 1 => ch n k + ch n (k + 1)
def rowOf (n : Nat) : List Int := (List.range (n + 1)).map (ch n)
theorem rowOf_length (n : Nat) : (rowOf n).length = n + 1 := by
  unfold rowOf
  rw [List.length_map, List.length_range]
theorem rowOf_get {n k : Nat} (h : k ≤ n) : (rowOf n)[k]? = some (ch n k) := by
  unfold rowOf
  rw [List.getElem?_map, List.getElem?_range (by omega)]
  rfl
theorem ch_zero (n : Nat) : ch n 0 = 1 := by cases n <;> rfl
theorem ch_over : ∀ n k : Nat, n < k → ch n k = 0
  | 0, k + 1, _ => rfl
  | n + 1, k + 1, h => by
    rw [ch, ch_over n k (by omega), ch_over n (k + 1) (by omega)]
    rfl
theorem ch_self : ∀ n : Nat, ch n n = 1
  | 0 => rfl
  | n + 1 => by
    rw [ch, ch_self n, ch_over n (n + 1) (by omega)]
    rfl
theorem ch_nn : ∀ n k : Nat, 0 ≤ ch n k
  | _, 0 => by rw [ch_zero]; decide
  | 0, _ + 1 => by rw [ch]; decide
  | n + 1, k + 1 => by
    rw [ch]
    have h1 := ch_nn n k
    have h2 := ch_nn n (k + 1)
    omega
theorem ch_le : ∀ n k : Nat, ch n k ≤ 2 ^ n
  | n, 0 => by
    rw [ch_zero]
    have : (0 : Int) < 2 ^ n := Int.pow_pos (by decide)
    omega
  | 0, _ + 1 => by rw [ch]; decide
  | n + 1, k + 1 => by
    rw [ch, Int.pow_succ]
    have h1 := ch_le n k
    have h2 := ch_le n (k + 1)
    omega
theorem ch_lt {n k : Nat} (h : n ≤ 60) : -(2 ^ 64) < ch n k ∧ ch n k < 2 ^ 64 := by
  have h1 := ch_nn n k
  have h2 := ch_le n k
  have h3 : (2 : Int) ^ n ≤ 2 ^ 60 := by
    have : (2 : Nat) ^ n ≤ 2 ^ 60 := Nat.pow_le_pow_right (by decide) h
    exact_mod_cast this
  have h4 : (2 : Int) ^ 60 < 2 ^ 64 := by decide
  omega
/-- the next row by the row -/
theorem rowOf_succ (n : Nat) : rowOf (n + 1) = 1 :: ((List.range n).map fun i => ch n i + ch n (i + 1)) ++ [1] := by
  refine List.ext_getElem? fun i => ?_
  by_cases hi : i ≤ n + 1
  · rw [rowOf_get hi]
    cases i with
    | zero => rw [ch_zero]; rfl
    | succ i =>
      rw [List.cons_append, List.getElem?_cons_succ]
      by_cases h2 : i < n
      · rw [List.getElem?_append_left (by rw [List.length_map, List.length_range]; exact h2), List.getElem?_map, List.getElem?_range h2]
        rfl
      · have e : i = n := by omega
        subst e
        rw [List.getElem?_append_right (by rw [List.length_map, List.length_range]; exact Nat.le_refl _), List.length_map, List.length_range, Nat.sub_self, ch_self]
        rfl
  · rw [List.getElem?_eq_none (by rw [rowOf_length]; omega), List.getElem?_eq_none (by simp; omega)]
def prodI (ns : List Int) : Int := ns.foldl (· * ·) 1
end K16


set_option Elab.async false
set_option linter.all false
set_option maxRecDepth 100000
set_option maxHeartbeats 4000000
namespace K16
/-! ### tables, sums, ways to order -/
theorem getD_at {a : List Int} {k : Nat} (h : k < a.length) : a[k]? = some (a.getD k 0) := by
  rw [List.getD_eq_getElem?_getD, List.getElem?_eq_getElem h]
  rfl
theorem getD_mem {a : List Int} {k : Nat} (h : k < a.length) : a.getD k 0 ∈ a := List.mem_of_getElem? (getD_at h)
def facI : Nat → Int
  | 0 => 1
  | n + 1 => facI n * ((n : Int) + 1)
def sumN (n : Nat) (f : Nat → Int) : Int := ((List.range n).map f).sum
theorem sumN_succ (f : Nat → Int) (m : Nat) : sumN (m + 1) f = sumN m f + f m := by
  unfold sumN
  rw [List.range_succ, List.map_append, List.sum_append]
  simp
theorem sumN_zero (f : Nat → Int) : sumN 0 f = 0 := rfl
def tabR (n : Nat) (f : Nat → Int) : List Int := (List.range n).map f
theorem tabR_length (n : Nat) (f : Nat → Int) : (tabR n f).length = n := by
  unfold tabR
  rw [List.length_map, List.length_range]
theorem tabR_get {n : Nat} {f : Nat → Int} {p : Nat} (h : p < n) : (tabR n f)[p]? = some (f p) := by
  unfold tabR
  rw [List.getElem?_map, List.getElem?_range h]
  rfl
theorem tabR_getD {n : Nat} {f : Nat → Int} {p : Nat} (h : p < n) : (tabR n f).getD p 0 = f p := by
  rw [List.getD_eq_getElem?_getD, tabR_get h]
  rfl
theorem tabR_set {n : Nat} {f : Nat → Int} {j : Nat} (v : Int) (h : j < n) : (tabR n f).set j v = tabR n fun p => if p = j then v else f p := by
  refine List.ext_getElem? fun i => ?_
  by_cases hi : i < n
  · rw [tabR_get hi]
    by_cases e : j = i
    · subst e
      rw [List.getElem?_set_self (by rw [tabR_length]; exact h), if_pos rfl]
    · rw [List.getElem?_set_ne e, tabR_get hi, if_neg (Ne.symm e)]
  · rw [List.getElem?_eq_none (by rw [List.length_set, tabR_length]; omega), List.getElem?_eq_none (by rw [tabR_length]; omega)]
theorem tabR_congr {n : Nat} {f g : Nat → Int} (h : ∀ p, p < n → f p = g p) : tabR n f = tabR n g := by
  unfold tabR
  exact List.map_congr_left fun p hp => h p (List.mem_range.mp hp)
theorem tabR_zero (n : Nat) : List.replicate n (0 : Int) = tabR n fun _ => 0 := by
  refine List.ext_getElem? fun i => ?_
  by_cases hi : i < n
  · rw [tabR_get hi, List.getElem?_replicate, if_pos hi]
  · rw [List.getElem?_eq_none (by rw [List.length_replicate]; omega), List.getElem?_eq_none (by rw [tabR_length]; omega)]
def outG (a : List Int) (m p : Nat) : Int := if ((m : Int) - (p : Int)) % 2 = 0 then ch m p * a.getD m 0 else -ch m p * a.getD m 0
def inG (a : List Int) (m p : Nat) : Int := ch m p * a.getD m 0
def tOut (a : List Int) : List Int := tabR a.length fun p => sumN a.length fun m => outG a m p
def tIn (a : List Int) : List Int := tabR a.length fun p => sumN a.length fun m => inG a m p
theorem outG_over (a : List Int) {m p : Nat} (h : m < p) : outG a m p = 0 := by
  unfold outG
  rw [ch_over m p h]
  simp
theorem inG_over (a : List Int) {m p : Nat} (h : m < p) : inG a m p = 0 := by
  unfold inG
  rw [ch_over m p h]
  simp
/-- so far: i whole rows, j places of the next -/
def tabP (n : Nat) (g : Nat → Nat → Int) (i j : Nat) : List Int := tabR n fun p => sumN i (fun m => g m p) + if p < j then g i p else 0
theorem tabP_zero (n : Nat) (g : Nat → Nat → Int) (i : Nat) : tabP n g i 0 = tabR n fun p => sumN i fun m => g m p := tabR_congr fun p _ => by
  rw [if_neg (by omega), Int.add_zero]
theorem tabP_end (n : Nat) (g : Nat → Nat → Int) (i : Nat) (h : ∀ p, i < p → g i p = 0) : tabP n g i (i + 1) = tabR n fun p => sumN (i + 1) fun m => g m p := tabR_congr fun p _ => by
  rw [sumN_succ]
  by_cases hp : p < i + 1
  · rw [if_pos hp]
  · rw [if_neg hp, h p (by omega)]
theorem tabP_next (n : Nat) (g : Nat → Nat → Int) (i j : Nat) (hj : j < n) : (tabP n g i j).set j ((tabP n g i j).getD j 0 + g i j) = tabP n g i (j + 1) := by
  unfold tabP
  rw [tabR_set _ hj, tabR_getD hj]
  refine tabR_congr fun p _ => ?_
  by_cases e : p = j
  · subst e
    rw [if_pos rfl, if_neg (by omega), if_pos (by omega), Int.add_zero]
  · rw [if_neg e]
    by_cases h : p < j
    · rw [if_pos h, if_pos (by omega)]
    · rw [if_neg h, if_neg (by omega)]
theorem rep_intL (n : Nat) (z : Int) : (List.replicate n z).map (fun z => z) = List.replicate n z := by simp
end K16


set_option Elab.async false
set_option linter.all false
set_option maxRecDepth 100000
set_option maxHeartbeats 4000000
namespace K16
/-! ### what hits_of, rooks_up tell -/
def facW (a : List Int) : List Int := (List.range a.length).map fun i => a.getD i 0 * facI (a.length - 1 - i)
theorem facW_length (a : List Int) : (facW a).length = a.length := by
  unfold facW
  rw [List.length_map, List.length_range]
theorem tIn_length (a : List Int) : (tIn a).length = a.length := tabR_length _ _
theorem tOut_length (a : List Int) : (tOut a).length = a.length := tabR_length _ _
def upBad (a : List Int) (j : Nat) : Bool := !decide ((tIn a).getD j 0 % facI (a.length - 1 - j) = 0)
def upQ (a : List Int) (j : Nat) : Int := (tIn a).getD j 0 / facI (a.length - 1 - j)
def upR (a : List Int) : Option Nat := (List.range a.length).find? (upBad a)
theorem facI_bd {n : Nat} (h : n ≤ 12) : 0 < facI n ∧ facI n < 1073741824 := by
  have k : ∀ n, n < 13 → 0 < facI n ∧ facI n < 1073741824 := by decide
  exact k n (by omega)
theorem find_first {p : Nat → Bool} {n i : Nat} (hi : i < n) (hp : p i = true) (hq : ∀ j, j < i → p j = false) : (List.range n).find? p = some i := by
  rw [List.find?_eq_some_iff_append]
  refine ⟨hp, List.range i, (List.range n).drop (i + 1), ?_, fun j hj => ?_⟩
  · have e : List.range n = (List.range n).take i ++ (List.range n).drop i := (List.take_append_drop i _).symm
    rw [List.drop_eq_getElem_cons (by rw [List.length_range]; exact hi), List.getElem_range, List.take_range] at e
    rw [show min i n = i by omega] at e
    exact e
  · rw [hq j (List.mem_range.mp hj)]
    rfl
theorem find_no {p : Nat → Bool} {n : Nat} (hq : ∀ j, j < n → p j = false) : (List.range n).find? p = none := by
  rw [List.find?_eq_none]
  intro x hx
  rw [hq x (List.mem_range.mp hx)]
  exact Bool.false_ne_true
/-! ### boards -/
def RowOk (n : Nat) (row : List Int) : Prop := row.length ≤ 1000 ∧ (∀ x ∈ row, 0 ≤ x ∧ x ≤ (n : Int) - 1) ∧ row.Pairwise (· < ·)
def BoardOk (b : List (List Int)) : Prop := 1 ≤ b.length ∧ b.length ≤ 64 ∧ ∀ row ∈ b, RowOk b.length row
def rangeZ (lo : Int) (n : Nat) : List Int := (List.range n).map fun i : Nat => lo + (i : Int)
theorem rangeZ_length (lo : Int) (n : Nat) : (rangeZ lo n).length = n := by
  unfold rangeZ
  rw [List.length_map, List.length_range]
def freeRow (n : Nat) (row : List Int) : List Int := (rangeZ 0 n).filter fun x => !decide (x ∈ row)
def freeB (b : List (List Int)) : List (List Int) := b.map (freeRow b.length)
end K16


set_option Elab.async false
set_option linter.all false
set_option maxRecDepth 100000
set_option maxHeartbeats 4000000
namespace K16
/-! ### rising lists of columns: masks, hashes, one more column -/
def subs : Nat → List (List Int)
  | 0 => [[]]
  | n + 1 => subs n ++ (subs n).map fun k => k ++ [(n : Int)]
def Ris (n : Nat) (k : List Int) : Prop := (∀ x ∈ k, 0 ≤ x ∧ x < (n : Int)) ∧ k.Pairwise (· < ·)
theorem ris_subs : ∀ (n : Nat) (k : List Int), Ris n k → k ∈ subs n
  | 0, k, ⟨h, _⟩ => by
    cases k with
    | nil => exact List.mem_cons_self
    | cons x r =>
      have := h x List.mem_cons_self
      omega
  | n + 1, k, ⟨h, hp⟩ => by
    rw [subs, List.mem_append]
    by_cases hn : (n : Int) ∈ k
    · right
      obtain ⟨a, b, e⟩ := List.append_of_mem hn
      subst e
      have hb : b = [] := by
        cases b with
        | nil => rfl
        | cons y r =>
          have h1 := h y (by simp)
          rw [List.pairwise_append] at hp
          have h2 := (List.pairwise_cons.mp hp.2.1).1 y (by simp)
          omega
      subst hb
      rw [List.pairwise_append] at hp
      refine List.mem_map.mpr ⟨a, ris_subs n a ⟨fun x hx => ?_, hp.1⟩, rfl⟩
      have h1 := h x (by simp [hx])
      have h2 := hp.2.2 x hx (n : Int) (by simp)
      omega
    · left
      refine ris_subs n k ⟨fun x hx => ?_, hp⟩
      have h1 := h x hx
      have : x ≠ (n : Int) := fun z => hn (z ▸ hx)
      omega
def mask (k : List Int) : Int := (k.map fun x => (2 : Int) ^ x.toNat).sum
/-- one more column -/
def insS (k : List Int) (x : Int) : List Int := k.filter (· < x) ++ x :: k.filter (x < ·)
theorem insS_ris {n : Nat} {k : List Int} {x : Int} (h : Ris n k) (hx : 0 ≤ x ∧ x < (n : Int)) : Ris n (insS k x) := by
  obtain ⟨h1, h2⟩ := h
  refine ⟨fun y hy => ?_, ?_⟩
  · unfold insS at hy
    rcases List.mem_append.mp hy with z | z
    · exact h1 y (List.mem_filter.mp z).1
    · rcases List.mem_cons.mp z with z | z
      · subst z; exact hx
      · exact h1 y (List.mem_filter.mp z).1
  · unfold insS
    rw [List.pairwise_append]
    refine ⟨h2.filter _, ?_, fun a ha b hb => ?_⟩
    · rw [List.pairwise_cons]
      exact ⟨fun b hb => by simpa using (List.mem_filter.mp hb).2, h2.filter _⟩
    · have ha := (List.mem_filter.mp ha).2
      have ha : a < x := by simpa using ha
      rcases List.mem_cons.mp hb with z | z
      · subst z; exact ha
      · have hb := (List.mem_filter.mp z).2
        have hb : x < b := by simpa using hb
        omega
theorem insS_perm {n : Nat} {k : List Int} {x : Int} (hx : x ∉ k) : (insS k x).Perm (x :: k) := by
  unfold insS
  refine List.perm_middle.trans (List.Perm.cons x ?_)
  have e : k.filter (fun y => x < y) = k.filter (fun y => !decide (y < x)) := by
    refine List.filter_congr fun y hy => ?_
    have : y ≠ x := fun z => hx (z ▸ hy)
    by_cases h : y < x
    · simp [h]; omega
    · simp [h]; omega
  rw [e]
  exact List.filter_append_perm _ k
theorem ris_unique {n : Nat} {k l : List Int} (hk : k.Pairwise (· ≤ ·)) (hl : l.Pairwise (· < ·)) (p : k.Perm l) : k = l :=
  p.eq_of_pairwise (le := (· ≤ ·)) (fun a b _ _ h1 h2 => by omega) hk (hl.imp fun h => by omega)
theorem insS_length {k : List Int} {x : Int} (hx : x ∉ k) : (insS k x).length = k.length + 1 := by
  rw [(insS_perm (n := 0) hx).length_eq]
  rfl
theorem sum_perm {a b : List Int} (p : a.Perm b) : a.sum = b.sum := by
  induction p with
  | nil => rfl
  | cons x _ ih => rw [List.sum_cons, List.sum_cons, ih]
  | swap x y l => rw [List.sum_cons, List.sum_cons, List.sum_cons, List.sum_cons]; omega
  | trans _ _ h1 h2 => exact h1.trans h2
theorem mask_ins {k : List Int} {x : Int} (hx : x ∉ k) : mask (insS k x) = mask k + (2 : Int) ^ x.toNat := by
  unfold mask
  rw [sum_perm ((insS_perm (n := 0) hx).map _), List.map_cons, List.sum_cons]
  omega
theorem mask_tab : ∀ k ∈ subs 9, ∀ p : Nat, p < 9 → (mask k / (2 : Int) ^ p) % 2 = if (p : Int) ∈ k then 1 else 0 := by decide +kernel
theorem mask_inj : ((subs 9).map mask).Nodup := by decide +kernel
theorem subs_count : (subs 9).length = 512 := by decide +kernel
end K16


set_option Elab.async false
set_option linter.all false
set_option maxRecDepth 100000
set_option maxHeartbeats 4000000
namespace K16
/-! ### counted placings, by the columns taken -/
abbrev Tb := List (List Int × Int)
def getZ (W : Tb) (k : List Int) : Option Int := (W.find? fun p => decide (p.1 = k)).map (·.2)
def putZ (W : Tb) (k : List Int) (v : Int) : Tb :=
  if (W.any fun p => decide (p.1 = k)) = true then W.map (fun p => if p.1 = k then (p.1, v) else p) else W ++ [(k, v)]
def bump (W : Tb) (k : List Int) (v : Int) : Tb := putZ W k ((getZ W k).getD 0 + v)
def rowStep (k : List Int) (v : Int) (row : List Int) (W : Tb) : Tb := row.foldl (fun W x => if x ∈ k then W else bump W (insS k x) v) W
def step (W : Tb) (row : List Int) : Tb := W.foldl (fun A p => rowStep p.1 p.2 row A) W
def ways (b : List (List Int)) : Tb := b.foldl step [([], 1)]
def tell1 (t : List Int) (p : List Int × Int) : List Int := t.set p.1.length (t.getD p.1.length 0 + p.2)
def tellZ (n : Nat) (W : Tb) : List Int := W.foldl tell1 (List.replicate (n + 1) 0)
def total (W : Tb) (φ : List Int → Int) : Int := (W.map fun p => p.2 * φ p.1).sum
def back : List (List Int) → (List Int → Int) → List Int → Int
  | [], φ, k => φ k
  | row :: b, φ, k => back b φ k + (row.map fun x => if x ∈ k then 0 else back b φ (insS k x)).sum
def OkW (n : Nat) (W : Tb) : Prop := (W.map (·.1)).Nodup ∧ ∀ p ∈ W, Ris n p.1
theorem getZ_cons (p : List Int × Int) (W : Tb) (k : List Int) : getZ (p :: W) k = if p.1 = k then some p.2 else getZ W k := by
  by_cases e : p.1 = k
  · simp [getZ, List.find?_cons, e]
  · simp [getZ, List.find?_cons, e]
theorem any_iff (W : Tb) (k : List Int) : (W.any fun p => decide (p.1 = k)) = true ↔ k ∈ W.map (·.1) := by
  rw [List.any_eq_true]
  constructor
  · rintro ⟨p, hp, e⟩
    exact List.mem_map.mpr ⟨p, hp, of_decide_eq_true e⟩
  · intro h
    obtain ⟨p, hp, e⟩ := List.mem_map.mp h
    exact ⟨p, hp, decide_eq_true e⟩
theorem getZ_none {W : Tb} {k : List Int} (h : k ∉ W.map (·.1)) : getZ W k = none := by
  induction W with
  | nil => rfl
  | cons p W ih =>
    rw [List.map_cons, List.mem_cons, not_or] at h
    rw [getZ_cons, if_neg fun e => h.1 e.symm, ih h.2]
theorem putZ_keys (W : Tb) (k : List Int) (v : Int) : (putZ W k v).map (·.1) = if k ∈ W.map (·.1) then W.map (·.1) else W.map (·.1) ++ [k] := by
  unfold putZ
  by_cases h : k ∈ W.map (·.1)
  · rw [if_pos ((any_iff W k).mpr h), if_pos h, List.map_map]
    refine List.map_congr_left fun p _ => ?_
    show (if p.1 = k then (p.1, v) else p).1 = p.1
    split <;> rfl
  · rw [if_neg fun z => h ((any_iff W k).mp z), if_neg h, List.map_append]
    rfl
theorem putZ_nodup {W : Tb} (k : List Int) (v : Int) (h : (W.map (·.1)).Nodup) : ((putZ W k v).map (·.1)).Nodup := by
  rw [putZ_keys]
  split
  · exact h
  · rename_i hk
    rw [List.nodup_append]
    exact ⟨h, List.nodup_cons.mpr ⟨List.not_mem_nil, List.nodup_nil⟩, fun a ha b hb e => hk (by rw [List.mem_singleton] at hb; rw [← hb, ← e]; exact ha)⟩
theorem okW_iff {n : Nat} {W : Tb} : OkW n W ↔ (W.map (·.1)).Nodup ∧ ∀ k ∈ W.map (·.1), Ris n k :=
  ⟨fun h => ⟨h.1, fun k hk => by obtain ⟨p, hp, rfl⟩ := List.mem_map.mp hk; exact h.2 p hp⟩, fun h => ⟨h.1, fun p hp => h.2 _ (List.mem_map_of_mem hp)⟩⟩
theorem putZ_ok {n : Nat} {W : Tb} {k : List Int} (v : Int) (h : OkW n W) (hk : Ris n k) : OkW n (putZ W k v) := by
  refine okW_iff.mpr ⟨putZ_nodup k v h.1, fun j hj => ?_⟩
  rw [putZ_keys] at hj
  split at hj
  · exact (okW_iff.mp h).2 j hj
  · rcases List.mem_append.mp hj with hj | hj
    · exact (okW_iff.mp h).2 j hj
    · rw [List.mem_singleton] at hj
      exact hj ▸ hk
theorem sum_snoc (a : List Int) (x : Int) : (a ++ [x]).sum = a.sum + x := by
  rw [List.sum_append, List.sum_cons, List.sum_nil]
  omega
theorem total_cons (p : List Int × Int) (W : Tb) (φ : List Int → Int) : total (p :: W) φ = p.2 * φ p.1 + total W φ := by
  unfold total
  rw [List.map_cons, List.sum_cons]
theorem total_snoc (W : Tb) (k : List Int) (v : Int) (φ : List Int → Int) : total (W ++ [(k, v)]) φ = total W φ + v * φ k := by
  unfold total
  rw [List.map_append]
  exact sum_snoc _ _
theorem total_keep {W : Tb} {k : List Int} (v : Int) (φ : List Int → Int) (h : k ∉ W.map (·.1)) : total (W.map fun p => if p.1 = k then (p.1, v) else p) φ = total W φ := by
  induction W with
  | nil => rfl
  | cons p W ih =>
    rw [List.map_cons, List.mem_cons, not_or] at h
    rw [List.map_cons, total_cons, total_cons, ih h.2, if_neg fun e => h.1 e.symm]
theorem total_old {W : Tb} {k : List Int} (v : Int) (φ : List Int → Int) (nd : (W.map (·.1)).Nodup) (h : k ∈ W.map (·.1)) : total (W.map fun p => if p.1 = k then (p.1, (getZ W k).getD 0 + v) else p) φ = total W φ + v * φ k := by
  induction W with
  | nil => simp at h
  | cons p W ih =>
    rw [List.map_cons, List.nodup_cons] at nd
    rw [List.map_cons, total_cons, total_cons, getZ_cons]
    by_cases e : p.1 = k
    · subst e
      rw [if_pos rfl, if_pos rfl, total_keep _ φ nd.1, Option.getD_some]
      show (p.2 + v) * φ p.1 + total W φ = p.2 * φ p.1 + total W φ + v * φ p.1
      rw [Int.add_mul]
      omega
    · rw [List.map_cons, List.mem_cons] at h
      have h2 := h.resolve_left fun z => e z.symm
      rw [if_neg e, if_neg e, ih nd.2 h2]
      omega
theorem total_bump {W : Tb} (k : List Int) (v : Int) (φ : List Int → Int) (nd : (W.map (·.1)).Nodup) : total (bump W k v) φ = total W φ + v * φ k := by
  unfold bump putZ
  by_cases h : k ∈ W.map (·.1)
  · rw [if_pos ((any_iff W k).mpr h), total_old v φ nd h]
  · rw [if_neg fun z => h ((any_iff W k).mp z), getZ_none h, total_snoc]
    simp
theorem bump_ok {n : Nat} {W : Tb} {k : List Int} (v : Int) (h : OkW n W) (hk : Ris n k) : OkW n (bump W k v) := putZ_ok _ h hk
theorem rowStep_ok {n : Nat} {k : List Int} (v : Int) (hk : Ris n k) : ∀ (row : List Int) (W : Tb), (∀ x ∈ row, 0 ≤ x ∧ x < (n : Int)) → OkW n W → OkW n (rowStep k v row W)
  | [], W, _, h => h
  | x :: row, W, hr, h => by
    show OkW n (rowStep k v row (if x ∈ k then W else bump W (insS k x) v))
    refine rowStep_ok v hk row _ (fun y hy => hr y (List.mem_cons_of_mem _ hy)) ?_
    split
    · exact h
    · rename_i hx
      exact bump_ok v h (insS_ris hk (hr x List.mem_cons_self))
theorem total_rowStep {n : Nat} {k : List Int} (v : Int) (φ : List Int → Int) (hk : Ris n k) : ∀ (row : List Int) (W : Tb), (∀ x ∈ row, 0 ≤ x ∧ x < (n : Int)) → OkW n W →
    total (rowStep k v row W) φ = total W φ + v * (row.map fun x => if x ∈ k then 0 else φ (insS k x)).sum
  | [], W, _, h => by simp [rowStep]
  | x :: row, W, hr, h => by
    have hr2 := fun y hy => hr y (List.mem_cons_of_mem x hy)
    show total (rowStep k v row (if x ∈ k then W else bump W (insS k x) v)) φ = _
    rw [List.map_cons, List.sum_cons]
    by_cases hx : x ∈ k
    · rw [if_pos hx, if_pos hx, total_rowStep v φ hk row W hr2 h]
      congr 2
      omega
    · rw [if_neg hx, if_neg hx, total_rowStep v φ hk row _ hr2 (bump_ok v h (insS_ris hk (hr x List.mem_cons_self))), total_bump _ v φ h.1, Int.mul_add]
      omega
def RowIn (n : Nat) (row : List Int) : Prop := ∀ x ∈ row, 0 ≤ x ∧ x < (n : Int)
theorem stepAux_ok {n : Nat} {row : List Int} (hr : RowIn n row) : ∀ (V A : Tb), (∀ p ∈ V, Ris n p.1) → OkW n A → OkW n (V.foldl (fun A p => rowStep p.1 p.2 row A) A)
  | [], A, _, h => h
  | p :: V, A, hV, h => stepAux_ok hr V _ (fun q hq => hV q (List.mem_cons_of_mem _ hq)) (rowStep_ok p.2 (hV p List.mem_cons_self) row A hr h)
theorem total_stepAux {n : Nat} {row : List Int} (φ : List Int → Int) (hr : RowIn n row) : ∀ (V A : Tb), (∀ p ∈ V, Ris n p.1) → OkW n A →
    total (V.foldl (fun A p => rowStep p.1 p.2 row A) A) φ = total A φ + total V fun k => (row.map fun x => if x ∈ k then 0 else φ (insS k x)).sum
  | [], A, _, h => by show total A φ = total A φ + 0; omega
  | p :: V, A, hV, h => by
    rw [List.foldl_cons, total_stepAux φ hr V _ (fun q hq => hV q (List.mem_cons_of_mem _ hq)) (rowStep_ok p.2 (hV p List.mem_cons_self) row A hr h), total_rowStep p.2 φ (hV p List.mem_cons_self) row A hr h, total_cons]
    omega
theorem step_ok {n : Nat} {W : Tb} {row : List Int} (hr : RowIn n row) (h : OkW n W) : OkW n (step W row) := stepAux_ok hr W W h.2 h
theorem total_add (φ ψ : List Int → Int) : ∀ W : Tb, total W (fun k => φ k + ψ k) = total W φ + total W ψ
  | [] => rfl
  | p :: W => by
    rw [total_cons, total_cons, total_cons, total_add φ ψ W, Int.mul_add]
    omega
theorem total_step {n : Nat} {W : Tb} {row : List Int} (φ : List Int → Int) (hr : RowIn n row) (h : OkW n W) : total (step W row) φ = total W fun k => φ k + (row.map fun x => if x ∈ k then 0 else φ (insS k x)).sum := by
  unfold step
  rw [total_stepAux φ hr W W h.2 h, total_add]
theorem steps_ok {n : Nat} : ∀ (b : List (List Int)) (W : Tb), (∀ row ∈ b, RowIn n row) → OkW n W → OkW n (b.foldl step W)
  | [], W, _, h => h
  | row :: b, W, hb, h => steps_ok b _ (fun r hr => hb r (List.mem_cons_of_mem _ hr)) (step_ok (hb row List.mem_cons_self) h)
theorem total_steps {n : Nat} (φ : List Int → Int) : ∀ (b : List (List Int)) (W : Tb), (∀ row ∈ b, RowIn n row) → OkW n W → total (b.foldl step W) φ = total W (back b φ)
  | [], W, _, h => rfl
  | row :: b, W, hb, h => by
    rw [List.foldl_cons, total_steps φ b _ (fun r hr => hb r (List.mem_cons_of_mem _ hr)) (step_ok (hb row List.mem_cons_self) h), total_step _ (hb row List.mem_cons_self) h]
    rfl
theorem ok_one (n : Nat) : OkW n [([], 1)] := ⟨by simp, fun p hp => by rw [List.mem_singleton] at hp; subst hp; exact ⟨fun x hx => absurd hx List.not_mem_nil, .nil⟩⟩
theorem ways_ok {n : Nat} {b : List (List Int)} (hb : ∀ row ∈ b, RowIn n row) : OkW n (ways b) := steps_ok b _ hb (ok_one n)
theorem ways_total {n : Nat} {b : List (List Int)} (φ : List Int → Int) (hb : ∀ row ∈ b, RowIn n row) : total (ways b) φ = back b φ [] := by
  unfold ways
  rw [total_steps φ b _ hb (ok_one n), total_cons]
  show 1 * back b φ [] + 0 = _
  omega
theorem nodup_le {α : Type} [DecidableEq α] : ∀ {a b : List α}, a.Nodup → (∀ x ∈ a, x ∈ b) → a.length ≤ b.length
  | [], _, _, _ => Nat.zero_le _
  | x :: a, b, nd, h => by
    rw [List.nodup_cons] at nd
    have hx := h x List.mem_cons_self
    have l := List.length_erase_of_mem hx
    have p := List.length_pos_of_mem hx
    have := nodup_le (b := b.erase x) nd.2 fun y hy => (List.mem_erase_of_ne (fun e : y = x => nd.1 (e ▸ hy))).mpr (h y (List.mem_cons_of_mem _ hy))
    rw [List.length_cons]
    omega
theorem okW_short {n : Nat} {W : Tb} (h : OkW n W) (hn : n ≤ 9) : W.length ≤ 512 := by
  have h9 : ∀ k ∈ W.map (·.1), k ∈ subs 9 := fun k hk => ris_subs 9 k ⟨fun x hx => by have := ((okW_iff.mp h).2 k hk).1 x hx; omega, ((okW_iff.mp h).2 k hk).2⟩
  have := nodup_le h.1 h9
  rw [List.length_map, subs_count] at this
  exact this

theorem tell1_length (t : List Int) (p : List Int × Int) : (tell1 t p).length = t.length := List.length_set ..
theorem tellAux_length : ∀ (W : Tb) (t : List Int), (W.foldl tell1 t).length = t.length
  | [], _ => rfl
  | p :: W, t => by rw [List.foldl_cons, tellAux_length W, tell1_length]
theorem tellZ_length (n : Nat) (W : Tb) : (tellZ n W).length = n + 1 := by
  unfold tellZ
  rw [tellAux_length, List.length_replicate]
theorem tellAux_get (j : Nat) : ∀ (W : Tb) (t : List Int), j < t.length → (W.foldl tell1 t).getD j 0 = t.getD j 0 + total W (fun k => if k.length = j then 1 else 0)
  | [], t, _ => by show _ = _ + (0 : Int); simp
  | p :: W, t, h => by
    rw [List.foldl_cons, tellAux_get j W _ (by rw [tell1_length]; exact h), total_cons]
    unfold tell1
    by_cases e : p.1.length = j
    · rw [if_pos e, e]
      have : (t.set j (t.getD j 0 + p.2)).getD j 0 = t.getD j 0 + p.2 := by
        simp [List.getD_eq_getElem?_getD, List.getElem?_set, h]
      rw [this]
      omega
    · rw [if_neg e]
      have : (t.set p.1.length (t.getD p.1.length 0 + p.2)).getD j 0 = t.getD j 0 := by
        simp [List.getD_eq_getElem?_getD, List.getElem?_set, e]
      rw [this]
      omega
theorem tellZ_get {n j : Nat} (W : Tb) (h : j ≤ n) : (tellZ n W).getD j 0 = total W (fun k => if k.length = j then 1 else 0) := by
  unfold tellZ
  rw [tellAux_get j W _ (by rw [List.length_replicate]; omega)]
  have : (List.replicate (n + 1) (0 : Int)).getD j 0 = 0 := by
    rw [List.getD_eq_getElem?_getD, List.getElem?_replicate]
    split <;> rfl
  rw [this]
  omega
/-- a rising list within n columns is at most n long -/
theorem ris_length {n : Nat} {k : List Int} (h : Ris n k) : k.length ≤ n := by
  have nd : k.Nodup := h.2.imp fun a => by omega
  have := nodup_le (b := (List.range n).map fun i : Nat => (i : Int)) nd fun x hx => by
    obtain ⟨a, b⟩ := h.1 x hx
    exact List.mem_map.mpr ⟨x.toNat, List.mem_range.mpr (by omega), by omega⟩
  rw [List.length_map, List.length_range] at this
  exact this
theorem nodup_inj {α β : Type} {f : α → β} : ∀ {l : List α} {a b : α}, (l.map f).Nodup → a ∈ l → b ∈ l → f a = f b → a = b
  | [], _, _, _, ha, _, _ => absurd ha List.not_mem_nil
  | x :: l, a, b, nd, ha, hb, e => by
    rw [List.map_cons, List.nodup_cons] at nd
    rcases List.mem_cons.mp ha with ha2 | ha2
    · rcases List.mem_cons.mp hb with hb2 | hb2
      · rw [ha2, hb2]
      · exact absurd (by rw [← ha2, e]; exact List.mem_map_of_mem hb2) nd.1
    · rcases List.mem_cons.mp hb with hb2 | hb2
      · exact absurd (by rw [← hb2, ← e]; exact List.mem_map_of_mem ha2) nd.1
      · exact nodup_inj nd.2 ha2 hb2 e
theorem nodup_map {α β : Type} {f : α → β} : ∀ {l : List α}, l.Nodup → (∀ a ∈ l, ∀ b ∈ l, f a = f b → a = b) → (l.map f).Nodup
  | [], _, _ => List.nodup_nil
  | x :: l, nd, h => by
    rw [List.nodup_cons] at nd
    rw [List.map_cons, List.nodup_cons]
    refine ⟨fun z => ?_, nodup_map nd.2 fun a ha b hb => h a (List.mem_cons_of_mem _ ha) b (List.mem_cons_of_mem _ hb)⟩
    obtain ⟨y, hy, e⟩ := List.mem_map.mp z
    exact nd.1 (h y (List.mem_cons_of_mem _ hy) x List.mem_cons_self e ▸ hy)
theorem okW_subs {n : Nat} {W : Tb} (h : OkW n W) (hn : n ≤ 9) : ∀ k ∈ W.map (·.1), k ∈ subs 9 := fun k hk => ris_subs 9 k ⟨fun x hx => by have := ((okW_iff.mp h).2 k hk).1 x hx; omega, ((okW_iff.mp h).2 k hk).2⟩
theorem okW_map {β : Type} {f : List Int → β} {n : Nat} {W : Tb} (hf : ((subs 9).map f).Nodup) (h : OkW n W) (hn : n ≤ 9) : ((W.map (·.1)).map f).Nodup :=
  nodup_map h.1 fun a ha b hb e => nodup_inj hf (okW_subs h hn a ha) (okW_subs h hn b hb) e
end K16


set_option Elab.async false
set_option linter.all false
set_option maxRecDepth 100000
set_option maxHeartbeats 4000000
namespace K16
/-! ### how large the counts can be -/
theorem sum_bd {c : Int} : ∀ {l : List Int}, (∀ x ∈ l, 0 ≤ x ∧ x ≤ c) → 0 ≤ l.sum ∧ l.sum ≤ (l.length : Int) * c
  | [], _ => ⟨Int.le_refl _, by simp⟩
  | x :: l, h => by
    have h1 := h x List.mem_cons_self
    have h2 := sum_bd fun y hy => h y (List.mem_cons_of_mem x hy)
    rw [List.sum_cons, List.length_cons]
    refine ⟨by omega, ?_⟩
    rw [show ((l.length + 1 : Nat) : Int) = (l.length : Int) + 1 by omega, Int.add_mul]
    omega
theorem back_bd {n : Nat} {φ : List Int → Int} (hφ : ∀ k, 0 ≤ φ k ∧ φ k ≤ 1) : ∀ (b : List (List Int)) (k : List Int), (∀ row ∈ b, row.length ≤ n) → 0 ≤ back b φ k ∧ back b φ k ≤ ((n : Int) + 1) ^ b.length
  | [], k, _ => by simpa [back] using hφ k
  | row :: b, k, h => by
    have h1 := h row List.mem_cons_self
    have ih := fun k => back_bd hφ b k fun r hr => h r (List.mem_cons_of_mem _ hr)
    have hs := sum_bd (c := ((n : Int) + 1) ^ b.length) (l := row.map fun x => if x ∈ k then 0 else back b φ (insS k x)) fun y hy => by
      obtain ⟨x, _, rfl⟩ := List.mem_map.mp hy
      by_cases e : x ∈ k
      · have := ih k
        simp only [e, if_true]
        omega
      · simp only [e, if_false]
        exact ih _
    rw [List.length_map] at hs
    have i1 := ih k
    have hc : 0 ≤ ((n : Int) + 1) ^ b.length := by omega
    have hm : (row.length : Int) * ((n : Int) + 1) ^ b.length ≤ (n : Int) * ((n : Int) + 1) ^ b.length := Int.mul_le_mul_of_nonneg_right (by omega) hc
    show 0 ≤ back b φ k + _ ∧ back b φ k + _ ≤ _
    rw [List.length_cons, Int.pow_succ, Int.mul_add, Int.mul_comm _ (n : Int)]
    omega
theorem pow_bd : ∀ n : Nat, n ≤ 9 → ((n : Int) + 1) ^ n ≤ 1000000000 := by decide
theorem told_bd {b : List (List Int)} (h9 : b.length ≤ 9) (hin : ∀ row ∈ b, RowIn b.length row) (hl : ∀ row ∈ b, row.length ≤ b.length) : ∀ x ∈ tellZ b.length (ways b), 0 ≤ x ∧ x ≤ 1000000000 := by
  intro x hx
  obtain ⟨j, hj, rfl⟩ := List.mem_iff_getElem.mp hx
  rw [tellZ_length] at hj
  have e := tellZ_get (n := b.length) (j := j) (ways b) (by omega)
  rw [List.getD_eq_getElem?_getD, List.getElem?_eq_getElem (by rw [tellZ_length]; exact hj), Option.getD_some] at e
  rw [e, ways_total _ hin]
  have := back_bd (n := b.length) (φ := fun k => if k.length = j then 1 else 0) (fun k => by split <;> omega) b [] hl
  have := pow_bd _ h9
  omega
end K16


set_option Elab.async false
set_option linter.all false
set_option maxRecDepth 100000
set_option maxHeartbeats 4000000
namespace K16
/-! ### whole placings told by hits: keys h :: k, h the hits so far, k the columns taken -/
def OkT (n m : Nat) (W : Tb) : Prop := (W.map (·.1)).Nodup ∧ ∀ l ∈ W.map (·.1), ∃ (h : Int) (k : List Int), l = h :: k ∧ Ris n k ∧ 0 ≤ h ∧ h ≤ (m : Int)
def hitOf (row : List Int) (x : Int) : Int := if x ∈ row then 1 else 0
def nextT (row : List Int) (l : List Int) (x : Int) : List Int := (l.headD 0 + hitOf row x) :: insS l.tail x
def tPut (row : List Int) (l : List Int) (v : Int) (A : Tb) (x : Nat) : Tb := if (x : Int) ∈ l.tail then A else bump A (nextT row l x) v
def tRow (n : Nat) (row : List Int) (l : List Int) (v : Int) (A : Tb) : Tb := (List.range n).foldl (tPut row l v) A
def tStep (n : Nat) (W : Tb) (row : List Int) : Tb := W.foldl (fun A p => tRow n row p.1 p.2 A) []
def taken (n : Nat) (b : List (List Int)) : Tb := b.foldl (tStep n) [([0], 1)]
def sumT (n : Nat) (row : List Int) (φ : List Int → Int) (l : List Int) : Int := ((List.range n).map fun x : Nat => if (x : Int) ∈ l.tail then 0 else φ (nextT row l x)).sum
def backT (n : Nat) : List (List Int) → (List Int → Int) → List Int → Int
  | [], φ, l => φ l
  | row :: b, φ, l => sumT n row (backT n b φ) l
theorem bump_okT {n m : Nat} {A : Tb} {h : Int} {k : List Int} (v : Int) (ok : OkT n m A) (hk : Ris n k) (h0 : 0 ≤ h) (hm : h ≤ (m : Int)) : OkT n m (bump A (h :: k) v) := by
  unfold bump
  refine ⟨putZ_nodup _ _ ok.1, fun j hj => ?_⟩
  rw [putZ_keys] at hj
  split at hj
  · exact ok.2 j hj
  · rcases List.mem_append.mp hj with hj | hj
    · exact ok.2 j hj
    · rw [List.mem_singleton] at hj
      exact ⟨h, k, hj, hk, h0, hm⟩
theorem hitOf_bd (row : List Int) (x : Int) : 0 ≤ hitOf row x ∧ hitOf row x ≤ 1 := by
  unfold hitOf
  split <;> omega
theorem tPut_ok {n m : Nat} {row : List Int} {h : Int} {k : List Int} (v : Int) {A : Tb} {x : Nat} (hk : Ris n k) (h0 : 0 ≤ h) (hm : h ≤ (m : Int)) (hx : x < n) (ok : OkT n (m + 1) A) : OkT n (m + 1) (tPut row (h :: k) v A x) := by
  unfold tPut
  split
  · exact ok
  · have := hitOf_bd row x
    exact bump_okT v ok (insS_ris hk (by omega)) (by show 0 ≤ h + _; omega) (by show h + _ ≤ _; omega)
theorem tAux_ok {n m : Nat} {row : List Int} {h : Int} {k : List Int} (v : Int) (hk : Ris n k) (h0 : 0 ≤ h) (hm : h ≤ (m : Int)) : ∀ (xs : List Nat) (A : Tb), (∀ x ∈ xs, x < n) → OkT n (m + 1) A → OkT n (m + 1) (xs.foldl (tPut row (h :: k) v) A)
  | [], A, _, ok => ok
  | x :: xs, A, hx, ok => tAux_ok v hk h0 hm xs _ (fun y hy => hx y (List.mem_cons_of_mem _ hy)) (tPut_ok v hk h0 hm (hx x List.mem_cons_self) ok)
theorem total_tAux {n m : Nat} {row : List Int} {h : Int} {k : List Int} (v : Int) (φ : List Int → Int) (hk : Ris n k) (h0 : 0 ≤ h) (hm : h ≤ (m : Int)) : ∀ (xs : List Nat) (A : Tb), (∀ x ∈ xs, x < n) → OkT n (m + 1) A →
    total (xs.foldl (tPut row (h :: k) v) A) φ = total A φ + v * (xs.map fun x : Nat => if (x : Int) ∈ k then 0 else φ (nextT row (h :: k) x)).sum
  | [], A, _, ok => by simp
  | x :: xs, A, hx, ok => by
    rw [List.foldl_cons, total_tAux v φ hk h0 hm xs _ (fun y hy => hx y (List.mem_cons_of_mem _ hy)) (tPut_ok v hk h0 hm (hx x List.mem_cons_self) ok), List.map_cons, List.sum_cons, Int.mul_add]
    have e : total (tPut row (h :: k) v A x) φ = total A φ + v * (if (x : Int) ∈ k then 0 else φ (nextT row (h :: k) x)) := by
      unfold tPut
      by_cases hx : (x : Int) ∈ k
      · rw [if_pos (show (x : Int) ∈ (h :: k).tail from hx), if_pos hx]
        omega
      · rw [if_neg (show ¬ (x : Int) ∈ (h :: k).tail from hx), if_neg hx, total_bump _ v φ ok.1]
    rw [e]
    omega
theorem tStepAux {n m : Nat} {row : List Int} (φ : List Int → Int) : ∀ (V A : Tb), (∀ p ∈ V, ∃ (h : Int) (k : List Int), p.1 = h :: k ∧ Ris n k ∧ 0 ≤ h ∧ h ≤ (m : Int)) → OkT n (m + 1) A →
    OkT n (m + 1) (V.foldl (fun A p => tRow n row p.1 p.2 A) A) ∧ total (V.foldl (fun A p => tRow n row p.1 p.2 A) A) φ = total A φ + total V (sumT n row φ)
  | [], A, _, ok => ⟨ok, by show total A φ = total A φ + 0; omega⟩
  | (l, v) :: V, A, hV, ok => by
    obtain ⟨h, k, rfl, hk, h0, hm⟩ := hV _ List.mem_cons_self
    have hr : ∀ x ∈ List.range n, x < n := fun x hx => List.mem_range.mp hx
    have ok2 : OkT n (m + 1) (tRow n row (h :: k) v A) := tAux_ok v hk h0 hm _ A hr ok
    have ih := tStepAux (row := row) φ V _ (fun q hq => hV q (List.mem_cons_of_mem _ hq)) ok2
    refine ⟨ih.1, ?_⟩
    rw [List.foldl_cons, ih.2, total_cons]
    have e : total (tRow n row (h :: k) v A) φ = total A φ + v * sumT n row φ (h :: k) := total_tAux v φ hk h0 hm _ A hr ok
    rw [e]
    show total A φ + v * sumT n row φ (h :: k) + total V (sumT n row φ) = total A φ + (v * sumT n row φ (h :: k) + total V (sumT n row φ))
    omega
theorem okT_nil (n m : Nat) : OkT n m [] := ⟨List.nodup_nil, fun l hl => absurd hl List.not_mem_nil⟩
theorem okT_mem {n m : Nat} {W : Tb} (h : OkT n m W) : ∀ p ∈ W, ∃ (h : Int) (k : List Int), p.1 = h :: k ∧ Ris n k ∧ 0 ≤ h ∧ h ≤ (m : Int) := fun p hp => h.2 _ (List.mem_map_of_mem hp)
theorem tStep_ok {n m : Nat} {W : Tb} (row : List Int) (h : OkT n m W) : OkT n (m + 1) (tStep n W row) := (tStepAux (fun _ => 0) W [] (okT_mem h) (okT_nil _ _)).1
theorem total_tStep {n m : Nat} {W : Tb} (row : List Int) (φ : List Int → Int) (h : OkT n m W) : total (tStep n W row) φ = total W (sumT n row φ) := by
  have := (tStepAux (row := row) φ W [] (okT_mem h) (okT_nil _ _)).2
  unfold tStep
  rw [this]
  show (0 : Int) + _ = _
  omega
theorem tSteps_ok {n : Nat} : ∀ (b : List (List Int)) (m : Nat) (W : Tb), OkT n m W → OkT n (m + b.length) (b.foldl (tStep n) W)
  | [], m, W, h => h
  | row :: b, m, W, h => by
    have := tSteps_ok b (m + 1) _ (tStep_ok row h)
    rw [List.length_cons, show m + (b.length + 1) = m + 1 + b.length by omega]
    exact this
theorem total_tSteps {n : Nat} (φ : List Int → Int) : ∀ (b : List (List Int)) (m : Nat) (W : Tb), OkT n m W → total (b.foldl (tStep n) W) φ = total W (backT n b φ)
  | [], m, W, h => rfl
  | row :: b, m, W, h => by
    rw [List.foldl_cons, total_tSteps φ b (m + 1) _ (tStep_ok row h), total_tStep row _ h]
    rfl
theorem okT_one (n : Nat) : OkT n 0 [([0], 1)] := ⟨by simp, fun l hl => by
  have e : l = [0] := by simpa using hl
  exact ⟨0, [], e, ⟨fun x hx => absurd hx List.not_mem_nil, .nil⟩, by omega, by omega⟩⟩
theorem taken_ok (n : Nat) (b : List (List Int)) : OkT n b.length (taken n b) := by
  have := tSteps_ok b 0 _ (okT_one n)
  rw [Nat.zero_add] at this
  exact this
theorem taken_total (n : Nat) (b : List (List Int)) (φ : List Int → Int) : total (taken n b) φ = backT n b φ [0] := by
  unfold taken
  rw [total_tSteps φ b 0 _ (okT_one n), total_cons]
  show 1 * backT n b φ [0] + 0 = _
  omega
theorem okT_short {n m : Nat} {W : Tb} (h : OkT n m W) (hn : n ≤ 9) (hm : m ≤ 9) : W.length ≤ 5120 := by
  have h9 : ∀ l ∈ W.map (·.1), l ∈ (List.range 10).flatMap fun i : Nat => (subs 9).map fun k => (i : Int) :: k := fun l hl => by
    obtain ⟨a, k, rfl, hk, h0, h1⟩ := h.2 l hl
    refine List.mem_flatMap.mpr ⟨a.toNat, List.mem_range.mpr (by omega), List.mem_map.mpr ⟨k, ris_subs 9 k ⟨fun x hx => by have := hk.1 x hx; omega, hk.2⟩, ?_⟩⟩
    rw [show ((a.toNat : Nat) : Int) = a by omega]
  have := nodup_le h.1 h9
  have e : ((List.range 10).flatMap fun i : Nat => (subs 9).map fun k => (i : Int) :: k).length = 5120 := by decide +kernel
  rw [e, List.length_map] at this
  exact this
end K16


set_option Elab.async false
set_option linter.all false
set_option maxRecDepth 100000
set_option maxHeartbeats 4000000
namespace K16
/-! ### hits by rooks -/
def sumL {α : Type} (l : List α) (f : α → Int) : Int := (l.map f).sum
theorem sumL_nil {α : Type} (f : α → Int) : sumL [] f = 0 := rfl
theorem sumL_cons {α : Type} (x : α) (l : List α) (f : α → Int) : sumL (x :: l) f = f x + sumL l f := by
  unfold sumL
  rw [List.map_cons, List.sum_cons]
theorem sumL_congr {α : Type} {l : List α} {f g : α → Int} (h : ∀ x ∈ l, f x = g x) : sumL l f = sumL l g := by
  unfold sumL
  rw [List.map_congr_left h]
theorem sumL_zero {α : Type} (l : List α) : sumL l (fun _ => 0) = 0 := by
  induction l with
  | nil => rfl
  | cons x l ih => rw [sumL_cons, ih]; rfl
theorem sumL_add {α : Type} (l : List α) (f g : α → Int) : sumL l (fun x => f x + g x) = sumL l f + sumL l g := by
  induction l with
  | nil => rfl
  | cons x l ih => rw [sumL_cons, sumL_cons, sumL_cons, ih]; omega
theorem sumL_mul {α : Type} (c : Int) (l : List α) (f : α → Int) : sumL l (fun x => c * f x) = c * sumL l f := by
  induction l with
  | nil => rw [sumL_nil, sumL_nil, Int.mul_zero]
  | cons x l ih => rw [sumL_cons, sumL_cons, ih, Int.mul_add]
theorem sumL_swap {α β : Type} (l : List α) (m : List β) (f : α → β → Int) : sumL l (fun x => sumL m fun y => f x y) = sumL m fun y => sumL l fun x => f x y := by
  induction l with
  | nil => rw [sumL_nil, sumL_congr fun y _ => sumL_nil _, sumL_zero]
  | cons x l ih => rw [sumL_cons, ih, ← sumL_add, sumL_congr fun y _ => (sumL_cons x l fun x => f x y).symm]
theorem sumL_range (n : Nat) (f : Nat → Int) : sumL (List.range n) f = sumN n f := rfl
theorem sumL_app {α : Type} (l m : List α) (f : α → Int) : sumL (l ++ m) f = sumL l f + sumL m f := by
  unfold sumL
  rw [List.map_append, List.sum_append]
theorem pick0 (g : Int → Int) (y : Int) : ∀ n : Nat, (0 ≤ y → (n : Int) ≤ y) → sumL (List.range n) (fun x : Nat => if (x : Int) = y then g x else 0) = 0 := fun n h => by
  rw [sumL_congr (g := fun _ => 0) fun x hx => if_neg fun e => ?_, sumL_zero]
  have := List.mem_range.mp hx
  omega
theorem pick (g : Int → Int) {y : Int} (h0 : 0 ≤ y) : ∀ n : Nat, y < (n : Int) → sumL (List.range n) (fun x : Nat => if (x : Int) = y then g x else 0) = g y
  | 0, h => by omega
  | n + 1, h => by
    rw [List.range_succ, sumL_app, sumL_cons, sumL_nil]
    by_cases e : (n : Int) = y
    · rw [if_pos e, pick0 g y n fun _ => by omega, e]
      omega
    · rw [if_neg e, pick g h0 n (by omega)]
      omega
theorem mem_ins {k : List Int} {x y : Int} : y ∈ insS k x ↔ y = x ∨ y ∈ k := by
  unfold insS
  rw [List.mem_append, List.mem_cons, List.mem_filter, List.mem_filter]
  constructor
  · rintro (h | h | h)
    · exact .inr h.1
    · exact .inl h
    · exact .inr h.1
  · rintro (h | h)
    · exact .inr (.inl h)
    · by_cases e : y = x
      · exact .inr (.inl e)
      · by_cases l : y < x
        · exact .inl ⟨h, by simpa using l⟩
        · exact .inr (.inr ⟨h, by simp; omega⟩)
/-- rooks in so many of the rows, at columns that are not taken -/
def rr : List (List Int) → List Int → Nat → Int
  | [], _, 0 => 1
  | [], _, _ + 1 => 0
  | _ :: b, k, 0 => rr b k 0
  | row :: b, k, i + 1 => rr b k (i + 1) + sumL row fun x => if x ∈ k then 0 else rr b (insS k x) i
theorem rr_congr : ∀ (b : List (List Int)) {k l : List Int} (i : Nat), (∀ y, y ∈ k ↔ y ∈ l) → rr b k i = rr b l i
  | [], _, _, 0, _ => rfl
  | [], _, _, _ + 1, _ => rfl
  | _ :: b, _, _, 0, h => rr_congr b 0 h
  | row :: b, k, l, i + 1, h => by
    show rr b k (i + 1) + _ = rr b l (i + 1) + _
    rw [rr_congr b (i + 1) h]
    congr 1
    refine sumL_congr fun x _ => ?_
    by_cases e : x ∈ k
    · rw [if_pos e, if_pos ((h x).mp e)]
    · rw [if_neg e, if_neg fun z => e ((h x).mpr z)]
      exact rr_congr b i fun y => by rw [mem_ins, mem_ins, h y]
theorem rr_over : ∀ (b : List (List Int)) (k : List Int) (i : Nat), b.length < i → rr b k i = 0
  | [], _, _ + 1, _ => rfl
  | row :: b, k, i + 1, h => by
    rw [List.length_cons] at h
    show rr b k (i + 1) + _ = 0
    rw [rr_over b k (i + 1) (by omega), sumL_congr (g := fun _ => 0) fun x _ => ?_, sumL_zero]
    · rfl
    · rw [rr_over b _ i (by omega)]
      split <;> rfl
/-- how many columns are free -/
def frc (n : Nat) (k : List Int) : Int := sumL (List.range n) fun x : Nat => if (x : Int) ∈ k then 0 else 1
theorem frc_nil (n : Nat) : frc n [] = (n : Int) := by
  unfold frc
  induction n with
  | zero => rfl
  | succ n ih =>
    rw [List.range_succ, sumL_app, ih, sumL_cons, sumL_nil, if_neg List.not_mem_nil]
    omega
theorem frc_ins {n : Nat} {k : List Int} {y : Int} (h0 : 0 ≤ y) (hn : y < (n : Int)) (hy : y ∉ k) : frc n (insS k y) = frc n k - 1 := by
  have e : frc n k = frc n (insS k y) + sumL (List.range n) (fun x : Nat => if (x : Int) = y then (fun _ => 1) (x : Int) else 0) := by
    unfold frc
    rw [← sumL_add]
    refine sumL_congr fun x _ => ?_
    by_cases e : (x : Int) = y
    · rw [if_pos e, if_pos (mem_ins.mpr (.inl e)), if_neg (by rw [e]; exact hy)]
      rfl
    · rw [if_neg e]
      by_cases m : (x : Int) ∈ k
      · rw [if_pos m, if_pos (mem_ins.mpr (.inr m))]
        omega
      · rw [if_neg m, if_neg fun z => (mem_ins.mp z).elim e m]
        omega
  rw [pick (fun _ => 1) h0 n hn] at e
  omega
theorem rr_more {n : Nat} : ∀ (b : List (List Int)) (k : List Int) (i : Nat), (∀ row ∈ b, RowIn n row) →
    sumL (List.range n) (fun x : Nat => if (x : Int) ∈ k then 0 else rr b (insS k x) i) = (frc n k - (i : Int)) * rr b k i
  | [], k, 0, _ => by
    show frc n k = (frc n k - ((0 : Nat) : Int)) * 1
    omega
  | [], k, i + 1, _ => by
    show sumL _ (fun x : Nat => if (x : Int) ∈ k then 0 else 0) = _ * 0
    rw [sumL_congr (g := fun _ => 0) fun x _ => by split <;> rfl, sumL_zero, Int.mul_zero]
  | row :: b, k, 0, h => rr_more b k 0 fun r hr => h r (List.mem_cons_of_mem _ hr)
  | row :: b, k, i + 1, h => by
    have hb : ∀ r ∈ b, RowIn n r := fun r hr => h r (List.mem_cons_of_mem _ hr)
    have e1 : sumL (List.range n) (fun x : Nat => if (x : Int) ∈ k then 0 else rr (row :: b) (insS k x) (i + 1)) =
        sumL (List.range n) (fun x : Nat => if (x : Int) ∈ k then 0 else rr b (insS k x) (i + 1)) +
        sumL row fun y => sumL (List.range n) fun x : Nat => if (x : Int) ∈ k then 0 else if y ∈ insS k x then 0 else rr b (insS (insS k x) y) i := by
      rw [sumL_swap, ← sumL_add]
      refine sumL_congr fun x _ => ?_
      by_cases m : (x : Int) ∈ k
      · rw [if_pos m, if_pos m, sumL_congr (g := fun _ => 0) fun y _ => if_pos m, sumL_zero]
        rfl
      · rw [if_neg m, if_neg m, sumL_congr fun y _ => if_neg m]
        rfl
    rw [e1, rr_more b k (i + 1) hb]
    have e2 : (sumL row fun y => sumL (List.range n) fun x : Nat => if (x : Int) ∈ k then 0 else if y ∈ insS k x then 0 else rr b (insS (insS k x) y) i) =
        sumL row fun y => (frc n k - ((i + 1 : Nat) : Int)) * (if y ∈ k then 0 else rr b (insS k y) i) := by
      refine sumL_congr fun y hy => ?_
      by_cases m : y ∈ k
      · rw [if_pos m, Int.mul_zero, sumL_congr (g := fun _ => 0) fun x _ => ?_, sumL_zero]
        rw [if_pos (mem_ins.mpr (.inr m))]
        split <;> rfl
      · have hin := h row List.mem_cons_self y hy
        rw [if_neg m]
        have e3 := rr_more b (insS k y) i hb
        rw [frc_ins hin.1 hin.2 m] at e3
        rw [show frc n k - ((i + 1 : Nat) : Int) = frc n k - 1 - (i : Int) by omega, ← e3]
        refine sumL_congr fun x _ => ?_
        by_cases mx : (x : Int) ∈ k
        · rw [if_pos mx, if_pos (mem_ins.mpr (.inr mx))]
        · rw [if_neg mx]
          by_cases e : (x : Int) = y
          · rw [if_pos (mem_ins.mpr (.inl e.symm)), if_pos (mem_ins.mpr (.inl e))]
          · rw [if_neg fun z => (mem_ins.mp z).elim (fun q => e q.symm) m, if_neg fun z => (mem_ins.mp z).elim e mx]
            refine rr_congr b i fun z => ?_
            rw [mem_ins, mem_ins, mem_ins, mem_ins]
            constructor
            · rintro (q | q | q)
              · exact .inr (.inl q)
              · exact .inl q
              · exact .inr (.inr q)
            · rintro (q | q | q)
              · exact .inr (.inl q)
              · exact .inl q
              · exact .inr (.inr q)
    rw [e2, sumL_mul, ← Int.mul_add]
    rfl
def Dk : Nat → (Int → Int) → Int → Int
  | 0, f, h => f h
  | i + 1, f, h => Dk i f (h + 1) - Dk i f h
theorem dk_hit (i : Nat) (f : Int → Int) (h : Int) (row : List Int) (x : Int) : Dk i f (h + hitOf row x) = Dk i f h + (if x ∈ row then Dk (i + 1) f h else 0) := by
  unfold hitOf
  by_cases e : x ∈ row
  · rw [if_pos e, if_pos e]
    show _ = Dk i f h + (Dk i f (h + 1) - Dk i f h)
    omega
  · rw [if_neg e, if_neg e, Int.add_zero, Int.add_zero]
theorem sum_row {n : Nat} (g : Int → Int) : ∀ (row : List Int), RowIn n row → row.Nodup → sumL (List.range n) (fun x : Nat => if (x : Int) ∈ row then g x else 0) = sumL row g
  | [], _, _ => by
    rw [sumL_congr (g := fun _ => 0) fun x _ => if_neg List.not_mem_nil, sumL_zero]
    rfl
  | y :: row, h, nd => by
    rw [List.nodup_cons] at nd
    have hy := h y List.mem_cons_self
    rw [sumL_cons, ← sum_row g row (fun x hx => h x (List.mem_cons_of_mem _ hx)) nd.2, ← pick g hy.1 n hy.2, ← sumL_add]
    refine sumL_congr fun x _ => ?_
    by_cases e : (x : Int) = y
    · rw [if_pos (by rw [e]; exact List.mem_cons_self), if_pos e, if_neg (by rw [e]; exact nd.1)]
      omega
    · rw [if_neg e]
      by_cases m : (x : Int) ∈ row
      · rw [if_pos m, if_pos (List.mem_cons_of_mem _ m)]
        omega
      · rw [if_neg m, if_neg fun z => (List.mem_cons.mp z).elim e m]
        omega
theorem sumN_mul (c : Int) (n : Nat) (f : Nat → Int) : sumN n (fun x => c * f x) = c * sumN n f := sumL_mul c (List.range n) f
theorem sumN_add (n : Nat) (f g : Nat → Int) : sumN n (fun x => f x + g x) = sumN n f + sumN n g := sumL_add (List.range n) f g
theorem sumN_congr {n : Nat} {f g : Nat → Int} (h : ∀ x, x < n → f x = g x) : sumN n f = sumN n g := sumL_congr (l := List.range n) fun x hx => h x (List.mem_range.mp hx)
theorem sumN_first (n : Nat) (f : Nat → Int) : sumN (n + 1) f = f 0 + sumN n fun i => f (i + 1) := by
  induction n with
  | zero => rw [sumN_succ, sumN_zero, sumN_zero]; omega
  | succ n ih => rw [sumN_succ, ih, sumN_succ]; omega
theorem fac_step {m i : Nat} (h : i ≤ m) : facI (m + 1 - i) = ((m : Int) + 1 - (i : Int)) * facI (m - i) := by
  rw [show m + 1 - i = (m - i) + 1 by omega]
  show facI (m - i) * (((m - i : Nat) : Int) + 1) = _
  rw [Int.mul_comm, show (((m - i : Nat) : Int) + 1) = (m : Int) + 1 - (i : Int) by omega]
theorem hits_T {n : Nat} (f : Int → Int) : ∀ (b : List (List Int)) (k : List Int) (h : Int), (∀ row ∈ b, RowIn n row ∧ row.Nodup) → frc n k = (b.length : Int) →
    backT n b (fun l => f (l.headD 0)) (h :: k) = sumN (b.length + 1) fun i => rr b k i * (facI (b.length - i) * Dk i f h)
  | [], k, h, _, _ => by
    show f h = sumN (0 + 1) fun i => rr [] k i * (facI (0 - i) * Dk i f h)
    rw [sumN_succ, sumN_zero]
    show f h = 0 + (1 * (1 * f h))
    omega
  | row :: b, k, h, hb, hf => by
    rw [List.length_cons] at hf
    have hb2 : ∀ r ∈ b, RowIn n r ∧ r.Nodup := fun r hr => hb r (List.mem_cons_of_mem _ hr)
    have hin : ∀ r ∈ b, RowIn n r := fun r hr => (hb2 r hr).1
    have hrow := hb row List.mem_cons_self
    -- every column's own sum
    have e1 : backT n (row :: b) (fun l => f (l.headD 0)) (h :: k) =
        sumL (List.range n) (fun x : Nat => sumN (b.length + 1) fun i => (facI (b.length - i) * Dk i f h) * (if (x : Int) ∈ k then 0 else rr b (insS k x) i)) +
        sumL (List.range n) (fun x : Nat => if (x : Int) ∈ row then (fun y : Int => sumN (b.length + 1) fun i => (facI (b.length - i) * Dk (i + 1) f h) * (if y ∈ k then 0 else rr b (insS k y) i)) (x : Int) else 0) := by
      rw [← sumL_add]
      show sumT n row (backT n b fun l => f (l.headD 0)) (h :: k) = _
      refine sumL_congr fun x hx => ?_
      have hx := List.mem_range.mp hx
      show (if (x : Int) ∈ k then 0 else backT n b (fun l => f (l.headD 0)) ((h + hitOf row x) :: insS k x)) = _
      by_cases m : (x : Int) ∈ k
      · rw [if_pos m]
        simp only [if_pos m, Int.mul_zero]
        rw [show sumN (b.length + 1) (fun _ => 0) = 0 from sumL_zero _]
        split <;> rfl
      · rw [if_neg m]
        simp only [if_neg m]
        rw [hits_T f b (insS k x) (h + hitOf row x) hb2 (by rw [frc_ins (by omega) (by omega) m]; omega)]
        by_cases r : (x : Int) ∈ row
        · rw [if_pos r, ← sumN_add]
          refine sumN_congr fun i _ => ?_
          rw [dk_hit, if_pos r]
          grind
        · rw [if_neg r, Int.add_zero]
          refine sumN_congr fun i _ => ?_
          rw [dk_hit, if_neg r]
          grind
    rw [e1, sum_row (fun y : Int => sumN (b.length + 1) fun i => (facI (b.length - i) * Dk (i + 1) f h) * (if y ∈ k then 0 else rr b (insS k y) i)) row hrow.1 hrow.2]
    have e2 : sumL (List.range n) (fun x : Nat => sumN (b.length + 1) fun i => (facI (b.length - i) * Dk i f h) * (if (x : Int) ∈ k then 0 else rr b (insS k x) i)) =
        sumN (b.length + 1) fun i => rr b k i * (facI (b.length + 1 - i) * Dk i f h) := by
      show sumL (List.range n) (fun x : Nat => sumL (List.range (b.length + 1)) fun i => _) = _
      rw [sumL_swap]
      refine sumN_congr fun i hi => ?_
      rw [sumL_mul, rr_more b k i hin, hf, fac_step (by omega)]
      rw [show (((b.length + 1 : Nat) : Int)) = (b.length : Int) + 1 by omega]
      grind
    have e3 : sumL row (fun y : Int => sumN (b.length + 1) fun i => (facI (b.length - i) * Dk (i + 1) f h) * (if y ∈ k then 0 else rr b (insS k y) i)) =
        sumN (b.length + 1) fun i => (facI (b.length - i) * Dk (i + 1) f h) * sumL row fun y => if y ∈ k then 0 else rr b (insS k y) i := by
      show sumL row (fun y : Int => sumL (List.range (b.length + 1)) fun i => _) = _
      rw [sumL_swap]
      exact sumN_congr fun i _ => sumL_mul _ _ _
    rw [e2, e3, List.length_cons, sumN_first (b.length + 1)]
    have e4 : sumN (b.length + 1) (fun i => rr b k i * (facI (b.length + 1 - i) * Dk i f h)) = rr b k 0 * (facI (b.length + 1) * Dk 0 f h) + sumN (b.length + 1) fun i => rr b k (i + 1) * (facI (b.length - i) * Dk (i + 1) f h) := by
      have e5 := sumN_succ (fun i => rr b k i * (facI (b.length + 1 - i) * Dk i f h)) (b.length + 1)
      rw [rr_over b k (b.length + 1) (by omega), Int.zero_mul, Int.add_zero] at e5
      rw [← e5, sumN_first]
      refine congrArg _ (sumN_congr fun i _ => ?_)
      rw [show b.length + 1 - (i + 1) = b.length - i by omega]
    rw [e4, Int.add_assoc, ← sumN_add]
    refine congrArg _ (sumN_congr fun i _ => ?_)
    rw [show b.length + 1 - (i + 1) = b.length - i by omega]
    show _ = (rr b k (i + 1) + sumL row fun x => if x ∈ k then 0 else rr b (insS k x) i) * _
    grind
end K16


set_option Elab.async false
set_option linter.all false
set_option maxRecDepth 100000
set_option maxHeartbeats 4000000
namespace K16
/-! ### hits of rooks, rooks of hits, the other board's hits -/
def hitsT (n : Nat) (W : Tb) : List Int := (List.range (n + 1)).map fun j : Nat => total W fun l => if l.headD 0 = (j : Int) then 1 else 0
theorem hitsT_length (n : Nat) (W : Tb) : (hitsT n W).length = n + 1 := by
  unfold hitsT
  rw [List.length_map, List.length_range]
theorem hitsT_get {n j : Nat} (b : List (List Int)) (h : j ≤ n) : (hitsT n (taken n b)).getD j 0 = backT n b (fun l => if l.headD 0 = (j : Int) then 1 else 0) [0] := by
  unfold hitsT
  rw [List.getD_eq_getElem?_getD, List.getElem?_map, List.getElem?_range (by omega), ← taken_total]
  rfl
def eC (i j : Nat) : Int := if ((i : Int) - (j : Int)) % 2 = 0 then ch i j else -ch i j
theorem dk_one : ∀ i, i < 10 → ∀ j, j < 10 → Dk i (fun h => if h = ((j : Nat) : Int) then 1 else 0) 0 = eC i j := by decide +kernel
theorem eC_in : ∀ i, i < 10 → ∀ p, p < 10 → sumN 10 (fun m => ch m p * eC i m) = if i = p then 1 else 0 := by decide +kernel
theorem eC_over {i j : Nat} (h : i < j) : eC i j = 0 := by
  unfold eC
  rw [ch_over i j h]
  split <;> rfl
theorem sumN_long {n m : Nat} {f : Nat → Int} (h : n ≤ m) (z : ∀ i, n ≤ i → f i = 0) : sumN m f = sumN n f := by
  induction m with
  | zero =>
    have : n = 0 := by omega
    rw [this]
  | succ m ih =>
    by_cases e : n = m + 1
    · rw [e]
    · rw [sumN_succ, ih (by omega), z m (by omega), Int.add_zero]
theorem back_over : ∀ (b : List (List Int)) (k : List Int) (j : Nat), j < k.length → back b (fun l => if l.length = j then 1 else 0) k = 0
  | [], k, j, h => if_neg (by omega)
  | row :: b, k, j, h => by
    show back b _ k + sumL row (fun x => if x ∈ k then 0 else back b _ (insS k x)) = 0
    rw [back_over b k j h, sumL_congr (g := fun _ => 0) fun x _ => ?_, sumL_zero]
    · rfl
    · by_cases m : x ∈ k
      · rw [if_pos m]
      · rw [if_neg m, back_over b _ j (by rw [insS_length m]; omega)]
theorem back_rr : ∀ (b : List (List Int)) (k : List Int) (i : Nat), back b (fun l => if l.length = k.length + i then 1 else 0) k = rr b k i
  | [], k, 0 => if_pos rfl
  | [], k, i + 1 => if_neg (by omega)
  | row :: b, k, 0 => by
    show back b _ k + sumL row (fun x => if x ∈ k then 0 else back b _ (insS k x)) = rr b k 0
    rw [back_rr b k 0, sumL_congr (g := fun _ => 0) fun x _ => ?_, sumL_zero, Int.add_zero]
    by_cases m : x ∈ k
    · rw [if_pos m]
    · rw [if_neg m, back_over b _ _ (by rw [insS_length m]; omega)]
  | row :: b, k, i + 1 => by
    show back b _ k + sumL row (fun x => if x ∈ k then 0 else back b _ (insS k x)) = rr b k (i + 1) + sumL row fun x => if x ∈ k then 0 else rr b (insS k x) i
    rw [back_rr b k (i + 1)]
    congr 1
    refine sumL_congr fun x _ => ?_
    by_cases m : x ∈ k
    · rw [if_pos m, if_pos m]
    · rw [if_neg m, if_neg m, ← back_rr b (insS k x) i, insS_length m, show k.length + 1 + i = k.length + (i + 1) by omega]
/-- rows below n, all unlike -/
def Rows (n : Nat) (b : List (List Int)) : Prop := ∀ row ∈ b, RowIn n row ∧ row.Nodup
theorem Rows.tail {n : Nat} {row : List Int} {b : List (List Int)} (h : Rows n (row :: b)) : Rows n b := fun r hr => h r (List.mem_cons_of_mem _ hr)
theorem rows_of {b : List (List Int)} (h : BoardOk b) : Rows b.length b := fun row hr => ⟨fun x hx => by have := (h.2.2 row hr).2.1 x hx; omega, (h.2.2 row hr).2.2.imp fun a => by omega⟩
theorem tell_rr {b : List (List Int)} (h : Rows b.length b) {i : Nat} (hi : i ≤ b.length) : (tellZ b.length (ways b)).getD i 0 = rr b [] i := by
  rw [tellZ_get _ hi, ways_total _ fun r hr => (h r hr).1, ← back_rr b [] i]
  simp
theorem hit_rr {b : List (List Int)} (h : Rows b.length b) (h9 : b.length ≤ 9) {j : Nat} (hj : j ≤ b.length) : (hitsT b.length (taken b.length b)).getD j 0 = sumN (b.length + 1) fun i => rr b [] i * (facI (b.length - i) * eC i j) := by
  rw [hitsT_get b hj, hits_T (n := b.length) (fun h => if h = (j : Int) then 1 else 0) b [] 0 h (frc_nil _)]
  refine sumN_congr fun i hi => ?_
  rw [dk_one i (by omega) j (by omega)]
theorem getD_ext {a b : List Int} (hl : a.length = b.length) (h : ∀ i, i < a.length → a.getD i 0 = b.getD i 0) : a = b := by
  refine List.ext_getElem? fun i => ?_
  by_cases hi : i < a.length
  · rw [getD_at hi, getD_at (by omega), h i hi]
  · rw [List.getElem?_eq_none (by omega), List.getElem?_eq_none (by omega)]
theorem facW_get {a : List Int} {i : Nat} (h : i < a.length) : (facW a).getD i 0 = a.getD i 0 * facI (a.length - 1 - i) := by
  unfold facW
  rw [List.getD_eq_getElem?_getD, List.getElem?_map, List.getElem?_range h]
  rfl
theorem out_tell {b : List (List Int)} (h : Rows b.length b) (h9 : b.length ≤ 9) : tOut (facW (tellZ b.length (ways b))) = hitsT b.length (taken b.length b) := by
  refine getD_ext (by rw [tOut_length, facW_length, tellZ_length, hitsT_length]) fun j hj => ?_
  rw [tOut_length, facW_length, tellZ_length] at hj
  rw [hit_rr h h9 (by omega)]
  unfold tOut
  rw [facW_length, tellZ_length, tabR_getD hj]
  refine sumN_congr fun i hi => ?_
  unfold outG eC
  rw [facW_get (by rw [tellZ_length]; exact hi), tellZ_length, tell_rr h (by omega), show b.length + 1 - 1 - i = b.length - i by omega]
  split <;> grind
theorem in_hits {b : List (List Int)} (h : Rows b.length b) (h9 : b.length ≤ 9) {p : Nat} (hp : p ≤ b.length) : (tIn (hitsT b.length (taken b.length b))).getD p 0 = rr b [] p * facI (b.length - p) := by
  unfold tIn
  rw [hitsT_length, tabR_getD (by omega)]
  have e1 : sumN (b.length + 1) (fun m => inG (hitsT b.length (taken b.length b)) m p) = sumN (b.length + 1) fun i => (rr b [] i * facI (b.length - i)) * sumN (b.length + 1) fun m => ch m p * eC i m := by
    have e2 : sumN (b.length + 1) (fun m => inG (hitsT b.length (taken b.length b)) m p) = sumN (b.length + 1) fun m => sumN (b.length + 1) fun i => (rr b [] i * facI (b.length - i)) * (ch m p * eC i m) := by
      refine sumN_congr fun m hm => ?_
      unfold inG
      rw [hit_rr h h9 (by omega), ← sumN_mul]
      exact sumN_congr fun i _ => by grind
    rw [e2]
    show sumL (List.range _) (fun m => sumL (List.range _) fun i => _) = _
    rw [sumL_swap]
    exact sumN_congr fun i _ => sumN_mul _ _ _
  rw [e1]
  have e3 : sumN (b.length + 1) (fun i => (rr b [] i * facI (b.length - i)) * sumN (b.length + 1) fun m => ch m p * eC i m) = sumL (List.range (b.length + 1)) fun i : Nat => if (i : Int) = (p : Int) then (fun z : Int => rr b [] z.toNat * facI (b.length - z.toNat)) (i : Int) else 0 := by
    refine sumN_congr fun i hi => ?_
    have e4 := eC_in i (by omega) p (by omega)
    rw [sumN_long (n := b.length + 1) (by omega) fun m hm => by rw [eC_over (by omega), Int.mul_zero]] at e4
    rw [e4]
    by_cases e : i = p
    · subst e
      rw [if_pos rfl, if_pos rfl, Int.mul_one]
      rfl
    · rw [if_neg e, if_neg (by omega), Int.mul_zero]
  rw [e3, pick (fun z : Int => rr b [] z.toNat * facI (b.length - z.toNat)) (by omega) _ (by omega), Int.toNat_natCast]
theorem up_hits {b : List (List Int)} (h : Rows b.length b) (h9 : b.length ≤ 9) : upR (hitsT b.length (taken b.length b)) = none ∧ (List.range (b.length + 1)).map (upQ (hitsT b.length (taken b.length b))) = tellZ b.length (ways b) := by
  constructor
  · unfold upR
    refine find_no fun j hj => ?_
    rw [hitsT_length] at hj
    unfold upBad
    rw [hitsT_length, in_hits h h9 (by omega), show b.length + 1 - 1 - j = b.length - j by omega, Int.mul_emod_left]
    rfl
  · refine getD_ext (by rw [List.length_map, List.length_range, tellZ_length]) fun j hj => ?_
    rw [List.length_map, List.length_range] at hj
    rw [tell_rr h (by omega), List.getD_eq_getElem?_getD, List.getElem?_map, List.getElem?_range hj]
    show upQ _ j = _
    unfold upQ
    rw [hitsT_length, in_hits h h9 (by omega), show b.length + 1 - 1 - j = b.length - j by omega]
    exact Int.mul_ediv_cancel _ (by have := (facI_bd (n := b.length - j) (by omega)).1; omega)
/-! the other board -/
theorem hit_free {n : Nat} {row : List Int} {x : Nat} (hx : x < n) : hitOf (freeRow n row) x = 1 - hitOf row x := by
  have e : (x : Int) ∈ freeRow n row ↔ ¬ (x : Int) ∈ row := by
    unfold freeRow rangeZ
    rw [List.mem_filter]
    constructor
    · intro h
      simpa using h.2
    · intro h
      exact ⟨List.mem_map.mpr ⟨x, List.mem_range.mpr hx, by omega⟩, by simpa using h⟩
  unfold hitOf
  by_cases m : (x : Int) ∈ row
  · rw [if_neg fun z => e.mp z m, if_pos m]
    rfl
  · rw [if_pos (e.mpr m), if_neg m]
    rfl
theorem back_free {n : Nat} (c d : Int) : ∀ (b : List (List Int)) (k : List Int) (h g : Int), h + g + (b.length : Int) = c + d → backT n (b.map (freeRow n)) (fun l => if l.headD 0 = c then 1 else 0) (h :: k) = backT n b (fun l => if l.headD 0 = d then 1 else 0) (g :: k)
  | [], k, h, g, e => by
    show (if h = c then (1 : Int) else 0) = if g = d then 1 else 0
    have e : h + g + 0 = c + d := e
    by_cases z : h = c
    · rw [if_pos z, if_pos (by omega)]
    · rw [if_neg z, if_neg (by omega)]
  | row :: b, k, h, g, e => by
    rw [List.length_cons] at e
    show sumL (List.range n) (fun x : Nat => if (x : Int) ∈ k then 0 else backT n (b.map (freeRow n)) _ ((h + hitOf (freeRow n row) x) :: insS k x)) = sumL (List.range n) (fun x : Nat => if (x : Int) ∈ k then 0 else backT n b _ ((g + hitOf row x) :: insS k x))
    refine sumL_congr fun x hx => ?_
    by_cases m : (x : Int) ∈ k
    · rw [if_pos m, if_pos m]
    · rw [if_neg m, if_neg m]
      refine back_free c d b _ _ _ ?_
      rw [hit_free (List.mem_range.mp hx)]
      omega
theorem hits_free (b : List (List Int)) : hitsT b.length (taken b.length (freeB b)) = (hitsT b.length (taken b.length b)).reverse := by
  refine getD_ext (by rw [List.length_reverse, hitsT_length, hitsT_length]) fun j hj => ?_
  rw [hitsT_length] at hj
  rw [hitsT_get _ (by omega), List.getD_eq_getElem?_getD, List.getElem?_reverse (by rw [hitsT_length]; omega), hitsT_length, ← List.getD_eq_getElem?_getD, hitsT_get b (by omega)]
  refine back_free _ _ b [] 0 0 ?_
  omega
/-! how large -/
theorem backT_bd {n : Nat} {φ : List Int → Int} (hφ : ∀ k, 0 ≤ φ k ∧ φ k ≤ 1) : ∀ (b : List (List Int)) (k : List Int), 0 ≤ backT n b φ k ∧ backT n b φ k ≤ (n : Int) ^ b.length
  | [], k => by simpa [backT] using hφ k
  | row :: b, k => by
    have ih := backT_bd (n := n) hφ b
    have hc : 0 ≤ (n : Int) ^ b.length := by have := ih []; omega
    have hs := sum_bd (c := (n : Int) ^ b.length) (l := (List.range n).map fun x : Nat => if (x : Int) ∈ k.tail then 0 else backT n b φ (nextT row k x)) fun y hy => by
      obtain ⟨x, _, rfl⟩ := List.mem_map.mp hy
      by_cases e : (x : Int) ∈ k.tail
      · simp only [e, if_true]
        omega
      · simp only [e, if_false]
        exact ih _
    rw [List.length_map, List.length_range] at hs
    rw [List.length_cons, Int.pow_succ, Int.mul_comm]
    exact hs
theorem pow_bd2 : ∀ n : Nat, n ≤ 9 → (n : Int) ^ n ≤ 1000000000 := by decide
theorem hits_bd {b : List (List Int)} (h9 : b.length ≤ 9) : ∀ x ∈ hitsT b.length (taken b.length b), 0 ≤ x ∧ x ≤ 387420489 := by
  intro x hx
  unfold hitsT at hx
  obtain ⟨j, hj, rfl⟩ := List.mem_map.mp hx
  rw [taken_total]
  have := backT_bd (n := b.length) (φ := fun l => if l.headD 0 = (j : Int) then 1 else 0) (fun k => by split <;> omega) b [0]
  have k : ∀ n : Nat, n ≤ 9 → (n : Int) ^ n ≤ 387420489 := by decide
  have := k _ h9
  omega
/-! a placing without a hit -/
/-- places for the rows, unlike, free, not taken -/
inductive Pl (n : Nat) : List (List Int) → List Int → List Int → Prop
  | nil (k : List Int) : Pl n [] k []
  | cons {row : List Int} {b : List (List Int)} {k ps : List Int} {x : Int} : 0 ≤ x → x < (n : Int) → x ∉ row → x ∉ k → Pl n b (insS k x) ps → Pl n (row :: b) k (x :: ps)
theorem sumL_pos {α : Type} : ∀ {l : List α} {f : α → Int}, (∀ x ∈ l, 0 ≤ f x) → 0 ≤ sumL l f
  | [], _, _ => Int.le_refl _
  | x :: l, f, h => by
    rw [sumL_cons]
    have := h x List.mem_cons_self
    have := sumL_pos (l := l) (f := f) fun y hy => h y (List.mem_cons_of_mem _ hy)
    omega
theorem sumL_one {α : Type} : ∀ {l : List α} {f : α → Int} {x : α}, (∀ x ∈ l, 0 ≤ f x) → x ∈ l → 0 < f x → 0 < sumL l f
  | y :: l, f, x, h, hx, hp => by
    rw [sumL_cons]
    have h1 := h y List.mem_cons_self
    have h2 := sumL_pos (l := l) (f := f) fun y hy => h y (List.mem_cons_of_mem _ hy)
    rcases List.mem_cons.mp hx with e | e
    · subst e; omega
    · have := sumL_one (l := l) (fun y hy => h y (List.mem_cons_of_mem _ hy)) e hp
      omega
theorem sumL_some {α : Type} : ∀ {l : List α} {f : α → Int}, sumL l f ≠ 0 → ∃ x ∈ l, f x ≠ 0
  | [], f, h => absurd rfl h
  | y :: l, f, h => by
    rw [sumL_cons] at h
    by_cases e : f y = 0
    · rw [e, Int.zero_add] at h
      obtain ⟨x, hx, hf⟩ := sumL_some h
      exact ⟨x, List.mem_cons_of_mem _ hx, hf⟩
    · exact ⟨y, List.mem_cons_self, e⟩
theorem pl_pos {n : Nat} {c : Int} : ∀ {b : List (List Int)} {k ps : List Int}, Pl n b k ps → 0 < backT n b (fun l => if l.headD 0 = c then 1 else 0) (c :: k)
  | _, _, _, .nil k => by
    show (0 : Int) < if c = c then 1 else 0
    rw [if_pos rfl]
    decide
  | _, _, _, .cons (row := row) (b := b) (k := k) (x := x) h0 hn hr hk hp => by
    refine sumL_one (l := List.range n) (f := fun x : Nat => if (x : Int) ∈ k then 0 else backT n b _ ((c + hitOf row x) :: insS k x)) (x := x.toNat) (fun y _ => ?_) (List.mem_range.mpr (by omega)) ?_
    · by_cases m : (y : Int) ∈ k
      · rw [if_pos m]
        exact Int.le_refl _
      · rw [if_neg m]
        exact (backT_bd (fun l => by split <;> omega) b _).1
    · rw [show ((x.toNat : Nat) : Int) = x by omega, if_neg hk]
      unfold hitOf
      rw [if_neg hr, Int.add_zero]
      exact pl_pos hp
theorem backT_late {n : Nat} {c : Int} : ∀ (b : List (List Int)) (k : List Int) (h : Int), c < h → backT n b (fun l => if l.headD 0 = c then 1 else 0) (h :: k) = 0
  | [], k, h, e => if_neg (by show ¬ h = c; omega)
  | row :: b, k, h, e => by
    show sumL (List.range n) (fun x : Nat => if (x : Int) ∈ k then 0 else backT n b _ ((h + hitOf row x) :: insS k x)) = 0
    rw [sumL_congr (g := fun _ => 0) fun x _ => ?_, sumL_zero]
    by_cases m : (x : Int) ∈ k
    · rw [if_pos m]
    · rw [if_neg m]
      have := hitOf_bd row x
      exact backT_late b _ _ (by omega)
theorem pl_of {n : Nat} {c : Int} : ∀ (b : List (List Int)) (k : List Int), backT n b (fun l => if l.headD 0 = c then 1 else 0) (c :: k) ≠ 0 → ∃ ps, Pl n b k ps
  | [], k, _ => ⟨[], .nil k⟩
  | row :: b, k, h => by
    obtain ⟨x, hx, hf⟩ := sumL_some (l := List.range n) (f := fun x : Nat => if (x : Int) ∈ k then 0 else backT n b (fun l => if l.headD 0 = c then 1 else 0) ((c + hitOf row x) :: insS k x)) h
    have hx := List.mem_range.mp hx
    by_cases m : (x : Int) ∈ k
    · simp only [m, if_true] at hf
      exact absurd rfl hf
    · simp only [m, if_false] at hf
      by_cases r : (x : Int) ∈ row
      · unfold hitOf at hf
        rw [if_pos r, backT_late b _ _ (by omega)] at hf
        exact absurd rfl hf
      · unfold hitOf at hf
        rw [if_neg r, Int.add_zero] at hf
        obtain ⟨ps, hp⟩ := pl_of b _ hf
        exact ⟨x :: ps, .cons (by omega) (by omega) r m hp⟩
theorem hits_zero {b : List (List Int)} : (hitsT b.length (taken b.length b)).getD 0 0 ≠ 0 ↔ ∃ ps, Pl b.length b [] ps := by
  rw [hitsT_get b (by omega)]
  constructor
  · exact fun h => pl_of b [] h
  · rintro ⟨ps, hp⟩
    exact Int.ne_of_gt (pl_pos (c := ((0 : Nat) : Int)) hp)
/-- by indexes -/
theorem pl_iff {n : Nat} : ∀ {b : List (List Int)} {k ps : List Int}, Pl n b k ps ↔ ps.length = b.length ∧ ps.Nodup ∧ (∀ x ∈ ps, 0 ≤ x ∧ x < (n : Int) ∧ x ∉ k) ∧ ∀ (i : Nat) (row : List Int) (x : Int), b[i]? = some row → ps[i]? = some x → x ∉ row
  | [], k, ps => by
    constructor
    · intro h
      cases h
      exact ⟨rfl, List.nodup_nil, fun _ h => absurd h List.not_mem_nil, fun _ _ _ h => by simp at h⟩
    · rintro ⟨h, _⟩
      have : ps = [] := List.length_eq_zero_iff.mp h
      subst this
      exact .nil k
  | row :: b, k, [] => by
    constructor
    · intro h; cases h
    · rintro ⟨h, _⟩; cases h
  | row :: b, k, x :: ps => by
    constructor
    · intro h
      cases h with
      | cons h0 hn hr hk hp =>
        obtain ⟨i1, i2, i3, i4⟩ := pl_iff.mp hp
        refine ⟨by rw [List.length_cons, List.length_cons, i1], List.nodup_cons.mpr ⟨fun z => (i3 x z).2.2 (mem_ins.mpr (.inl rfl)), i2⟩, fun y hy => ?_, fun i r y h1 h2 => ?_⟩
        · rcases List.mem_cons.mp hy with e | e
          · subst e
            exact ⟨h0, hn, hk⟩
          · have := i3 y e
            exact ⟨this.1, this.2.1, fun z => this.2.2 (mem_ins.mpr (.inr z))⟩
        · cases i with
          | zero =>
            simp at h1 h2
            subst h1 h2
            exact hr
          | succ i =>
            simp at h1 h2
            exact i4 i r y h1 h2
    · rintro ⟨h1, h2, h3, h4⟩
      rw [List.nodup_cons] at h2
      have hx := h3 x List.mem_cons_self
      refine .cons hx.1 hx.2.1 (h4 0 row x rfl rfl) hx.2.2 (pl_iff.mpr ⟨by simpa using h1, h2.2, fun y hy => ?_, fun i r y a c => h4 (i + 1) r y (by simpa using a) (by simpa using c)⟩)
      have hy' := h3 y (List.mem_cons_of_mem _ hy)
      refine ⟨hy'.1, hy'.2.1, fun z => (mem_ins.mp z).elim (fun e => h2.1 (e ▸ hy)) hy'.2.2⟩
end K16


set_option Elab.async false
set_option linter.all false
set_option maxRecDepth 100000
set_option maxHeartbeats 4000000
namespace K16
/-! ### rows that avoid: a matching grows by one row at a time -/
abbrev Pr := List (Int × Int)
def getI : Pr → Int → Option Int
  | [], _ => none
  | q :: l, p => if q.1 = p then some q.2 else getI l p
def putI (l : Pr) (p r : Int) : Pr := if p ∈ l.map (·.1) then l.map (fun q => if q.1 = p then (q.1, r) else q) else l ++ [(p, r)]
theorem getI_none {l : Pr} {p : Int} : getI l p = none ↔ p ∉ l.map (·.1) := by
  induction l with
  | nil => simp [getI]
  | cons q l ih =>
    rw [getI, List.map_cons, List.mem_cons]
    by_cases e : q.1 = p
    · simp [e]
    · rw [if_neg e, ih]
      simp [Ne.symm e]
theorem getI_mem {l : Pr} {p r : Int} (h : getI l p = some r) : (p, r) ∈ l := by
  induction l with
  | nil => cases h
  | cons q l ih =>
    rw [getI] at h
    by_cases e : q.1 = p
    · rw [if_pos e] at h
      rw [← Option.some.inj h, ← e]
      exact List.mem_cons_self
    · rw [if_neg e] at h
      exact List.mem_cons_of_mem _ (ih h)
theorem getI_of {l : Pr} {p r : Int} (nd : (l.map (·.1)).Nodup) (h : (p, r) ∈ l) : getI l p = some r := by
  induction l with
  | nil => cases h
  | cons q l ih =>
    rw [List.map_cons, List.nodup_cons] at nd
    rw [getI]
    rcases List.mem_cons.mp h with e | e
    · rw [← e, if_pos rfl]
    · rw [if_neg fun z => nd.1 (by rw [z]; exact List.mem_map.mpr ⟨_, e, rfl⟩), ih nd.2 e]
theorem getI_app (l m : Pr) (p : Int) : getI (l ++ m) p = (getI l p).or (getI m p) := by
  induction l with
  | nil => simp [getI]
  | cons q l ih =>
    rw [List.cons_append, getI, getI, ih]
    split <;> rfl
theorem getI_rep (l : Pr) (p r x : Int) : getI (l.map fun q => if q.1 = p then (q.1, r) else q) x = if x = p ∧ p ∈ l.map (·.1) then some r else getI l x := by
  induction l with
  | nil => simp [getI]
  | cons q l ih =>
    rw [List.map_cons, getI, getI, ih]
    simp only [List.map_cons, List.mem_cons]
    by_cases e : q.1 = p
    · rw [if_pos e]
      by_cases e2 : q.1 = x
      · rw [if_pos e2, if_pos ⟨by omega, .inl e.symm⟩]
      · rw [if_neg e2, if_neg e2, if_neg (fun z => e2 (by omega)), if_neg (fun z => e2 (by omega))]
    · rw [if_neg e]
      by_cases e2 : q.1 = x
      · rw [if_pos e2, if_pos e2, if_neg (fun z => e (by omega))]
      · rw [if_neg e2, if_neg e2]
        by_cases c : x = p ∧ p ∈ l.map (·.1)
        · rw [if_pos c, if_pos ⟨c.1, .inr c.2⟩]
        · rw [if_neg c, if_neg fun z => c ⟨z.1, z.2.elim (fun w => absurd w.symm e) id⟩]
theorem getI_put (l : Pr) (p r x : Int) : getI (putI l p r) x = if x = p then some r else getI l x := by
  unfold putI
  by_cases m : p ∈ l.map (·.1)
  · rw [if_pos m, getI_rep]
    by_cases e : x = p
    · rw [if_pos e, if_pos ⟨e, m⟩]
    · rw [if_neg e, if_neg fun z => e z.1]
  · rw [if_neg m, getI_app]
    by_cases e : x = p
    · subst e
      rw [getI_none.mpr m, if_pos rfl]
      simp [getI]
    · rw [if_neg e, getI, if_neg (Ne.symm e)]
      simp [getI]
theorem putI_keys (l : Pr) (p r : Int) : (putI l p r).map (·.1) = if p ∈ l.map (·.1) then l.map (·.1) else l.map (·.1) ++ [p] := by
  unfold putI
  split
  · rw [List.map_map]
    refine List.map_congr_left fun q _ => ?_
    show (if q.1 = p then (q.1, r) else q).1 = q.1
    split <;> rfl
  · rw [List.map_append]
    rfl
theorem putI_nd {l : Pr} (p r : Int) (h : (l.map (·.1)).Nodup) : ((putI l p r).map (·.1)).Nodup := by
  rw [putI_keys]
  split
  · exact h
  · rename_i m
    rw [List.nodup_append]
    exact ⟨h, by simp, fun a ha b hb e => m (by rw [List.mem_singleton] at hb; rw [← hb, ← e]; exact ha)⟩
theorem putI_len (l : Pr) (p r : Int) : (putI l p r).length ≤ l.length + 1 := by
  unfold putI
  split
  · rw [List.length_map]; omega
  · rw [List.length_append]; exact Nat.le_refl _
theorem putI_new {l : Pr} {p : Int} (r : Int) (h : p ∉ l.map (·.1)) : putI l p r = l ++ [(p, r)] := by
  unfold putI
  rw [if_neg h]
/-- rows 0 .. f - 1 have their places -/
structure Mt (A : Int → Int → Prop) (f : Int) (o : Pr) : Prop where
  nd : (o.map (·.1)).Nodup
  inj : ∀ p q r, getI o p = some r → getI o q = some r → p = q
  rng : ∀ p r, getI o p = some r → 0 ≤ r ∧ r < f ∧ A r p
  sur : ∀ r, 0 ≤ r → r < f → ∃ p, getI o p = some r
/-- the search from row f -/
structure Tree (A : Int → Int → Prop) (f : Int) (o seen : Pr) (R : List Int) : Prop where
  nds : (seen.map (·.1)).Nodup
  hd : R[0]? = some f
  nd : R.Nodup
  par : ∀ (s : Nat) (r : Int), 0 < s → R[s]? = some r → ∃ (p : Int) (i : Nat) (ri : Int), i < s ∧ getI o p = some r ∧ getI seen p = some ri ∧ R[i]? = some ri ∧ A ri p
  rn : ∀ r ∈ R, 0 ≤ r ∧ r ≤ f
structure Aug (A : Int → Int → Prop) (f : Int) (seen : Pr) (R : List Int) (o : Pr) (q : Int) (j : Nat) : Prop where
  nd : (o.map (·.1)).Nodup
  hR : R.Nodup
  hd : R[0]? = some f
  hj : 0 < j
  src : ∃ (i : Nat) (ri : Int), i < j ∧ getI seen q = some ri ∧ R[i]? = some ri ∧ A ri q
  par : ∀ (s : Nat) (r : Int), 0 < s → s < j → R[s]? = some r → ∃ (p : Int) (i : Nat) (ri : Int), p ≠ q ∧ i < s ∧ getI o p = some r ∧ getI seen p = some ri ∧ R[i]? = some ri ∧ A ri p
  inj : ∀ p p' r, p ≠ q → p' ≠ q → getI o p = some r → getI o p' = some r → p = p'
  rng : ∀ p r, p ≠ q → getI o p = some r → 0 ≤ r ∧ r < f ∧ A r p
  sur : ∀ r, 0 ≤ r → r < f → ∃ p, p ≠ q ∧ getI o p = some r
  own : ∀ r, getI o q = some r → R[j]? = some r
section
variable {A : Int → Int → Prop} {f : Int} {o seen : Pr} {R : List Int}
theorem nd_at : ∀ {R : List Int} {i j : Nat} {r : Int}, R.Nodup → R[i]? = some r → R[j]? = some r → i = j
  | [], _, _, _, _, h, _ => by simp at h
  | x :: R, 0, 0, _, _, _, _ => rfl
  | x :: R, 0, j + 1, r, nd, h, h' => by
    rw [List.nodup_cons] at nd
    simp at h h'
    subst h
    exact absurd (List.mem_of_getElem? h') nd.1
  | x :: R, i + 1, 0, r, nd, h, h' => by
    rw [List.nodup_cons] at nd
    simp at h h'
    subst h'
    exact absurd (List.mem_of_getElem? h) nd.1
  | x :: R, i + 1, j + 1, r, nd, h, h' => by
    rw [List.nodup_cons] at nd
    simp at h h'
    rw [nd_at nd.2 h h']
theorem mt_zero : Mt A 0 [] := ⟨List.nodup_nil, fun _ _ _ h => by simp [getI] at h, fun _ _ h => by simp [getI] at h, fun _ _ _ => by omega⟩
theorem tree_start (h : 0 ≤ f) : Tree A f o [] [f] := by
  refine ⟨List.nodup_nil, rfl, by simp, fun s r hs h => ?_, fun r hr => ?_⟩
  · cases s with
    | zero => omega
    | succ s => simp at h
  · rw [List.mem_singleton] at hr
    omega
theorem tree_add {p r ri : Int} {i : Nat} (m : Mt A f o) (t : Tree A f o seen R) (hi : R[i]? = some ri) (ha : A ri p) (hp : p ∉ seen.map (·.1)) (ho : getI o p = some r) : Tree A f o (putI seen p ri) (R ++ [r]) := by
  have hl : i < R.length := (List.getElem?_eq_some_iff.mp hi).1
  have hn : r ∉ R := fun z => by
    obtain ⟨s, hs⟩ := List.getElem?_of_mem z
    cases s with
    | zero =>
      rw [t.hd] at hs
      have := (m.rng p r ho).2.1
      have := Option.some.inj hs
      omega
    | succ s =>
      obtain ⟨p', i', ri', _, h1, h2, _⟩ := t.par _ r (by omega) hs
      have e := m.inj p p' r ho h1
      subst e
      rw [getI_none.mpr hp] at h2
      cases h2
  refine ⟨putI_nd p ri t.nds, by rw [List.getElem?_append_left (by omega)]; exact t.hd, ?_, fun s q hs h => ?_, fun q hq => ?_⟩
  · rw [List.nodup_append]
    exact ⟨t.nd, by simp, fun a ha b hb e => hn (by rw [List.mem_singleton] at hb; rw [← hb, ← e]; exact ha)⟩
  · by_cases hs2 : s < R.length
    · rw [List.getElem?_append_left hs2] at h
      obtain ⟨p', i', ri', h0, h1, h2, h3, h4⟩ := t.par s q hs h
      refine ⟨p', i', ri', h0, h1, ?_, by rw [List.getElem?_append_left (by omega)]; exact h3, h4⟩
      rw [getI_put, if_neg fun z => ?_]
      · exact h2
      · rw [z, getI_none.mpr hp] at h2
        cases h2
    · have hs3 := (List.getElem?_eq_some_iff.mp h).1
      rw [List.length_append, List.length_singleton] at hs3
      have e : s = R.length := by omega
      subst e
      rw [List.getElem?_append_right (Nat.le_refl _), Nat.sub_self] at h
      have e := Option.some.inj h
      subst e
      exact ⟨p, i, ri, hl, ho, by rw [getI_put, if_pos rfl], by rw [List.getElem?_append_left hl]; exact hi, ha⟩
  · rcases List.mem_append.mp hq with z | z
    · exact t.rn q z
    · rw [List.mem_singleton] at z
      have := m.rng p r ho
      omega
theorem tree_len (t : Tree A f o seen R) (h : 0 ≤ f) : R.length ≤ f.toNat + 1 := by
  have := nodup_le (b := (List.range (f.toNat + 1)).map fun i : Nat => (i : Int)) t.nd fun x hx => by
    have := t.rn x hx
    exact List.mem_map.mpr ⟨x.toNat, List.mem_range.mpr (by omega), by omega⟩
  rw [List.length_map, List.length_range] at this
  exact this
theorem tree_end {p ri : Int} {i : Nat} (m : Mt A f o) (t : Tree A f o seen R) (hi : R[i]? = some ri) (ha : A ri p) (hp : p ∉ seen.map (·.1)) (ho : getI o p = none) : Aug A f (putI seen p ri) R o p R.length := by
  have hl : i < R.length := (List.getElem?_eq_some_iff.mp hi).1
  refine ⟨m.nd, t.nd, t.hd, by omega, ⟨i, ri, hl, by rw [getI_put, if_pos rfl], hi, ha⟩, fun s r hs hs2 h => ?_, fun q q' r _ _ h h' => m.inj q q' r h h', fun q r _ h => m.rng q r h, fun r h0 h1 => ?_, fun r h => by rw [ho] at h; cases h⟩
  · obtain ⟨p', i', ri', h0, h1, h2, h3, h4⟩ := t.par s r hs h
    have hne : p' ≠ p := fun z => by rw [z, ho] at h1; cases h1
    exact ⟨p', i', ri', hne, h0, h1, by rw [getI_put, if_neg hne]; exact h2, h3, h4⟩
  · obtain ⟨q, hq⟩ := m.sur r h0 h1
    exact ⟨q, (fun z => by rw [z, ho] at hq; cases hq), hq⟩
theorem aug_end {q : Int} {j : Nat} (a : Aug A f seen R o q j) (h0 : 0 ≤ f) (hq : getI seen q = some f) : (∀ x, getI o x ≠ some f) ∧ Mt A (f + 1) (putI o q f) := by
  have no : ∀ x, getI o x ≠ some f := fun x h => by
    by_cases e : x = q
    · subst e
      have := nd_at a.hR (a.own f h) a.hd
      have := a.hj
      omega
    · have := (a.rng x f e h).2.1
      omega
  obtain ⟨i, ri, hi, hs, hr, hA⟩ := a.src
  rw [hq] at hs
  have e := Option.some.inj hs
  subst e
  refine ⟨no, putI_nd _ _ a.nd, fun x y r hx hy => ?_, fun x r hx => ?_, fun r h1 h2 => ?_⟩
  · rw [getI_put] at hx hy
    by_cases ex : x = q
    · by_cases ey : y = q
      · omega
      · rw [if_pos ex] at hx
        rw [if_neg ey, ← Option.some.inj hx] at hy
        exact absurd hy (no y)
    · by_cases ey : y = q
      · rw [if_pos ey] at hy
        rw [if_neg ex, ← Option.some.inj hy] at hx
        exact absurd hx (no x)
      · rw [if_neg ex] at hx
        rw [if_neg ey] at hy
        exact a.inj x y r ex ey hx hy
  · rw [getI_put] at hx
    by_cases ex : x = q
    · rw [if_pos ex] at hx
      have e := Option.some.inj hx
      subst e
      subst ex
      exact ⟨h0, by omega, hA⟩
    · rw [if_neg ex] at hx
      have := a.rng x r ex hx
      exact ⟨this.1, by omega, this.2.2⟩
  · by_cases e : r = f
    · exact ⟨q, by rw [getI_put, if_pos rfl, e]⟩
    · obtain ⟨p, hp, hg⟩ := a.sur r h1 (by omega)
      exact ⟨p, by rw [getI_put, if_neg hp]; exact hg⟩
theorem aug_step {q ri : Int} {j : Nat} (a : Aug A f seen R o q j) (hq : getI seen q = some ri) (hf : ri ≠ f) : ∃ (p : Int) (i : Nat), i < j ∧ getI o p = some ri ∧ (∀ x, getI o x = some ri → x = p) ∧ Aug A f seen R (putI o q ri) p i := by
  obtain ⟨i, ri', hi, hs, hr, hA⟩ := a.src
  rw [hq] at hs
  have e := Option.some.inj hs
  subst e
  have hi0 : 0 < i := by
    cases i with
    | zero =>
      rw [a.hd] at hr
      exact absurd (Option.some.inj hr).symm hf
    | succ i => omega
  obtain ⟨p, i', ri', hpq, hi', ho, hs', hr', hA'⟩ := a.par i ri hi0 hi hr
  have uni : ∀ x, getI o x = some ri → x = p := fun x hx => by
    by_cases ex : x = q
    · subst ex
      have := nd_at a.hR (a.own ri hx) hr
      omega
    · exact a.inj x p ri ex hpq hx ho
  refine ⟨p, i, hi, ho, uni, putI_nd _ _ a.nd, a.hR, a.hd, hi0, ⟨i', ri', hi', hs', hr', hA'⟩, fun s r h1 h2 h3 => ?_, fun x y r hx hy gx gy => ?_, fun x r hx gx => ?_, fun r h1 h2 => ?_, fun r h => ?_⟩
  · obtain ⟨p2, i2, r2, k1, k2, k3, k4, k5, k6⟩ := a.par s r h1 (by omega) h3
    refine ⟨p2, i2, r2, fun e => ?_, k2, by rw [getI_put, if_neg k1]; exact k3, k4, k5, k6⟩
    subst e
    rw [ho] at k3
    have e := Option.some.inj k3
    subst e
    have := nd_at a.hR h3 hr
    omega
  · rw [getI_put] at gx gy
    by_cases ex : x = q
    · by_cases ey : y = q
      · omega
      · rw [if_pos ex] at gx
        rw [if_neg ey, ← Option.some.inj gx] at gy
        exact absurd (uni y gy) hy
    · by_cases ey : y = q
      · rw [if_pos ey] at gy
        rw [if_neg ex, ← Option.some.inj gy] at gx
        exact absurd (uni x gx) hx
      · rw [if_neg ex] at gx
        rw [if_neg ey] at gy
        exact a.inj x y r ex ey gx gy
  · rw [getI_put] at gx
    by_cases ex : x = q
    · rw [if_pos ex] at gx
      have e := Option.some.inj gx
      subst e
      subst ex
      have := a.rng p ri hpq ho
      exact ⟨this.1, this.2.1, hA⟩
    · rw [if_neg ex] at gx
      exact a.rng x r ex gx
  · obtain ⟨x, hx, gx⟩ := a.sur r h1 h2
    by_cases ex : x = p
    · subst ex
      rw [ho] at gx
      exact ⟨q, Ne.symm hpq, by rw [getI_put, if_pos rfl]; exact gx⟩
    · exact ⟨x, ex, by rw [getI_put, if_neg hx]; exact gx⟩
  · rw [getI_put, if_neg hpq, ho] at h
    rw [hr, ← Option.some.inj h]
theorem nodup_of_map {α β : Type} {g : α → β} : ∀ {l : List α}, (l.map g).Nodup → l.Nodup
  | [], _ => List.nodup_nil
  | x :: l, h => by
    rw [List.map_cons, List.nodup_cons] at h
    exact List.nodup_cons.mpr ⟨fun z => h.1 (List.mem_map_of_mem z), nodup_of_map h.2⟩
/-- who has this row -/
def whoI (o : Pr) (r : Int) : List Int := (o.map (·.1)).filter fun p => decide (getI o p = some r)
theorem whoI_mem {r x : Int} : x ∈ whoI o r ↔ getI o x = some r := by
  unfold whoI
  rw [List.mem_filter]
  constructor
  · exact fun h => of_decide_eq_true h.2
  · exact fun h => ⟨List.mem_map.mpr ⟨_, getI_mem h, rfl⟩, decide_eq_true h⟩
theorem mt_len (m : Mt A f o) (h : 0 ≤ f) : (o.map (·.2)).Nodup ∧ ∀ q ∈ o, 0 ≤ q.2 ∧ q.2 < f := by
  refine ⟨?_, fun q hq => by have := m.rng q.1 q.2 (getI_of m.nd hq); omega⟩
  refine nodup_map (nodup_of_map m.nd) fun a ha b hb e => ?_
  have h1 := getI_of (p := a.1) (r := a.2) m.nd ha
  have h2 := getI_of (p := b.1) (r := b.2) m.nd hb
  have := m.inj a.1 b.1 a.2 h1 (by rw [e]; exact h2)
  exact Prod.ext this e
end
end K16


set_option Elab.async false
set_option linter.all false
set_option maxRecDepth 100000
set_option maxHeartbeats 4000000
namespace K16
/-! ### for the law: rows, perms, pigeon holes -/
theorem rangeZ_pw (lo : Int) (n : Nat) : (rangeZ lo n).Pairwise (· < ·) := by
  unfold rangeZ
  rw [List.pairwise_map]
  exact List.pairwise_lt_range.imp fun h => by omega
theorem rangeZ_mem {lo : Int} {n : Nat} {x : Int} : x ∈ rangeZ lo n ↔ lo ≤ x ∧ x < lo + (n : Int) := by
  unfold rangeZ
  rw [List.mem_map]
  constructor
  · rintro ⟨i, hi, rfl⟩
    have := List.mem_range.mp hi
    omega
  · rintro ⟨h1, h2⟩
    exact ⟨(x - lo).toNat, List.mem_range.mpr (by omega), by omega⟩
theorem rangeZ_succ (lo : Int) (n : Nat) : rangeZ lo (n + 1) = rangeZ lo n ++ [lo + (n : Int)] := by
  unfold rangeZ
  rw [List.range_succ, List.map_append]
  rfl
theorem rangeZ_nd (lo : Int) (n : Nat) : (rangeZ lo n).Nodup := (rangeZ_pw lo n).imp fun h => by omega
theorem nd_short {n : Nat} {l : List Int} (nd : l.Nodup) (h : ∀ x ∈ l, 0 ≤ x ∧ x < (n : Int)) : l.length ≤ n := by
  have := nodup_le nd fun x hx => rangeZ_mem.mpr (show (0 : Int) ≤ x ∧ x < 0 + (n : Int) by have := h x hx; omega)
  rw [rangeZ_length] at this
  exact this
theorem rowOk_of {n : Nat} {l : List Int} (hn : n ≤ 1000) (h : ∀ x ∈ l, 0 ≤ x ∧ x < (n : Int)) (p : l.Pairwise (· < ·)) : RowOk n l :=
  ⟨by have := nd_short (p.imp fun h => by omega) h; omega, fun x hx => by have := h x hx; omega, p⟩
theorem rowOk_sub {n : Nat} {l : List Int} (hn : n ≤ 1000) (s : List.Sublist l (rangeZ 0 n)) : RowOk n l :=
  rowOk_of hn (fun x hx => by have := rangeZ_mem.mp (s.subset hx); omega) ((rangeZ_pw 0 n).sublist s)
theorem lt_of_le {l : List Int} (h : l.Pairwise (· ≤ ·)) (nd : l.Nodup) : l.Pairwise (· < ·) := (h.and nd).imp fun h => by have := h.1; have := h.2; omega
theorem rowOk_sort {n : Nat} {l m : List Int} (hn : n ≤ 1000) (p : l.Perm m) (hs : l.Pairwise (· ≤ ·)) (nd : m.Nodup) (h : ∀ x ∈ m, 0 ≤ x ∧ x < (n : Int)) : RowOk n l :=
  rowOk_of hn (fun x hx => h x (p.mem_iff.mp hx)) (lt_of_le hs (p.nodup_iff.mpr nd))
theorem boardOk_free {b : List (List Int)} (h : BoardOk b) : BoardOk (freeB b) := by
  have e : (freeB b).length = b.length := by unfold freeB; rw [List.length_map]
  refine ⟨by rw [e]; exact h.1, by rw [e]; exact h.2.1, fun row hr => ?_⟩
  unfold freeB at hr
  obtain ⟨r, _, rfl⟩ := List.mem_map.mp hr
  rw [e]
  exact rowOk_sub (by have := h.2.1; omega) List.filter_sublist
theorem freeB_length (b : List (List Int)) : (freeB b).length = b.length := by unfold freeB; rw [List.length_map]
/-- unlike places for all: just the range -/
theorem perm_all {n : Nat} {l : List Int} (nd : l.Nodup) (hl : l.length = n) (h : ∀ x ∈ l, 0 ≤ x ∧ x < (n : Int)) : l.Perm (rangeZ 0 n) := by
  refine (List.perm_ext_iff_of_nodup nd (rangeZ_nd 0 n)).mpr fun x => ⟨fun hx => rangeZ_mem.mpr (by have := h x hx; omega), fun hx => ?_⟩
  have hx := rangeZ_mem.mp hx
  refine Decidable.byContradiction fun hn => ?_
  have := nd_short (n := n) (l := x :: l) (List.nodup_cons.mpr ⟨hn, nd⟩) fun y hy => by
    rcases List.mem_cons.mp hy with e | e
    · subst e; omega
    · exact h y e
  rw [List.length_cons] at this
  omega
theorem sort_all {n : Nat} {l m : List Int} (p : l.Perm m) (hs : l.Pairwise (· ≤ ·)) (q : m.Perm (rangeZ 0 n)) : l = rangeZ 0 n := ris_unique (n := 0) hs (rangeZ_pw 0 n) (p.trans q)
theorem sort_same {l m : List Int} (p : l.Perm m) (hs : l.Pairwise (· ≤ ·)) (q : m.Pairwise (· < ·)) : l = m := ris_unique (n := 0) hs q p
theorem pl_perm {n : Nat} {b : List (List Int)} {ps : List Int} (h : Pl n b [] ps) (hb : b.length = n) : ps.Perm (rangeZ 0 n) := by
  obtain ⟨h1, h2, h3, _⟩ := pl_iff.mp h
  exact perm_all h2 (by omega) fun x hx => ⟨(h3 x hx).1, (h3 x hx).2.1⟩
/-- rows with too few places -/
theorem pl_no {n : Nat} {b : List (List Int)} {ps rs S : List Int} (h : Pl n b [] ps) (nd : rs.Nodup) (hr : ∀ r ∈ rs, 0 ≤ r ∧ r < (b.length : Int)) (hS : ∀ r ∈ rs, ∀ p row, b[r.toNat]? = some row → 0 ≤ p → p < (n : Int) → p ∉ row → p ∈ S) : rs.length ≤ S.length := by
  obtain ⟨h1, h2, h3, h4⟩ := pl_iff.mp h
  have hg : ∀ r ∈ rs, ps[r.toNat]? = some (ps.getD r.toNat 0) := fun r hrm => getD_at (by have := hr r hrm; omega)
  have := nodup_le (a := rs.map fun r => ps.getD r.toNat 0) (b := S) (nodup_map nd fun a ha c hc e => ?_) fun x hx => ?_
  · rw [List.length_map] at this
    exact this
  · have e1 := hg a ha
    have e2 := hg c hc
    rw [e] at e1
    have := nd_at h2 e1 e2
    have := hr a ha
    have := hr c hc
    omega
  · obtain ⟨r, hrm, rfl⟩ := List.mem_map.mp hx
    have hrr := hr r hrm
    have hrow : b[r.toNat]? = some b[r.toNat] := List.getElem?_eq_getElem (by omega)
    have hm := h3 _ (List.mem_of_getElem? (hg r hrm))
    exact hS r hrm _ _ hrow hm.1 hm.2.1 (h4 _ _ _ hrow (hg r hrm))
theorem prod_fac (m : Nat) : prodI (rangeZ 1 m) = facI m := by
  induction m with
  | zero => rfl
  | succ m ih =>
    rw [rangeZ_succ]
    unfold prodI at ih ⊢
    rw [List.foldl_append, ih]
    show facI m * (1 + (m : Int)) = facI m * ((m : Int) + 1)
    rw [Int.add_comm 1]
theorem upR_head (a : List Int) : upR a = ((List.range a.length).filter (upBad a)).head? := by
  unfold upR
  rw [List.head?_filter]
theorem tIn_sum {a : List Int} {n j : Nat} (hl : a.length = n + 1) (hj : j ≤ n) : ((List.range (n + 1)).map fun k => ch k j * a.getD k 0).sum = (tIn a).getD j 0 := by
  unfold tIn
  rw [hl, tabR_getD (by omega)]
  rfl
theorem reverse_getD {a : List Int} : a.reverse.reverse = a := List.reverse_reverse a
end K16


set_option Elab.async false
set_option linter.all false
set_option maxRecDepth 100000
set_option maxHeartbeats 4000000
namespace K16
open PySem PySem.Spec PyProof.Rows L2 StX DL
/-! ### the text, by gen.py -/
def topS (i : Nat) : Stmt := PySem.Challenge.pw_undersums_k16_whole_hits_rooks_and_rows.main.body.getD i (.Pass ⟨0, 0, 0, 0⟩)
abbrev s_is_integer : Stmt := topS 1
abbrev n_is_integer : List Str := ["thing"]
theorem sc_is_integer : FnScope n_is_integer ["thing"] (defScope s_is_integer) := ⟨rfl, rfl, rfl, by decide +kernel, rfl, by decide +kernel, by decide +kernel⟩
abbrev s_is_between : Stmt := topS 2
abbrev n_is_between : List Str := ["thing", "low", "high"]
theorem sc_is_between : FnScope n_is_between ["thing", "low", "high"] (defScope s_is_between) := ⟨rfl, rfl, rfl, by decide +kernel, rfl, by decide +kernel, by decide +kernel⟩
abbrev s_is_list : Stmt := topS 3
abbrev n_is_list : List Str := ["thing"]
theorem sc_is_list : FnScope n_is_list ["thing"] (defScope s_is_list) := ⟨rfl, rfl, rfl, by decide +kernel, rfl, by decide +kernel, by decide +kernel⟩
abbrev s_are_sums : Stmt := topS 13
abbrev n_are_sums : List Str := ["thing", "one"]
theorem sc_are_sums : FnScope n_are_sums ["thing"] (defScope s_are_sums) := ⟨rfl, rfl, rfl, by decide +kernel, rfl, by decide +kernel, by decide +kernel⟩
abbrev s_choices_row : Stmt := topS 14
abbrev n_choices_row : List Str := ["many", "row", "turn", "at"]
theorem sc_choices_row : FnScope n_choices_row ["many"] (defScope s_choices_row) := ⟨rfl, rfl, rfl, by decide +kernel, rfl, by decide +kernel, by decide +kernel⟩
abbrev s_orderings : Stmt := topS 15
abbrev n_orderings : List Str := ["many", "told", "one"]
theorem sc_orderings : FnScope n_orderings ["many"] (defScope s_orderings) := ⟨rfl, rfl, rfl, by decide +kernel, rfl, by decide +kernel, by decide +kernel⟩
abbrev s_told_out : Stmt := topS 16
abbrev n_told_out : List Str := ["numbers", "told", "many", "number", "place", "ways"]
theorem sc_told_out : FnScope n_told_out ["numbers"] (defScope s_told_out) := ⟨rfl, rfl, rfl, by decide +kernel, rfl, by decide +kernel, by decide +kernel⟩
abbrev s_told_in : Stmt := topS 17
abbrev n_told_in : List Str := ["numbers", "told", "many", "number", "place", "ways"]
theorem sc_told_in : FnScope n_told_in ["numbers"] (defScope s_told_in) := ⟨rfl, rfl, rfl, by decide +kernel, rfl, by decide +kernel, by decide +kernel⟩
abbrev s_hits_of : Stmt := topS 18
abbrev n_hits_of : List Str := ["rooks", "many", "size", "number"]
theorem sc_hits_of : FnScope n_hits_of ["rooks"] (defScope s_hits_of) := ⟨rfl, rfl, rfl, by decide +kernel, rfl, by decide +kernel, by decide +kernel⟩
abbrev s_rooks_up : Stmt := topS 19
abbrev n_rooks_up : List Str := ["hits", "rooks", "size", "number", "ways"]
theorem sc_rooks_up : FnScope n_rooks_up ["hits"] (defScope s_rooks_up) := ⟨rfl, rfl, rfl, by decide +kernel, rfl, by decide +kernel, by decide +kernel⟩
abbrev s_is_row : Stmt := topS 25
abbrev n_is_row : List Str := ["many", "thing", "at", "place"]
theorem sc_is_row : FnScope n_is_row ["many", "thing"] (defScope s_is_row) := ⟨rfl, rfl, rfl, by decide +kernel, rfl, by decide +kernel, by decide +kernel⟩
abbrev s_is_board : Stmt := topS 26
abbrev n_is_board : List Str := ["thing", "row"]
theorem sc_is_board : FnScope n_is_board ["thing"] (defScope s_is_board) := ⟨rfl, rfl, rfl, by decide +kernel, rfl, by decide +kernel, by decide +kernel⟩
abbrev s_check_board : Stmt := topS 27
abbrev n_check_board : List Str := ["board"]
theorem sc_check_board : FnScope n_check_board ["board"] (defScope s_check_board) := ⟨rfl, rfl, rfl, by decide +kernel, rfl, by decide +kernel, by decide +kernel⟩
abbrev s_rook_counts : Stmt := topS 28
abbrev n_rook_counts : List Str := ["board", "ways", "row", "told", "gone", "more", "place", "held"]
theorem sc_rook_counts : FnScope n_rook_counts ["board"] (defScope s_rook_counts) := ⟨rfl, rfl, rfl, by decide +kernel, rfl, by decide +kernel, by decide +kernel⟩
abbrev s_hit_counts : Stmt := topS 29
abbrev n_hit_counts : List Str := ["board"]
theorem sc_hit_counts : FnScope n_hit_counts ["board"] (defScope s_hit_counts) := ⟨rfl, rfl, rfl, by decide +kernel, rfl, by decide +kernel, by decide +kernel⟩
abbrev s_free_places : Stmt := topS 30
abbrev n_free_places : List Str := ["board", "free", "row", "barred", "place"]
theorem sc_free_places : FnScope n_free_places ["board"] (defScope s_free_places) := ⟨rfl, rfl, rfl, by decide +kernel, rfl, by decide +kernel, by decide +kernel⟩
abbrev s_other_board : Stmt := topS 31
abbrev n_other_board : List Str := ["board"]
theorem sc_other_board : FnScope n_other_board ["board"] (defScope s_other_board) := ⟨rfl, rfl, rfl, by decide +kernel, rfl, by decide +kernel, by decide +kernel⟩
abbrev s__law_start : Stmt := topS 34
abbrev n__law_start : List Str := ["script"]
theorem sc__law_start : FnScope n__law_start ["script"] (defScope s__law_start) := ⟨rfl, rfl, rfl, by decide +kernel, rfl, by decide +kernel, by decide +kernel⟩
abbrev s__law_below : Stmt := topS 35
abbrev n__law_below : List Str := ["stream", "many", "mixed", "cell", "digit"]
theorem sc__law_below : FnScope n__law_below ["stream", "many"] (defScope s__law_below) := ⟨rfl, rfl, rfl, by decide +kernel, rfl, by decide +kernel, by decide +kernel⟩
abbrev s__law_mixed : Stmt := topS 36
abbrev n__law_mixed : List Str := ["stream", "some", "left", "k"]
theorem sc__law_mixed : FnScope n__law_mixed ["stream", "some"] (defScope s__law_mixed) := ⟨rfl, rfl, rfl, by decide +kernel, rfl, by decide +kernel, by decide +kernel⟩
abbrev s__law_lot : Stmt := topS 37
abbrev n__law_lot : List Str := ["stream", "some", "odds", "thing"]
theorem sc__law_lot : FnScope n__law_lot ["stream", "some", "odds"] (defScope s__law_lot) := ⟨rfl, rfl, rfl, by decide +kernel, rfl, by decide +kernel, by decide +kernel⟩
abbrev s__law_same : Stmt := topS 38
abbrev n__law_same : List Str := ["found", "due", "x", "y"]
theorem sc__law_same : FnScope n__law_same ["found", "due"] (defScope s__law_same) := ⟨rfl, rfl, rfl, by decide +kernel, rfl, by decide +kernel, by decide +kernel⟩
abbrev s__law_wways : Stmt := topS 39
abbrev n__law_wways : List Str := ["many", "some", "found", "at"]
theorem sc__law_wways : FnScope n__law_wways ["many", "some"] (defScope s__law_wways) := ⟨rfl, rfl, rfl, by decide +kernel, rfl, by decide +kernel, by decide +kernel⟩
abbrev s__law_wproduct : Stmt := topS 40
abbrev n__law_wproduct : List Str := ["numbers", "found", "number"]
theorem sc__law_wproduct : FnScope n__law_wproduct ["numbers"] (defScope s__law_wproduct) := ⟨rfl, rfl, rfl, by decide +kernel, rfl, by decide +kernel, by decide +kernel⟩
abbrev s__law_wtaken : Stmt := topS 41
abbrev n__law_wtaken : List Str := ["board", "row", "many", "found", "longer", "mask", "hits", "place", "k", "bit", "key"]
theorem sc__law_wtaken : FnScope n__law_wtaken ["board"] (defScope s__law_wtaken) := ⟨rfl, rfl, rfl, by decide +kernel, rfl, by decide +kernel, by decide +kernel⟩
abbrev s__law_wrooks : Stmt := topS 42
abbrev n__law_wrooks : List Str := ["board", "row", "counts", "mask", "many", "found", "longer", "place", "bit"]
theorem sc__law_wrooks : FnScope n__law_wrooks ["board"] (defScope s__law_wrooks) := ⟨rfl, rfl, rfl, by decide +kernel, rfl, by decide +kernel, by decide +kernel⟩
abbrev s_avoid_up : Stmt := topS 32
abbrev n_avoid_up : List Str := ["board", "free", "owner", "first", "told", "seen", "rows", "ended", "done", "place", "row", "taken", "other"]
theorem sc_avoid_up : FnScope n_avoid_up ["board"] (defScope s_avoid_up) := ⟨rfl, rfl, rfl, by decide +kernel, rfl, by decide +kernel, by decide +kernel⟩
abbrev s_law : Stmt := topS 43
abbrev n_law : List Str := ["script", "stream", "turn", "wide", "places", "board", "word", "few", "keep", "tight", "free", "row", "other", "found", "bent", "bad", "told", "due", "many", "share", "hits", "rooks", "j", "place", "k"]
theorem sc_law : FnScope n_law ["script"] (defScope s_law) := ⟨rfl, rfl, rfl, by decide +kernel, rfl, by decide +kernel, by decide +kernel⟩
/-- what the top has left -/
structure Glb (K : PySem.W.Frag) (mg : Str → Option Value) where
  b_all : mg "all" = none
  b_bool : mg "bool" = none
  b_dict : mg "dict" = none
  b_enumerate : mg "enumerate" = none
  b_int : mg "int" = none
  b_isinstance : mg "isinstance" = none
  b_len : mg "len" = none
  b_list : mg "list" = none
  b_range : mg "range" = none
  b_sorted : mg "sorted" = none
  b_str : mg "str" = none
  b_sum : mg "sum" = none
  b_tuple : mg "tuple" = none
  b_zip : mg "zip" = none
  t_FORTY_ONE : Tok
  c_FORTY_ONE : mg "FORTY_ONE" = some (.int 41 t_FORTY_ONE)
  t_MOST : Tok
  c_MOST : mg "MOST" = some (.int 1000000000 t_MOST)
  t_SIXTY_FOUR : Tok
  c_SIXTY_FOUR : mg "SIXTY_FOUR" = some (.int 64 t_SIXTY_FOUR)
  t_TEN : Tok
  c_TEN : mg "TEN" = some (.int 10 t_TEN)
  f_is_integer : Addr
  d_is_integer : FuncData
  F_is_integer : Fun K "is_integer" "is_integer" s_is_integer f_is_integer d_is_integer
  g_is_integer : mg "is_integer" = some (.ref f_is_integer)
  B_is_integer : Binds K d_is_integer ["thing"] []
  f_is_between : Addr
  d_is_between : FuncData
  F_is_between : Fun K "is_between" "is_between" s_is_between f_is_between d_is_between
  g_is_between : mg "is_between" = some (.ref f_is_between)
  B_is_between : Binds K d_is_between ["thing", "low", "high"] []
  f_is_list : Addr
  d_is_list : FuncData
  F_is_list : Fun K "is_list" "is_list" s_is_list f_is_list d_is_list
  g_is_list : mg "is_list" = some (.ref f_is_list)
  B_is_list : Binds K d_is_list ["thing"] []
  f_are_sums : Addr
  d_are_sums : FuncData
  F_are_sums : Fun K "are_sums" "are_sums" s_are_sums f_are_sums d_are_sums
  g_are_sums : mg "are_sums" = some (.ref f_are_sums)
  B_are_sums : Binds K d_are_sums ["thing"] []
  f_choices_row : Addr
  d_choices_row : FuncData
  F_choices_row : Fun K "choices_row" "choices_row" s_choices_row f_choices_row d_choices_row
  g_choices_row : mg "choices_row" = some (.ref f_choices_row)
  B_choices_row : Binds K d_choices_row ["many"] []
  f_orderings : Addr
  d_orderings : FuncData
  F_orderings : Fun K "orderings" "orderings" s_orderings f_orderings d_orderings
  g_orderings : mg "orderings" = some (.ref f_orderings)
  B_orderings : Binds K d_orderings ["many"] []
  f_told_out : Addr
  d_told_out : FuncData
  F_told_out : Fun K "told_out" "told_out" s_told_out f_told_out d_told_out
  g_told_out : mg "told_out" = some (.ref f_told_out)
  B_told_out : Binds K d_told_out ["numbers"] []
  f_told_in : Addr
  d_told_in : FuncData
  F_told_in : Fun K "told_in" "told_in" s_told_in f_told_in d_told_in
  g_told_in : mg "told_in" = some (.ref f_told_in)
  B_told_in : Binds K d_told_in ["numbers"] []
  f_hits_of : Addr
  d_hits_of : FuncData
  F_hits_of : Fun K "hits_of" "hits_of" s_hits_of f_hits_of d_hits_of
  g_hits_of : mg "hits_of" = some (.ref f_hits_of)
  B_hits_of : Binds K d_hits_of ["rooks"] []
  f_rooks_up : Addr
  d_rooks_up : FuncData
  F_rooks_up : Fun K "rooks_up" "rooks_up" s_rooks_up f_rooks_up d_rooks_up
  g_rooks_up : mg "rooks_up" = some (.ref f_rooks_up)
  B_rooks_up : Binds K d_rooks_up ["hits"] []
  f_is_row : Addr
  d_is_row : FuncData
  F_is_row : Fun K "is_row" "is_row" s_is_row f_is_row d_is_row
  g_is_row : mg "is_row" = some (.ref f_is_row)
  B_is_row : Binds K d_is_row ["many", "thing"] []
  f_is_board : Addr
  d_is_board : FuncData
  F_is_board : Fun K "is_board" "is_board" s_is_board f_is_board d_is_board
  g_is_board : mg "is_board" = some (.ref f_is_board)
  B_is_board : Binds K d_is_board ["thing"] []
  f_check_board : Addr
  d_check_board : FuncData
  F_check_board : Fun K "check_board" "check_board" s_check_board f_check_board d_check_board
  g_check_board : mg "check_board" = some (.ref f_check_board)
  B_check_board : Binds K d_check_board ["board"] []
  f_rook_counts : Addr
  d_rook_counts : FuncData
  F_rook_counts : Fun K "rook_counts" "rook_counts" s_rook_counts f_rook_counts d_rook_counts
  g_rook_counts : mg "rook_counts" = some (.ref f_rook_counts)
  B_rook_counts : Binds K d_rook_counts ["board"] []
  f_hit_counts : Addr
  d_hit_counts : FuncData
  F_hit_counts : Fun K "hit_counts" "hit_counts" s_hit_counts f_hit_counts d_hit_counts
  g_hit_counts : mg "hit_counts" = some (.ref f_hit_counts)
  B_hit_counts : Binds K d_hit_counts ["board"] []
  f_free_places : Addr
  d_free_places : FuncData
  F_free_places : Fun K "free_places" "free_places" s_free_places f_free_places d_free_places
  g_free_places : mg "free_places" = some (.ref f_free_places)
  B_free_places : Binds K d_free_places ["board"] []
  f_other_board : Addr
  d_other_board : FuncData
  F_other_board : Fun K "other_board" "other_board" s_other_board f_other_board d_other_board
  g_other_board : mg "other_board" = some (.ref f_other_board)
  B_other_board : Binds K d_other_board ["board"] []
  f__law_start : Addr
  d__law_start : FuncData
  F__law_start : Fun K "_law_start" "_law_start" s__law_start f__law_start d__law_start
  g__law_start : mg "_law_start" = some (.ref f__law_start)
  B__law_start : Binds K d__law_start ["script"] []
  f__law_below : Addr
  d__law_below : FuncData
  F__law_below : Fun K "_law_below" "_law_below" s__law_below f__law_below d__law_below
  g__law_below : mg "_law_below" = some (.ref f__law_below)
  B__law_below : Binds K d__law_below ["stream", "many"] []
  f__law_mixed : Addr
  d__law_mixed : FuncData
  F__law_mixed : Fun K "_law_mixed" "_law_mixed" s__law_mixed f__law_mixed d__law_mixed
  g__law_mixed : mg "_law_mixed" = some (.ref f__law_mixed)
  B__law_mixed : Binds K d__law_mixed ["stream", "some"] []
  f__law_lot : Addr
  d__law_lot : FuncData
  F__law_lot : Fun K "_law_lot" "_law_lot" s__law_lot f__law_lot d__law_lot
  g__law_lot : mg "_law_lot" = some (.ref f__law_lot)
  B__law_lot : Binds K d__law_lot ["stream", "some", "odds"] []
  f__law_same : Addr
  d__law_same : FuncData
  F__law_same : Fun K "_law_same" "_law_same" s__law_same f__law_same d__law_same
  g__law_same : mg "_law_same" = some (.ref f__law_same)
  B__law_same : Binds K d__law_same ["found", "due"] []
  f__law_wways : Addr
  d__law_wways : FuncData
  F__law_wways : Fun K "_law_wways" "_law_wways" s__law_wways f__law_wways d__law_wways
  g__law_wways : mg "_law_wways" = some (.ref f__law_wways)
  B__law_wways : Binds K d__law_wways ["many", "some"] []
  f__law_wproduct : Addr
  d__law_wproduct : FuncData
  F__law_wproduct : Fun K "_law_wproduct" "_law_wproduct" s__law_wproduct f__law_wproduct d__law_wproduct
  g__law_wproduct : mg "_law_wproduct" = some (.ref f__law_wproduct)
  B__law_wproduct : Binds K d__law_wproduct ["numbers"] []
  f__law_wtaken : Addr
  d__law_wtaken : FuncData
  F__law_wtaken : Fun K "_law_wtaken" "_law_wtaken" s__law_wtaken f__law_wtaken d__law_wtaken
  g__law_wtaken : mg "_law_wtaken" = some (.ref f__law_wtaken)
  B__law_wtaken : Binds K d__law_wtaken ["board"] []
  f__law_wrooks : Addr
  d__law_wrooks : FuncData
  F__law_wrooks : Fun K "_law_wrooks" "_law_wrooks" s__law_wrooks f__law_wrooks d__law_wrooks
  g__law_wrooks : mg "_law_wrooks" = some (.ref f__law_wrooks)
  B__law_wrooks : Binds K d__law_wrooks ["board"] []
  f_avoid_up : Addr
  d_avoid_up : FuncData
  F_avoid_up : Fun K "avoid_up" "avoid_up" s_avoid_up f_avoid_up d_avoid_up
  g_avoid_up : mg "avoid_up" = some (.ref f_avoid_up)
  B_avoid_up : Binds K d_avoid_up ["board"] []
  f_law : Addr
  d_law : FuncData
  F_law : Fun K "law" "law" s_law f_law d_law
  g_law : mg "law" = some (.ref f_law)
  B_law : Binds K d_law ["script"] []
end K16


set_option Elab.async false
set_option linter.all false
set_option maxRecDepth 100000
set_option maxHeartbeats 4000000
namespace K16
open PySem PySem.Spec PyProof.Rows L2 StX DL
local macro_rules | `(tactic| walk_at "dl") => `(tactic| with_reducible first
  | refine zs_seq ?_ | refine zs_set ?_ | refine zs_drop ?_ | refine zs_ret ?_ | refine zs_if ?_ | refine zs_next ?_ | refine zs_par ?_
  | refine ev_int ?_ | refine ev_bl ?_ | refine ev_str ?_ | refine ev_non ?_ | refine ev_ty ?_
  | refine ev_op ?_ | refine ev_un ?_ | refine ev_cb ?_ | refine ev_call ?_ | refine ea_cons ?_ | refine ea_nil ?_
  | refine ev_andV ?_ | refine ev_orV ?_ | refine ev_notV ?_ | refine ev_ifx ?_ | refine ev_chain ?_ | refine ev_sl ?_ | refine eo_none ?_ | refine eo_some ?_
  | refine et_test ?_ | refine et_B ?_ | refine et_and ?_ | refine et_or ?_ | refine et_not ?_ | refine et_yes ?_
  | refine u_add _ _ rfl rfl ?_ | refine r2_sub _ _ rfl rfl ?_ | refine r2_lt _ _ rfl rfl ?_ | refine r2_le _ _ rfl rfl ?_ | refine r2_gt _ _ rfl rfl ?_ | refine r2_ge _ _ rfl rfl ?_
  | refine r1_neg _ rfl ?_ | refine ev_bm ?_ | refine ev_bm0 ?_ | refine ⟨dty0, ?_⟩ | refine ⟨dty1, ?_⟩ | refine ⟨dty2, ?_⟩ | refine ⟨_, SQ.lst _, ?_⟩ | refine ⟨_, sq0, ?_⟩ | refine ⟨_, sq1, ?_⟩ | refine ea_star ?_
  | refine ⟨_, rfl, ?_⟩ | refine iteT ?_ | refine iteF ?_ | refine iteNT ?_ | refine iteNF ?_)
local macro_rules | `(tactic| walk_at "dl") => `(tactic| ((with_reducible refine' ev_var ?hv ?_); (case hv => rfl)))
local macro_rules | `(tactic| walk_at "gle") => `(tactic| repeat (first | exact GLe.nil | apply GLe.s | apply GLe.n))
section
variable {P : Program} {w : World} {K : PySem.W.Frag} {mg : Str → Option Value} {base : Heap} (G : Glb K mg)
def S_is_integer : SpD := fun ds M Φ => ∃ i : Int, ds = [.int i] ∧ Φ (.bl true) M
include G in
theorem ok_is_integer : FnOk P w K mg base CX0 1 G.f_is_integer G.d_is_integer ["thing"] (spOf K S_is_integer) := by
  refine def_ok G.F_is_integer sc_is_integer (fun ds M Φ h => by obtain ⟨_, rfl, _⟩ := h; rfl) fun cdv A outer s H E hr => ⟨_, (pss_one (ps_ret (pe_and (pe_callB (call_isiK (K := K) rfl) (by rfl) G.b_isinstance boot_isinstance (pa_cons (pv 0) (pa_cons (pe_bltn (v := .ty "int") (by rfl) G.b_int boot_int rfl) pa_nil))) (pe_one (pe_not (pe_callB (call_isiK (K := K) rfl) (by rfl) G.b_isinstance boot_isinstance (pa_cons (pv 0) (pa_cons (pe_bltn (v := .ty "bool") (by rfl) G.b_bool boot_bool rfl) pa_nil)))))))), fun ds M Φ h => ?_⟩
  try dsimp only [cxOf, L2.Cx.nox, L2.Cx.wish]
  obtain ⟨i, rfl, q⟩ := h
  repeat walk_at "dl"
  refine rc_inl (rc_isi (.int i) "int" "int" true rfl (.int i) (by decide +kernel) ?_)
  repeat walk_at "dl"
  refine rc_inl (rc_isi (.int i) "int" "bool" false rfl (.int i) (by decide +kernel) ?_)
  repeat walk_at "dl"
  exact q
def S_is_between : SpD := fun ds M Φ => ∃ i a b : Int, ds = [.int i, .int a, .int b] ∧ Φ (.bl (decide (a ≤ i ∧ i ≤ b))) M
include G in
theorem ok_is_between : FnOk P w K mg base CX0 2 G.f_is_between G.d_is_between ["thing", "low", "high"] (spOf K S_is_between) := by
  refine def_ok G.F_is_between sc_is_between (fun ds M Φ h => by obtain ⟨_, _, _, rfl, _⟩ := h; rfl) fun cdv A outer s H E hr => ⟨_, (pss_one (ps_ret (pe_and (pe_call (ok_is_integer G) (hr.mono (by first | exact Nat.le_refl _ | decide)) (by rfl) G.g_is_integer G.F_is_integer.kp G.B_is_integer .nil pass0 (pa_cons (pv 0) pa_nil)) (pe_one (pe_chain op_le op_le (pv 1) (pv 0) (pv 2)))))), fun ds M Φ h => ?_⟩
  try dsimp only [cxOf, L2.Cx.nox, L2.Cx.wish]
  obtain ⟨i, a, b, rfl, q⟩ := h
  repeat walk_at "dl"
  refine ⟨i, rfl, ?_⟩
  repeat walk_at "dl"
  refine dite_bl (fun h1 => ?_) (fun h1 => ?_)
  · repeat walk_at "dl"
    have e : decide (i ≤ b) = decide (a ≤ i ∧ i ≤ b) := by simp [h1]
    rw [e]
    exact q
  · have e : false = decide (a ≤ i ∧ i ≤ b) := by simp [h1]
    rw [e]
    exact q
def S_is_list : SpD := fun ds M Φ => ∃ x n, ds = [x] ∧ TN M x n ∧ (n = "list" ∧ Φ (.bl true) M)
include G in
theorem ok_is_list : FnOk P w K mg base CX0 1 G.f_is_list G.d_is_list ["thing"] (spOf K S_is_list) := by
  refine def_ok G.F_is_list sc_is_list (fun ds M Φ h => by obtain ⟨_, _, rfl, _⟩ := h; rfl) fun cdv A outer s H E hr => ⟨_, (pss_one (ps_ret (pe_callB (call_isiK (K := K) rfl) (by rfl) G.b_isinstance boot_isinstance (pa_cons (pv 0) (pa_cons (pe_tup (pa_cons (pe_bltn (v := .ty "list") (by rfl) G.b_list boot_list rfl) (pa_cons (pe_bltn (v := .ty "tuple") (by rfl) G.b_tuple boot_tuple rfl) pa_nil))) pa_nil))))), fun ds M Φ h => ?_⟩
  try dsimp only [cxOf, L2.Cx.nox, L2.Cx.wish]
  obtain ⟨x, n, rfl, t, rfl, q⟩ := h
  repeat walk_at "dl"
  refine ev_tup ?_
  repeat walk_at "dl"
  refine ⟨by decide, ?_⟩
  repeat walk_at "dl"
  refine rc_inr (rc_isiT x "list" ["list", "tuple"] true rfl t (by decide +kernel) ?_)
  exact q
/-- the spring of draws, owned; so many were drawn at most -/
inductive Strm (a : Addr) (n : Int) (B M : Ms) : Prop
  | mk (c : Addr) (cells : List Int) (cur cnt mix : Int) : 0 ≤ cur → 0 ≤ mix → mix < 2147483647 → 0 ≤ cnt → cnt ≤ n → M = (a, .lst [.ptr c, .int cur, .int cnt, .int mix]) :: (c, .lst (cells.map .int)) :: B → Strm a n B M
theorem Strm.mono {a : Addr} {n m : Int} {B M : Ms} (h : Strm a n B M) (e : n ≤ m) : Strm a m B M := by
  obtain ⟨c, cells, cur, cnt, mix, h1, h2, h3, h4, h5, rfl⟩ := h
  exact ⟨c, cells, cur, cnt, mix, h1, h2, h3, h4, by omega, rfl⟩
def S__law_start : SpD := fun ds M Φ => ∃ ns : List Int, ds = [.rol (ns.map .int)] ∧ ns.length ≤ 1000 ∧ ∀ a M', Strm a 0 M M' → Φ (.ptr a) M'
include G in
theorem ok__law_start : FnOk P w K mg base CX0 1 G.f__law_start G.d__law_start ["script"] (spOf K S__law_start) := by
  refine def_ok G.F__law_start sc__law_start (fun ds M Φ h => by obtain ⟨_, rfl, _⟩ := h; rfl) fun cdv A outer s H E hr => ⟨_, (pss_one (ps_ret (pe_lst (pa_cons (pe_callTy (call_listU (K := K) rfl rfl) (by rfl) G.b_list boot_list (pa_cons (pv 0) pa_nil)) (pa_cons pe_int (pa_cons pe_int (pa_cons pe_int pa_nil))))))), fun ds M Φ h => ?_⟩
  try dsimp only [cxOf, L2.Cx.nox, L2.Cx.wish]
  obtain ⟨ns, rfl, hn, q⟩ := h
  repeat walk_at "dl"
  refine ev_own (en_lst ?_)
  repeat walk_at "dl"
  refine rc_own (u_list (ds := ns.map .int) (.rol (ns.map .int)) rfl (.l (.rol _)) fun c => ?_)
  repeat walk_at "dl"
  refine ⟨by simp, fun a => q a _ ⟨c, ns, 0, 0, 83, by decide, by decide, by decide, by decide, by decide, rfl⟩⟩
def S__law_below : SpD := fun ds M Φ => ∃ (a : Addr) (m n : Int) (B : Ms), ds = [.ptr a, .int m] ∧ 0 < m ∧ m < 1073741824 ∧ n ≤ 1000000000 ∧ Strm a n B M ∧ ∀ r M', 0 ≤ r → r < m → Strm a (n + 1) B M' → Φ (.int r) M'
include G in
theorem ok__law_below : FnOk P w K mg base CX0 1 G.f__law_below G.d__law_below ["stream", "many"] (spOf K S__law_below) := by
  refine def_ok G.F__law_below sc__law_below (fun ds M Φ h => by obtain ⟨_, _, _, _, rfl, _⟩ := h; rfl) fun cdv A outer s H E hr => ⟨_, (pss_cons (ps_either (ps_asg (pe_op (op_addU (K := K) rfl) (pe_ix (ixU (K := K) rfl hr.units) (pv 0) pe_int (fun _ _ => rfl)) pe_int) (pg_sub (pv 0) pe_int set_list)) (ps_dput (ix1 hr.units) (pv 0) pe_int (pe_op (op_addU (K := K) rfl) (pe_ix (ixU (K := K) rfl hr.units) (pv 0) pe_int (fun _ _ => rfl)) pe_int) (by rfl)))
(pss_cons (ps_while PassesOwn.never (PW.pt (pw_and (pt_cmpR (op_eqK (K := K) rfl hr.units) (pe_ix (ixU (K := K) rfl hr.units) (pv 0) pe_int (fun _ _ => rfl)) pe_int (nomark _)) (pw_and1 (pt_cmpR (op_neK (K := K) rfl hr.units) (pe_ix (ixU (K := K) rfl hr.units) (pv 0) pe_int (fun _ _ => rfl)) (pe_lst pa_nil) (nomark _)))))
(pss_cons (ps_set (i := 3) sc__law_below.nd rfl (by first | exact .inl rfl | exact .inr rfl) (pe_bmK (K := K) rfl PySem.F.plainAttrs_list PySem.F.slot_list_pop PySem.F.type_list_pop mt_popAt (pe_ix (ixU (K := K) rfl hr.units) (pv 0) pe_int (fun _ _ => rfl)) (pa_cons pe_int pa_nil)))
(pss_cons (ps_either (ps_asg (pe_op op_mod (pe_callTy call_int1 (by rfl) G.b_int boot_int (pa_cons (pe_op (op_addU (K := K) rfl) (pe_op (op_addU (K := K) rfl) (pe_op op_mulA (pe_ix (ixU (K := K) rfl hr.units) (pv 0) pe_int (fun _ _ => rfl)) pe_int) (pv 3)) pe_int) pa_nil)) pe_int) (pg_sub (pv 0) pe_int set_list)) (ps_dput (ix1 hr.units) (pv 0) pe_int (pe_op op_mod (pe_callTy call_int1 (by rfl) G.b_int boot_int (pa_cons (pe_op (op_addU (K := K) rfl) (pe_op (op_addU (K := K) rfl) (pe_op op_mulA (pe_ix (ixU (K := K) rfl hr.units) (pv 0) pe_int (fun _ _ => rfl)) pe_int) (pv 3)) pe_int) pa_nil)) pe_int) (by rfl)))
(pss_one (ps_either (ps_asg (pe_ifExp (pt_cmpR op_ge (pv 3) (pe_op op_pow pe_int pe_int) (nomark _)) (pv 3) pe_int) (pg_sub (pv 0) pe_int set_list)) (ps_dput (ix1 hr.units) (pv 0) pe_int (pe_ifExp (pt_cmpR op_ge (pv 3) (pe_op op_pow pe_int pe_int) (nomark _)) (pv 3) pe_int) (by rfl)))))))
(pss_cons (ps_if (pt_cmpR op_gt (pe_ix (ixU (K := K) rfl hr.units) (pv 0) pe_int (fun _ _ => rfl)) pe_int (nomark _))
(pss_cons (ps_set (i := 4) sc__law_below.nd rfl (by first | exact .inl rfl | exact .inr rfl) (pe_op op_mod (pe_callTy call_int1 (by rfl) G.b_int boot_int (pa_cons (pe_ix (ixU (K := K) rfl hr.units) (pv 0) pe_int (fun _ _ => rfl)) pa_nil)) (pv 1)))
(pss_cons (ps_either (ps_asg (pe_op op_fdiv (pe_ix (ixU (K := K) rfl hr.units) (pv 0) pe_int (fun _ _ => rfl)) (pv 1)) (pg_sub (pv 0) pe_int set_list)) (ps_dput (ix1 hr.units) (pv 0) pe_int (pe_op op_fdiv (pe_ix (ixU (K := K) rfl hr.units) (pv 0) pe_int (fun _ _ => rfl)) (pv 1)) (by rfl)))
(pss_one (ps_ret (pv 4)))))
pss_nil)
(pss_cons (ps_set (i := 2) sc__law_below.nd rfl (by first | exact .inl rfl | exact .inr rfl) (pe_op op_mod (pe_callTy call_int1 (by rfl) G.b_int boot_int (pa_cons (pe_op op_pow (pe_op (op_addU (K := K) rfl) (pe_op (op_addU (K := K) rfl) (pe_ix (ixU (K := K) rfl hr.units) (pv 0) pe_int (fun _ _ => rfl)) (pe_op op_mulA pe_int (pe_ix (ixU (K := K) rfl hr.units) (pv 0) pe_int (fun _ _ => rfl)))) pe_int) pe_int) pa_nil)) pe_int))
(pss_one (ps_ret (pe_op op_mod (pe_op op_mod (pe_callTy call_int1 (by rfl) G.b_int boot_int (pa_cons (pe_op op_pow (pe_op (op_addU (K := K) rfl) (pe_op (op_addU (K := K) rfl) (pe_op op_mulA (pv 2) pe_int) (pe_op op_mulA pe_int (pe_ix (ixU (K := K) rfl hr.units) (pv 0) pe_int (fun _ _ => rfl)))) pe_int) pe_int) pa_nil)) pe_int) (pv 1)))))))), fun ds M Φ h => ?_⟩
  try dsimp only [cxOf, L2.Cx.nox, L2.Cx.wish]
  obtain ⟨a, m, n, B, rfl, hm0, hm1, hn, ⟨c, cells, cur, cnt, mix, h1, h2, h3, h4, h5, rfl⟩, q⟩ := h
  repeat walk_at "dl"
  refine es_eL (zs_asg (own := []) ?_)
  repeat walk_at "dl"
  refine u_ixL 2 lq0 rfl rfl ?_
  repeat walk_at "dl"
  refine eg_setL ?_
  repeat walk_at "dl"
  refine ⟨0, 2, a, _, rfl, rfl, rfl, by simp, ?_⟩
  refine zs_cut (fun Γ' M' => Γ' = [some (.ptr a), some (.int m), none, none, none] ∧ ∃ (cells : List Int) (cur mix : Int), 0 ≤ cur ∧ 0 ≤ mix ∧ mix < 2147483647 ∧ M' = (a, .lst [.ptr c, .int cur, .int (cnt + 1), .int mix]) :: (c, .lst (cells.map .int)) :: B)
    (zs_while (fun k Γ' M' => Γ' = [some (.ptr a), some (.int m), none, none, none] ∧ ∃ (cells : List Int) (cur mix : Int), cells.length = k ∧ 0 ≤ cur ∧ 0 ≤ mix ∧ mix < 2147483647 ∧ M' = (a, .lst [.ptr c, .int cur, .int (cnt + 1), .int mix]) :: (c, .lst (cells.map .int)) :: B) cells.length _ (.s (.s (.n (.n (.n .nil))))) ⟨rfl, cells, cur, mix, rfl, h1, h2, h3, rfl⟩ fun k Γ' M' hC => ?_) ?_
  · obtain ⟨rfl, cells, cur, mix, rfl, h1, h2, h3, rfl⟩ := hC
    repeat walk_at "dl"
    refine u_ixL 1 lq0 rfl rfl ?_
    repeat walk_at "dl"
    refine r2_eqI _ _ rfl rfl ?_
    repeat walk_at "dl"
    refine dite_bl (fun e0 => ?_) (fun _ => ?_)
    · repeat walk_at "dl"
      refine u_ixL 0 lq0 rfl rfl ?_
      repeat walk_at "dl"
      refine ev_frz (en_lst ?_)
      repeat walk_at "dl"
      refine ⟨by simp, ?_⟩
      refine r2_neLI cells [] (.own (.tail _ (.head _))) .nil ?_
      repeat walk_at "dl"
      refine ndite_bl (fun hne => ?_) (fun _ => ?_)
      · obtain ⟨z, r, rfl⟩ : ∃ z r, cells = z :: r := by
          cases cells with
          | nil => exact absurd rfl hne
          | cons z r => exact ⟨z, r, rfl⟩
        repeat walk_at "dl"
        refine u_ixL 0 lq0 rfl rfl ?_
        repeat walk_at "dl"
        refine rm_pop0 (d := .int z) (ds := r.map .int) 1 rfl rfl rfl ?_
        refine zs_seq (es_eL (zs_asg (own := []) ?_))
        repeat walk_at "dl"
        refine u_ixL 3 lq0 rfl rfl ?_
        repeat walk_at "dl"
        refine r2_mul _ _ rfl rfl (.inr ⟨by decide, by decide⟩) ?_
        repeat walk_at "dl"
        refine rc_intI _ rfl ?_
        repeat walk_at "dl"
        refine r2_mod _ _ rfl rfl (by decide) ?_
        refine eg_setL ?_
        repeat walk_at "dl"
        refine ⟨0, 3, a, _, rfl, rfl, rfl, by simp, ?_⟩
        refine es_eL (zs_asg (own := []) ?_)
        generalize hx : (mix * 68483 + z + 23) % 2147483647 = mix2
        have k1 := Int.emod_nonneg (mix * 68483 + z + 23) (show (2147483647 : Int) ≠ 0 by decide)
        have k2 := Int.emod_lt_of_pos (mix * 68483 + z + 23) (show (0 : Int) < 2147483647 by decide)
        rw [hx] at k1 k2
        repeat walk_at "dl"
        refine r2_pow _ _ rfl rfl ⟨by decide, by decide, by decide⟩ ?_
        repeat walk_at "dl"
        refine dite_bl (fun h9 => ?_) (fun h9 => ?_)
        · repeat walk_at "dl"
          refine eg_setL ?_
          repeat walk_at "dl"
          have h10 : (0 : Int) ≤ 10 ^ (Int.toNat 18) := by decide
          exact ⟨0, 1, a, _, rfl, rfl, rfl, by simp, r.length, _, by simp, .s (.s (.n (.n (.n .nil)))), rfl, r, z, mix2, rfl, by omega, k1, k2, rfl⟩
        · repeat walk_at "dl"
          refine eg_setL ?_
          repeat walk_at "dl"
          exact ⟨0, 1, a, _, rfl, rfl, rfl, by simp, r.length, _, by simp, .s (.s (.n (.n (.n .nil)))), rfl, r, 0, mix2, rfl, by omega, k1, k2, rfl⟩
      · exact ⟨rfl, cells, cur, mix, h1, h2, h3, rfl⟩
    · exact ⟨rfl, cells, cur, mix, h1, h2, h3, rfl⟩
  · rintro Γ' M' ⟨rfl, cells, cur, mix, h1, h2, h3, rfl⟩
    repeat walk_at "dl"
    refine u_ixL 1 lq0 rfl rfl ?_
    repeat walk_at "dl"
    refine dite_bl (fun h9 => ?_) (fun h9 => ?_)
    · repeat walk_at "dl"
      refine u_ixL 1 lq0 rfl rfl ?_
      repeat walk_at "dl"
      refine rc_intI _ rfl ?_
      repeat walk_at "dl"
      refine r2_mod _ _ rfl rfl hm0 ?_
      repeat walk_at "dl"
      refine es_eL (zs_asg (own := []) ?_)
      repeat walk_at "dl"
      refine u_ixL 1 lq0 rfl rfl ?_
      repeat walk_at "dl"
      refine r2_fdiv _ _ rfl rfl ⟨hm0, hm1⟩ ?_
      refine eg_setL ?_
      repeat walk_at "dl"
      refine ⟨0, 1, a, _, rfl, rfl, rfl, by simp, ?_⟩
      repeat walk_at "dl"
      exact q _ _ (Int.emod_nonneg _ (by omega)) (Int.emod_lt_of_pos _ hm0) ⟨c, cells, cur / m, cnt + 1, mix, Int.ediv_nonneg h1 (by omega), h2, h3, by omega, by omega, rfl⟩
    · repeat walk_at "dl"
      refine u_ixL 3 lq0 rfl rfl ?_
      repeat walk_at "dl"
      refine u_ixL 2 lq0 rfl rfl ?_
      repeat walk_at "dl"
      refine r2_mul _ _ rfl rfl (.inl ⟨by decide, by decide⟩) ?_
      repeat walk_at "dl"
      refine r2_pow _ _ rfl rfl ⟨by decide, by decide, by omega⟩ ?_
      repeat walk_at "dl"
      refine rc_intI _ rfl ?_
      repeat walk_at "dl"
      refine r2_mod _ _ rfl rfl (by decide) ?_
      generalize hx : (mix + 9283 * (cnt + 1) + 140009) ^ (Int.toNat 5) % 2147483629 = mixed
      have k1 := Int.emod_nonneg ((mix + 9283 * (cnt + 1) + 140009) ^ (Int.toNat 5)) (show (2147483629 : Int) ≠ 0 by decide)
      have k2 := Int.emod_lt_of_pos ((mix + 9283 * (cnt + 1) + 140009) ^ (Int.toNat 5)) (show (0 : Int) < 2147483629 by decide)
      rw [hx] at k1 k2
      repeat walk_at "dl"
      refine r2_mul _ _ rfl rfl (.inr ⟨by decide, by decide⟩) ?_
      repeat walk_at "dl"
      refine u_ixL 2 lq0 rfl rfl ?_
      repeat walk_at "dl"
      refine r2_mul _ _ rfl rfl (.inl ⟨by decide, by decide⟩) ?_
      repeat walk_at "dl"
      refine r2_pow _ _ rfl rfl ⟨by decide, by decide, by omega⟩ ?_
      repeat walk_at "dl"
      refine rc_intI _ rfl ?_
      repeat walk_at "dl"
      refine r2_mod _ _ rfl rfl (by decide) ?_
      repeat walk_at "dl"
      refine r2_mod _ _ rfl rfl hm0 ?_
      exact q _ _ (Int.emod_nonneg _ (by omega)) (Int.emod_lt_of_pos _ hm0) ⟨c, cells, cur, cnt + 1, mix, h1, h2, h3, by omega, by omega, rfl⟩
/-- data that _law_same goes through, less than r deep -/
def SameD : Nat → D → Prop
  | 0, _ => False
  | r + 1, d => (∃ i, d = .int i) ∨ (∃ b, d = .bl b) ∨ (∃ z, d = .str z) ∨ (∃ ds, d = .lst ds ∧ ds.length ≤ 1000 ∧ ∀ x ∈ ds, SameD r x) ∨ ∃ ds, d = .tup ds ∧ ds.length ≤ 1000 ∧ ∀ x ∈ ds, SameD r x
def S__law_same (r : Nat) : SpD := fun ds M Φ => ∃ d, ds = [d, d] ∧ SameD r d ∧ Φ (.bl true) M
include G in
theorem ok__law_same (r : Nat) (ih : FnOk P w K mg base CX0 r G.f__law_same G.d__law_same ["found", "due"] (spOf K (S__law_same r))) : FnOk P w K mg base CX0 (r + 1) G.f__law_same G.d__law_same ["found", "due"] (spOf K (S__law_same (r + 1))) := by
  refine def_ok G.F__law_same sc__law_same (fun ds M Φ h => by obtain ⟨_, rfl, _⟩ := h; rfl) fun cdv A outer s H E hr => ⟨_, (pss_cons (ps_if (pt_val (pe_callB (call_isiK (K := K) rfl) (by rfl) G.b_isinstance boot_isinstance (pa_cons (pv 1) (pa_cons (pe_tup (pa_cons (pe_bltn (v := .ty "list") (by rfl) G.b_list boot_list rfl) (pa_cons (pe_bltn (v := .ty "tuple") (by rfl) G.b_tuple boot_tuple rfl) pa_nil))) pa_nil))))
(pss_cons (ps_if (PW.pt (pw_or (pt_cmpR (op_neK (K := K) rfl hr.units) (pe_callB (call_isiK (K := K) rfl) (by rfl) G.b_isinstance boot_isinstance (pa_cons (pv 0) (pa_cons (pe_bltn (v := .ty "list") (by rfl) G.b_list boot_list rfl) pa_nil))) (pe_callB (call_isiK (K := K) rfl) (by rfl) G.b_isinstance boot_isinstance (pa_cons (pv 1) (pa_cons (pe_bltn (v := .ty "list") (by rfl) G.b_list boot_list rfl) pa_nil))) (nomark _)) (pw_or1 (pt_cmpR (op_neK (K := K) rfl hr.units) (pe_callB (call_isiK (K := K) rfl) (by rfl) G.b_isinstance boot_isinstance (pa_cons (pv 0) (pa_cons (pe_bltn (v := .ty "tuple") (by rfl) G.b_tuple boot_tuple rfl) pa_nil))) (pe_callB (call_isiK (K := K) rfl) (by rfl) G.b_isinstance boot_isinstance (pa_cons (pv 1) (pa_cons (pe_bltn (v := .ty "tuple") (by rfl) G.b_tuple boot_tuple rfl) pa_nil))) (nomark _)))))
(pss_one ps_never)
pss_nil)
(pss_one (ps_ret (pe_and (pe_cmpR (op_eqK (K := K) rfl hr.units) (pe_callB (call_lenU (K := K) rfl) (by rfl) G.b_len boot_len (pa_cons (pv 0) pa_nil)) (pe_callB (call_lenU (K := K) rfl) (by rfl) G.b_len boot_len (pa_cons (pv 1) pa_nil)) (nomark _)) (pe_one (pe_callB (cr_allK (K := K) rfl rfl) (by rfl) G.b_all boot_all (pa_cons (pe_lc (own := [("x", 2), ("y", 3)]) (g := (gTup K 2 (gCons (gName 2) (gCons (gName 3) gNil)))) (tt := tYes) rfl sc__law_same.nd (pi_zipU (K := K) rfl (by rfl) G.b_zip (pa_cons (pv 0) (pa_cons (pv 1) pa_nil))) (blkOk_by (N := n__law_same) (sc := defScope s__law_same) (by decide +kernel)) (fun _ _ _ _ _ => (pg_tupK (K := K) rfl rfl (pgs_cons (pg_name (i := 2) sc__law_same.nd rfl (by first | exact .inl rfl | exact .inr rfl)) (pgs_cons (pg_name (i := 3) sc__law_same.nd rfl (by first | exact .inl rfl | exact .inr rfl)) pgs_nil)))) (fun _ _ _ _ _ => pts_nil) (fun _ _ _ _ _ => (pe_call (ih) (hr.mono (by first | exact Nat.le_refl _ | decide)) (by rfl) G.g__law_same G.F__law_same.kp G.B__law_same .nil pass0 (pa_cons (pv 2) (pa_cons (pv 3) pa_nil))))) pa_nil)))))))
pss_nil)
(pss_cons (ps_if (pt_val (pe_callB (call_isiK (K := K) rfl) (by rfl) G.b_isinstance boot_isinstance (pa_cons (pv 1) (pa_cons (pe_bltn (v := .ty "dict") (by rfl) G.b_dict boot_dict rfl) pa_nil))))
(pss_one ps_never)
pss_nil)
(pss_cons (ps_if (pt_val (pe_callB (call_isiK (K := K) rfl) (by rfl) G.b_isinstance boot_isinstance (pa_cons (pv 1) (pa_cons (pe_bltn (v := .ty "int") (by rfl) G.b_int boot_int rfl) pa_nil))))
(pss_one (ps_ret (pe_and (pe_callB (call_isiK (K := K) rfl) (by rfl) G.b_isinstance boot_isinstance (pa_cons (pv 0) (pa_cons (pe_bltn (v := .ty "int") (by rfl) G.b_int boot_int rfl) pa_nil))) (pe_and (pe_cmpR (op_eqK (K := K) rfl hr.units) (pe_callB (call_isiK (K := K) rfl) (by rfl) G.b_isinstance boot_isinstance (pa_cons (pv 0) (pa_cons (pe_bltn (v := .ty "bool") (by rfl) G.b_bool boot_bool rfl) pa_nil))) (pe_callB (call_isiK (K := K) rfl) (by rfl) G.b_isinstance boot_isinstance (pa_cons (pv 1) (pa_cons (pe_bltn (v := .ty "bool") (by rfl) G.b_bool boot_bool rfl) pa_nil))) (nomark _)) (pe_one (pe_cmpR (op_eqK (K := K) rfl hr.units) (pv 0) (pv 1) (nomark _)))))))
pss_nil)
(pss_cons (ps_if (pt_cmpR op_isN (pv 1) pe_non (nomark _))
(pss_one ps_never)
pss_nil)
(pss_cons (ps_if (pt_val (pe_callB (call_isiK (K := K) rfl) (by rfl) G.b_isinstance boot_isinstance (pa_cons (pv 1) (pa_cons (pe_bltn (v := .ty "str") (by rfl) G.b_str boot_str rfl) pa_nil))))
(pss_one (ps_ret (pe_and (pe_callB (call_isiK (K := K) rfl) (by rfl) G.b_isinstance boot_isinstance (pa_cons (pv 0) (pa_cons (pe_bltn (v := .ty "str") (by rfl) G.b_str boot_str rfl) pa_nil))) (pe_one (pe_cmpR (op_eqK (K := K) rfl hr.units) (pv 0) (pv 1) (nomark _))))))
pss_nil)
(pss_one ps_never)))))), fun ds M Φ h => ?_⟩
  try dsimp only [cxOf, L2.Cx.nox, L2.Cx.wish]
  obtain ⟨d, rfl, hd, q⟩ := h
  rcases hd with ⟨i, rfl⟩ | ⟨b, rfl⟩ | ⟨z, rfl⟩ | ⟨ds, rfl, hl, hi⟩ | ⟨ds, rfl, hl, hi⟩
  · repeat walk_at "dl"
    refine ev_tup ?_
    repeat walk_at "dl"
    refine ⟨by decide, ?_⟩
    repeat walk_at "dl"
    refine rc_inr (rc_isiT (.int i) "int" ["list", "tuple"] false rfl (.int i) (by decide +kernel) ?_)
    repeat walk_at "dl"
    refine rc_inl (rc_isi (.int i) "int" "dict" false rfl (.int i) (by decide +kernel) ?_)
    repeat walk_at "dl"
    refine rc_inl (rc_isi (.int i) "int" "int" true rfl (.int i) (by decide +kernel) ?_)
    repeat walk_at "dl"
    refine rc_inl (rc_isi (.int i) "int" "int" true rfl (.int i) (by decide +kernel) ?_)
    repeat walk_at "dl"
    refine rc_inl (rc_isi (.int i) "int" "bool" false rfl (.int i) (by decide +kernel) ?_)
    repeat walk_at "dl"
    refine rc_inl (rc_isi (.int i) "int" "bool" false rfl (.int i) (by decide +kernel) ?_)
    repeat walk_at "dl"
    refine r2_eqB1 false rfl rfl ?_
    repeat walk_at "dl"
    exact r2_eqI1 i rfl rfl q
  · repeat walk_at "dl"
    refine ev_tup ?_
    repeat walk_at "dl"
    refine ⟨by decide, ?_⟩
    repeat walk_at "dl"
    refine rc_inr (rc_isiT (.bl b) "bool" ["list", "tuple"] false rfl (.bl b) (by decide +kernel) ?_)
    repeat walk_at "dl"
    refine rc_inl (rc_isi (.bl b) "bool" "dict" false rfl (.bl b) (by decide +kernel) ?_)
    repeat walk_at "dl"
    refine rc_inl (rc_isi (.bl b) "bool" "int" true rfl (.bl b) (by decide +kernel) ?_)
    repeat walk_at "dl"
    refine rc_inl (rc_isi (.bl b) "bool" "int" true rfl (.bl b) (by decide +kernel) ?_)
    repeat walk_at "dl"
    refine rc_inl (rc_isi (.bl b) "bool" "bool" true rfl (.bl b) (by decide +kernel) ?_)
    repeat walk_at "dl"
    refine rc_inl (rc_isi (.bl b) "bool" "bool" true rfl (.bl b) (by decide +kernel) ?_)
    repeat walk_at "dl"
    refine r2_eqB1 true rfl rfl ?_
    repeat walk_at "dl"
    exact r2_eqB1 b rfl rfl q
  · repeat walk_at "dl"
    refine ev_tup ?_
    repeat walk_at "dl"
    refine ⟨by decide, ?_⟩
    repeat walk_at "dl"
    refine rc_inr (rc_isiT (.str z) "str" ["list", "tuple"] false rfl (.str z) (by decide +kernel) ?_)
    repeat walk_at "dl"
    refine rc_inl (rc_isi (.str z) "str" "dict" false rfl (.str z) (by decide +kernel) ?_)
    repeat walk_at "dl"
    refine rc_inl (rc_isi (.str z) "str" "int" false rfl (.str z) (by decide +kernel) ?_)
    repeat walk_at "dl"
    refine r2_isN rfl ?_
    repeat walk_at "dl"
    rw [show isNonD (.str z) = false from rfl]
    repeat walk_at "dl"
    refine rc_inl (rc_isi (.str z) "str" "str" true rfl (.str z) (by decide +kernel) ?_)
    repeat walk_at "dl"
    refine rc_inl (rc_isi (.str z) "str" "str" true rfl (.str z) (by decide +kernel) ?_)
    repeat walk_at "dl"
    refine r2_eqS z z rfl rfl ?_
    rw [decide_eq_true rfl]
    exact q
  · repeat walk_at "dl"
    refine ev_tup ?_
    repeat walk_at "dl"
    refine ⟨by decide, ?_⟩
    repeat walk_at "dl"
    refine rc_inr (rc_isiT (.lst ds) "list" ["list", "tuple"] true rfl (.lst ds) (by decide +kernel) ?_)
    repeat walk_at "dl"
    refine rc_inl (rc_isi (.lst ds) "list" "list" true rfl (.lst ds) (by decide +kernel) ?_)
    repeat walk_at "dl"
    refine rc_inl (rc_isi (.lst ds) "list" "list" true rfl (.lst ds) (by decide +kernel) ?_)
    repeat walk_at "dl"
    refine r2_neB1 true rfl rfl ?_
    repeat walk_at "dl"
    refine rc_inl (rc_isi (.lst ds) "list" "tuple" false rfl (.lst ds) (by decide +kernel) ?_)
    repeat walk_at "dl"
    refine rc_inl (rc_isi (.lst ds) "list" "tuple" false rfl (.lst ds) (by decide +kernel) ?_)
    repeat walk_at "dl"
    refine r2_neB1 false rfl rfl ?_
    repeat walk_at "dl"
    refine u_len (.lst ds) ds.length rfl (ln_of (.lst _) rfl) ?_
    repeat walk_at "dl"
    refine u_len (.lst ds) ds.length rfl (ln_of (.lst _) rfl) ?_
    repeat walk_at "dl"
    refine r2_eqI1 _ rfl rfl ?_
    repeat walk_at "dl"
    refine ev_frz (en_map (ei_zipL ?_))
    repeat walk_at "dl"
    have hz : (zipD ds ds).length = ds.length := by rw [zipD_length]; omega
    refine ⟨.lst ds, .lst ds, ds, ds, rfl, .inl rfl, .inl rfl, by omega, ds.map fun _ => .bl true, by rw [List.length_map, hz], fun i d hx => ?_, ?_⟩
    · obtain ⟨x, y, hx1, hx2, rfl⟩ := zipD_get hx
      rw [hx1] at hx2
      cases hx2
      refine eg_tup rfl rfl (egs_cons (eg_name (by simp) (egs_cons (eg_name (by simp) (egs_nil ?_)))))
      repeat walk_at "dl"
      refine ⟨x, rfl, hi x (List.mem_of_getElem? hx1), ?_, rfl⟩
      rw [List.getElem?_map, hx1]
      rfl
    · repeat walk_at "dl"
      refine rc_all _ (ds.map fun _ => true) rfl ?_ ?_
      · have := LQ.lst (M := M) (ds.map fun _ => D.bl true)
        rw [List.map_map]
        exact this
      · have e : (ds.map fun _ => true).all id = true := by
          rw [List.all_map]
          exact List.all_eq_true.mpr fun _ _ => rfl
        rw [e]
        exact q
  · repeat walk_at "dl"
    refine ev_tup ?_
    repeat walk_at "dl"
    refine ⟨by decide, ?_⟩
    repeat walk_at "dl"
    refine rc_inr (rc_isiT (.tup ds) "tuple" ["list", "tuple"] true rfl (.tup ds) (by decide +kernel) ?_)
    repeat walk_at "dl"
    refine rc_inl (rc_isi (.tup ds) "tuple" "list" false rfl (.tup ds) (by decide +kernel) ?_)
    repeat walk_at "dl"
    refine rc_inl (rc_isi (.tup ds) "tuple" "list" false rfl (.tup ds) (by decide +kernel) ?_)
    repeat walk_at "dl"
    refine r2_neB1 false rfl rfl ?_
    repeat walk_at "dl"
    refine rc_inl (rc_isi (.tup ds) "tuple" "tuple" true rfl (.tup ds) (by decide +kernel) ?_)
    repeat walk_at "dl"
    refine rc_inl (rc_isi (.tup ds) "tuple" "tuple" true rfl (.tup ds) (by decide +kernel) ?_)
    repeat walk_at "dl"
    refine r2_neB1 true rfl rfl ?_
    repeat walk_at "dl"
    refine u_len (.tup ds) ds.length rfl (ln_of (.t _) rfl) ?_
    repeat walk_at "dl"
    refine u_len (.tup ds) ds.length rfl (ln_of (.t _) rfl) ?_
    repeat walk_at "dl"
    refine r2_eqI1 _ rfl rfl ?_
    repeat walk_at "dl"
    refine ev_frz (en_map (ei_zipT ?_))
    repeat walk_at "dl"
    have hz : (zipD ds ds).length = ds.length := by rw [zipD_length]; omega
    refine ⟨.tup ds, .tup ds, ds, ds, rfl, rfl, rfl, by omega, ds.map fun _ => .bl true, by rw [List.length_map, hz], fun i d hx => ?_, ?_⟩
    · obtain ⟨x, y, hx1, hx2, rfl⟩ := zipD_get hx
      rw [hx1] at hx2
      cases hx2
      refine eg_tup rfl rfl (egs_cons (eg_name (by simp) (egs_cons (eg_name (by simp) (egs_nil ?_)))))
      repeat walk_at "dl"
      refine ⟨x, rfl, hi x (List.mem_of_getElem? hx1), ?_, rfl⟩
      rw [List.getElem?_map, hx1]
      rfl
    · repeat walk_at "dl"
      refine rc_all _ (ds.map fun _ => true) rfl ?_ ?_
      · have := LQ.lst (M := M) (ds.map fun _ => D.bl true)
        rw [List.map_map]
        exact this
      · have e : (ds.map fun _ => true).all id = true := by
          rw [List.all_map]
          exact List.all_eq_true.mpr fun _ _ => rfl
        rw [e]
        exact q
/-- the promise at each depth -/
theorem ok_same (G : Glb K mg) : ∀ r : Nat, FnOk P w K mg base CX0 r G.f__law_same G.d__law_same ["found", "due"] (spOf K (S__law_same r))
  | 0 => by
    refine ⟨fun vs H Q E h => ?_, fun A outer s H args us vs Q E _ _ _ _ h => ?_⟩
    · obtain ⟨_, _, _, _, _, _, ⟨_, _, h, _⟩, _⟩ := h
      exact h.elim
    · obtain ⟨_, _, _, _, _, _, ⟨_, _, h, _⟩, _⟩ := h
      exact h.elim
  | r + 1 => ok__law_same G r (ok_same G r)
/-- the ways to choose, going on -/
theorem ch_next : ∀ n k : Nat, ch n (k + 1) * ((k : Int) + 1) = ch n k * ((n : Int) - k)
  | 0, 0 => by decide
  | 0, k + 1 => by rw [ch, ch]; simp
  | n + 1, 0 => by
    have h := ch_next n 0
    rw [ch_zero] at h
    rw [show ch (n + 1) (0 + 1) = ch n 0 + ch n (0 + 1) from rfl, ch_zero, ch_zero]
    omega
  | n + 1, k + 1 => by
    have h1 := ch_next n k
    have h2 := ch_next n (k + 1)
    rw [show ch (n + 1) (k + 1 + 1) = ch n (k + 1) + ch n (k + 1 + 1) from rfl, show ch (n + 1) (k + 1) = ch n k + ch n (k + 1) from rfl]
    grind
def S__law_wways : SpD := fun ds M Φ => ∃ n k : Nat, ds = [.int n, .int k] ∧ k ≤ 60 ∧ n ≤ 60 ∧ Φ (.int (ch n k)) M
include G in
theorem ok__law_wways : FnOk P w K mg base CX0 1 G.f__law_wways G.d__law_wways ["many", "some"] (spOf K S__law_wways) := by
  refine def_ok G.F__law_wways sc__law_wways (fun ds M Φ h => by obtain ⟨_, _, rfl, _⟩ := h; rfl) fun cdv A outer s H E hr => ⟨_, (pss_cons (ps_if (PW.pt (pw_or (pt_cmpR op_lt (pv 1) pe_int (nomark _)) (pw_or1 (pt_cmpR op_gt (pv 1) (pv 0) (nomark _)))))
(pss_one (ps_ret pe_int))
pss_nil)
(pss_cons (ps_set (i := 2) sc__law_wways.nd rfl (by first | exact .inl rfl | exact .inr rfl) pe_int)
(pss_cons (ps_for PassesOwn.never rfl (pi_range1 (by rfl) G.b_range (pa_cons (pv 1) pa_nil)) (pg_name (i := 3) sc__law_wways.nd rfl (by first | exact .inl rfl | exact .inr rfl))
(pss_one (ps_set (i := 2) sc__law_wways.nd rfl (by first | exact .inl rfl | exact .inr rfl) (pe_op op_fdiv (pe_op op_mulA (pv 2) (pe_op op_sub (pv 0) (pv 3))) (pe_op (op_addU (K := K) rfl) (pv 3) pe_int)))))
(pss_one (ps_ret (pv 2)))))), fun ds M Φ h => ?_⟩
  try dsimp only [cxOf, L2.Cx.nox, L2.Cx.wish]
  obtain ⟨n, k, rfl, hk, hn, q⟩ := h
  repeat walk_at "dl"
  refine dite_bl (fun z => absurd z (by omega)) (fun _ => ?_)
  repeat walk_at "dl"
  refine dite_bl (fun z => ?_) (fun hk2 => ?_)
  · repeat walk_at "dl"
    rw [ch_over n k (by omega)] at q
    exact q
  repeat walk_at "dl"
  refine zs_for [3] (ei_rng1 ?_)
  repeat walk_at "dl"
  refine ⟨by omega, by omega, fun i Γ' M' => Γ' = [some (.int n), some (.int k), some (.int (ch n i)), none] ∧ M' = M, ⟨_, .s (.s (.s (.n .nil))), by rw [ch_zero], rfl⟩, fun i d Γ' M' hx hC => ?_, ?_⟩
  · obtain ⟨rfl, rfl⟩ := hC
    obtain ⟨hi, rfl⟩ := rngD_get hx
    refine eg_name' ?_
    repeat walk_at "dl"
    refine r2_mul _ _ rfl rfl (.inr ⟨by omega, by omega⟩) ?_
    repeat walk_at "dl"
    refine r2_fdiv _ _ rfl rfl ⟨by omega, by omega⟩ ?_
    refine ⟨_, .s (.s (.s (.n .nil))), ?_, rfl⟩
    have e : ch n i * ((n : Int) - (0 + (i : Int))) / (0 + (i : Int) + 1) = ch n (i + 1) := by
      have h := ch_next n i
      rw [show (0 : Int) + (i : Int) = (i : Int) by omega, ← h]
      exact Int.mul_ediv_cancel _ (by omega)
    rw [e]
  · rintro Γ' M' ⟨rfl, rfl⟩
    rw [rngD_length]
    repeat walk_at "dl"
    exact q
def S__law_wproduct : SpD := fun ds M Φ => ∃ ns : List Int, ds = [LI ns] ∧ ns.length ≤ 1000 ∧ (∀ n ∈ ns, -(2 ^ 64) < n ∧ n < 2 ^ 64) ∧ Φ (.int (prodI ns)) M
include G in
theorem ok__law_wproduct : FnOk P w K mg base CX0 1 G.f__law_wproduct G.d__law_wproduct ["numbers"] (spOf K S__law_wproduct) := by
  refine def_ok G.F__law_wproduct sc__law_wproduct (fun ds M Φ h => by obtain ⟨_, rfl, _⟩ := h; rfl) fun cdv A outer s H E hr => ⟨_, (pss_cons (ps_set (i := 1) sc__law_wproduct.nd rfl (by first | exact .inl rfl | exact .inr rfl) pe_int)
(pss_cons (ps_for PassesOwn.never rfl (pi_src (K := K) rfl (pv 0)) (pg_name (i := 2) sc__law_wproduct.nd rfl (by first | exact .inl rfl | exact .inr rfl))
(pss_one (ps_set (i := 1) sc__law_wproduct.nd rfl (by first | exact .inl rfl | exact .inr rfl) (pe_op op_mulA (pv 1) (pv 2)))))
(pss_one (ps_ret (pv 1))))), fun ds M Φ h => ?_⟩
  try dsimp only [cxOf, L2.Cx.nox, L2.Cx.wish]
  obtain ⟨ns, rfl, hl, hn, q⟩ := h
  repeat walk_at "dl"
  refine zs_for [2] (ei_srcL ?_)
  repeat walk_at "dl"
  refine ⟨_, .inl rfl, fun i Γ' M' => Γ' = [none, some (.int (prodI (ns.take i))), none] ∧ M' = M, ⟨_, .n (.s (.n .nil)), rfl, rfl⟩, fun i d Γ' M' hx hC => ?_, ?_⟩
  · obtain ⟨rfl, rfl⟩ := hC
    rw [List.getElem?_map] at hx
    cases hn2 : ns[i]? with
    | none => rw [hn2] at hx; cases hx
    | some z =>
      rw [hn2] at hx
      cases hx
      refine eg_name' ?_
      repeat walk_at "dl"
      refine r2_mul _ _ rfl rfl (.inr (hn z (List.mem_of_getElem? hn2))) ?_
      refine ⟨_, .n (.s (.n .nil)), ?_, rfl⟩
      have e : prodI (ns.take (i + 1)) = prodI (ns.take i) * z := by
        unfold prodI
        rw [List.take_add_one, hn2, List.foldl_append]
        rfl
      rw [e]
  · rintro Γ' M' ⟨rfl, rfl⟩
    rw [List.length_map, List.take_length]
    repeat walk_at "dl"
    exact q
end
end K16


set_option Elab.async false
set_option linter.all false
set_option maxRecDepth 100000
set_option maxHeartbeats 4000000
namespace K16
open PySem PySem.Spec PyProof.Rows L2 StX DL
local macro_rules | `(tactic| walk_at "dl") => `(tactic| with_reducible first
  | refine zs_seq ?_ | refine zs_set ?_ | refine zs_drop ?_ | refine zs_ret ?_ | refine zs_if ?_ | refine zs_next ?_ | refine zs_par ?_
  | refine ev_int ?_ | refine ev_bl ?_ | refine ev_str ?_ | refine ev_non ?_ | refine ev_ty ?_
  | refine ev_op ?_ | refine ev_un ?_ | refine ev_cb ?_ | refine ev_call ?_ | refine ea_cons ?_ | refine ea_nil ?_
  | refine ev_andV ?_ | refine ev_orV ?_ | refine ev_notV ?_ | refine ev_ifx ?_ | refine ev_chain ?_ | refine ev_sl ?_ | refine eo_none ?_ | refine eo_some ?_
  | refine et_test ?_ | refine et_B ?_ | refine et_and ?_ | refine et_or ?_ | refine et_not ?_ | refine et_yes ?_
  | refine u_add _ _ rfl rfl ?_ | refine r2_sub _ _ rfl rfl ?_ | refine r2_lt _ _ rfl rfl ?_ | refine r2_le _ _ rfl rfl ?_ | refine r2_gt _ _ rfl rfl ?_ | refine r2_ge _ _ rfl rfl ?_
  | refine r1_neg _ rfl ?_ | refine ev_bm ?_ | refine ev_bm0 ?_ | refine ⟨dty0, ?_⟩ | refine ⟨dty1, ?_⟩ | refine ⟨dty2, ?_⟩ | refine ⟨_, SQ.lst _, ?_⟩ | refine ⟨_, sq0, ?_⟩ | refine ⟨_, sq1, ?_⟩ | refine ea_star ?_
  | refine ⟨_, rfl, ?_⟩ | refine iteT ?_ | refine iteF ?_ | refine iteNT ?_ | refine iteNF ?_)
local macro_rules | `(tactic| walk_at "dl") => `(tactic| ((with_reducible refine' ev_var ?hv ?_); (case hv => rfl)))
local macro_rules | `(tactic| walk_at "gle") => `(tactic| repeat (first | exact GLe.nil | apply GLe.s | apply GLe.n))
section
variable {P : Program} {w : World} {K : PySem.W.Frag} {mg : Str → Option Value} {base : Heap} (G : Glb K mg)
theorem rep_int (n : Nat) (z : Int) : (List.replicate n [D.int z]).flatten = (List.replicate n z).map .int := by
  induction n with
  | zero => rfl
  | succ n ih => rw [List.replicate_succ, List.flatten_cons, ih, List.replicate_succ, List.map_cons]; rfl
def Sums (ns : List Int) : Prop := 1 ≤ ns.length ∧ ns.length ≤ 41 ∧ ∀ n ∈ ns, -1000000000 ≤ n ∧ n ≤ 1000000000
def S_are_sums : SpD := fun ds M Φ => ∃ ns : List Int, ds = [LI ns] ∧ Sums ns ∧ Φ (.bl true) M
include G in
theorem ok_are_sums : FnOk P w K mg base CX0 3 G.f_are_sums G.d_are_sums ["thing"] (spOf K S_are_sums) := by
  refine def_ok G.F_are_sums sc_are_sums (fun ds M Φ h => by obtain ⟨_, rfl, _⟩ := h; rfl) fun cdv A outer s H E hr => ⟨_, (pss_one (ps_ret (pe_and (pe_call (ok_is_list G) (hr.mono (by first | exact Nat.le_refl _ | decide)) (by rfl) G.g_is_list G.F_is_list.kp G.B_is_list .nil pass0 (pa_cons (pv 0) pa_nil)) (pe_and (pe_chain op_le op_le pe_int (pe_callB (call_lenU (K := K) rfl) (by rfl) G.b_len boot_len (pa_cons (pv 0) pa_nil)) (pe_glob (v := .int 41) (by rfl) G.c_FORTY_ONE ⟨_, rfl⟩)) (pe_one (pe_callB (cr_allK (K := K) rfl rfl) (by rfl) G.b_all boot_all (pa_cons (pe_lc (own := [("one", 1)]) (g := (gName 1)) (tt := tYes) rfl sc_are_sums.nd (pi_src (K := K) rfl (pv 0)) (blkOk_by (N := n_are_sums) (sc := defScope s_are_sums) (by decide +kernel)) (fun _ _ _ _ _ => (pg_name (i := 1) sc_are_sums.nd rfl (by first | exact .inl rfl | exact .inr rfl))) (fun _ _ _ _ _ => pts_nil) (fun _ _ _ _ _ => (pe_call (ok_is_between G) (hr.mono (by first | exact Nat.le_refl _ | decide)) (by rfl) G.g_is_between G.F_is_between.kp G.B_is_between .nil pass0 (pa_cons (pv 1) (pa_cons (pe_un un_neg (pe_glob (v := .int 1000000000) (by rfl) G.c_MOST ⟨_, rfl⟩)) (pa_cons (pe_glob (v := .int 1000000000) (by rfl) G.c_MOST ⟨_, rfl⟩) pa_nil)))))) pa_nil))))))), fun ds M Φ h => ?_⟩
  try dsimp only [cxOf, L2.Cx.nox, L2.Cx.wish]
  obtain ⟨ns, rfl, hs, q⟩ := h
  obtain ⟨h1, h41, hb⟩ := hs
  repeat walk_at "dl"
  refine ⟨LI ns, "list", rfl, .lst _, rfl, ?_⟩
  repeat walk_at "dl"
  refine u_len (LI ns) ns.length rfl ln_LI ?_
  repeat walk_at "dl"
  refine dite_bl (fun _ => ?_) (fun z => absurd (show (1 : Int) ≤ (ns.length : Int) by omega) z)
  repeat walk_at "dl"
  rw [show decide ((ns.length : Int) ≤ 41) = true from decide_eq_true (by omega)]
  repeat walk_at "dl"
  refine ev_frz (en_map (ei_srcL ?_))
  repeat walk_at "dl"
  refine ⟨ns.map .int, .inl rfl, by rw [List.length_map]; omega, (ns.map fun _ => D.bl true), by rw [List.length_map, List.length_map], fun i d hx => eg_name' ?_, ?_⟩
  · rw [List.getElem?_map] at hx
    cases hn : ns[i]? with
    | none => rw [hn] at hx; cases hx
    | some n =>
      rw [hn] at hx
      cases hx
      repeat walk_at "dl"
      refine ⟨n, -1000000000, 1000000000, rfl, ?_, rfl⟩
      have := hb n (List.mem_of_getElem? hn)
      rw [List.getElem?_map, hn, decide_eq_true (show -1000000000 ≤ n ∧ n ≤ 1000000000 from this)]
      rfl
  · repeat walk_at "dl"
    refine rc_all (.lst (ns.map fun _ => D.bl true)) (ns.map fun _ => true) rfl ?_ ?_
    · have := LQ.lst (M := M) (ns.map fun _ => D.bl true)
      rw [List.map_map]
      exact this
    · have e : (ns.map fun _ => true).all id = true := by
        rw [List.all_map]
        exact List.all_eq_true.mpr fun _ _ => rfl
      rw [e]
      exact q
def S_choices_row : SpD := fun ds M Φ => ∃ n : Nat, ds = [.int n] ∧ n ≤ 60 ∧ Φ (LI (rowOf n)) M
include G in
theorem ok_choices_row : FnOk P w K mg base CX0 1 G.f_choices_row G.d_choices_row ["many"] (spOf K S_choices_row) := by
  refine def_ok G.F_choices_row sc_choices_row (fun ds M Φ h => by obtain ⟨_, rfl, _⟩ := h; rfl) fun cdv A outer s H E hr => ⟨_, (pss_cons (ps_set (i := 1) sc_choices_row.nd rfl (by first | exact .inl rfl | exact .inr rfl) (pe_lst (pa_cons pe_int pa_nil)))
(pss_cons (ps_for PassesOwn.never rfl (pi_range1 (by rfl) G.b_range (pa_cons (pv 0) pa_nil)) (pg_name (i := 2) sc_choices_row.nd rfl (by first | exact .inl rfl | exact .inr rfl))
(pss_one (ps_set (i := 1) sc_choices_row.nd rfl (by first | exact .inl rfl | exact .inr rfl) (pe_op (op_addU (K := K) rfl) (pe_op (op_addU (K := K) rfl) (pe_lst (pa_cons pe_int pa_nil)) (pe_lc (own := [("at", 3)]) (g := (gName 3)) (tt := tYes) rfl sc_choices_row.nd (pi_range1 (by rfl) G.b_range (pa_cons (pe_op op_sub (pe_callB (call_lenU (K := K) rfl) (by rfl) G.b_len boot_len (pa_cons (pv 1) pa_nil)) pe_int) pa_nil)) (blkOk_by (N := n_choices_row) (sc := defScope s_choices_row) (by decide +kernel)) (fun _ _ _ _ _ => (pg_name (i := 3) sc_choices_row.nd rfl (by first | exact .inl rfl | exact .inr rfl))) (fun _ _ _ _ _ => pts_nil) (fun _ _ _ _ _ => (pe_op (op_addU (K := K) rfl) (pe_ix (ixU (K := K) rfl hr.units) (pv 1) (pv 3) (fun _ _ => rfl)) (pe_ix (ixU (K := K) rfl hr.units) (pv 1) (pe_op (op_addU (K := K) rfl) (pv 3) pe_int) (fun _ _ => rfl)))))) (pe_lst (pa_cons pe_int pa_nil))))))
(pss_one (ps_ret (pv 1))))), fun ds M Φ h => ?_⟩
  try dsimp only [cxOf, L2.Cx.nox, L2.Cx.wish]
  obtain ⟨n, rfl, hn, q⟩ := h
  repeat walk_at "dl"
  refine ev_frz (en_lst ?_)
  repeat walk_at "dl"
  refine ⟨by decide, ?_⟩
  repeat walk_at "dl"
  refine zs_for [2] (ei_rng1 ?_)
  repeat walk_at "dl"
  refine ⟨by omega, by omega, fun i Γ' M' => Γ' = [none, some (LI (rowOf i)), none, none] ∧ M' = M, ⟨_, by walk_at "gle", rfl, rfl⟩, fun i d Γ' M' hx hC => ?_, ?_⟩
  · obtain ⟨rfl, rfl⟩ := hC
    obtain ⟨hi, rfl⟩ := rngD_get hx
    have hrl := rowOf_length i
    refine eg_name' ?_
    repeat walk_at "dl"
    refine ev_frz (en_lst ?_)
    repeat walk_at "dl"
    refine ⟨by decide, ?_⟩
    repeat walk_at "dl"
    refine ev_frz (en_map (ei_rng1 ?_))
    repeat walk_at "dl"
    refine u_len (LI (rowOf i)) (i + 1) rfl (ln_of (.lst _) (by rw [List.length_map, hrl])) ?_
    repeat walk_at "dl"
    have e2 : (((i + 1 : Nat) : Int) - 1).toNat = i := by omega
    refine ⟨by omega, by omega, by rw [rngD_length]; omega, ((List.range i).map fun k => ch i k + ch i (k + 1)).map .int, by rw [rngD_length, List.length_map, List.length_map, List.length_range, e2], fun k d hk => eg_name' ?_, ?_⟩
    · obtain ⟨hk2, rfl⟩ := rngD_get hk
      rw [e2] at hk2
      repeat walk_at "dl"
      refine u_ixL _ (.lst _) rfl (atI_of (k := k) (by omega) (by rw [List.getElem?_map, rowOf_get (by omega)]; rfl)) ?_
      repeat walk_at "dl"
      refine u_ixL _ (.lst _) rfl (atI_of (k := k + 1) (by omega) (by rw [List.getElem?_map, rowOf_get (by omega)]; rfl)) ?_
      repeat walk_at "dl"
      refine ⟨?_, rfl⟩
      rw [List.getElem?_map, List.getElem?_map, List.getElem?_range hk2]
      rfl
    · refine r2_frz (u_cat (.lst _) (.lst _) (by simp; omega) ?_)
      repeat walk_at "dl"
      refine ev_frz (en_lst ?_)
      repeat walk_at "dl"
      refine ⟨by decide, ?_⟩
      refine r2_frz (u_cat (.lst _) (.lst _) (by simp; omega) ?_)
      refine ⟨[none, some (.lst ((rowOf (i + 1)).map .int)), none, none], ?_, rfl, rfl⟩
      rw [rowOf_succ, List.map_append]
      walk_at "gle"
  · rintro Γ' M' ⟨rfl, rfl⟩
    rw [rngD_length, Int.toNat_natCast]
    repeat walk_at "dl"
    exact q
def S_orderings : SpD := fun ds M Φ => ∃ n : Nat, ds = [.int n] ∧ n ≤ 1000 ∧ Φ (.int (facI n)) M
include G in
theorem ok_orderings : FnOk P w K mg base CX0 1 G.f_orderings G.d_orderings ["many"] (spOf K S_orderings) := by
  refine def_ok G.F_orderings sc_orderings (fun ds M Φ h => by obtain ⟨_, rfl, _⟩ := h; rfl) fun cdv A outer s H E hr => ⟨_, (pss_cons (ps_set (i := 1) sc_orderings.nd rfl (by first | exact .inl rfl | exact .inr rfl) pe_int)
(pss_cons (ps_for PassesOwn.never rfl (pi_range2 (by rfl) G.b_range (pa_cons pe_int (pa_cons (pe_op (op_addU (K := K) rfl) (pv 0) pe_int) pa_nil))) (pg_name (i := 2) sc_orderings.nd rfl (by first | exact .inl rfl | exact .inr rfl))
(pss_one (ps_set (i := 1) sc_orderings.nd rfl (by first | exact .inl rfl | exact .inr rfl) (pe_op op_mulA (pv 1) (pv 2)))))
(pss_one (ps_ret (pv 1))))), fun ds M Φ h => ?_⟩
  try dsimp only [cxOf, L2.Cx.nox, L2.Cx.wish]
  obtain ⟨n, rfl, hn, q⟩ := h
  repeat walk_at "dl"
  refine zs_for [2] (ei_rng2 ?_)
  repeat walk_at "dl"
  refine ⟨2, (n : Int) + 1, rfl, by omega, fun i Γ' M' => Γ' = [none, some (.int (facI (i + 1))), none] ∧ M' = M, ⟨_, by walk_at "gle", rfl, rfl⟩, fun i d Γ' M' hx hC => ?_, ?_⟩
  · obtain ⟨rfl, rfl⟩ := hC
    obtain ⟨hi, rfl⟩ := rngD_get hx
    refine eg_name' ?_
    repeat walk_at "dl"
    refine r2_mul _ _ rfl rfl (.inr (by omega)) ?_
    have e : facI (i + 1) * (2 + (i : Int)) = facI (i + 1 + 1) := by
      rw [show (2 : Int) + (i : Int) = ((i + 1 : Nat) : Int) + 1 by omega]
      rfl
    rw [e]
    exact ⟨_, by walk_at "gle", rfl, rfl⟩
  · rintro Γ' M' ⟨rfl, rfl⟩
    rw [rngD_length]
    repeat walk_at "dl"
    have e : facI (((n : Int) + 1 - 2).toNat + 1) = facI n := by
      cases n with
      | zero => rfl
      | succ n => rw [show ((((n + 1 : Nat) : Int) + 1 - 2).toNat) = n by omega]
    rw [e]
    exact q
def S_told_out : SpD := fun ds M Φ => ∃ a : List Int, ds = [LI a] ∧ a.length ≤ 41 ∧ Φ (LI (tOut a)) M
include G in
theorem ok_told_out : FnOk P w K mg base CX0 2 G.f_told_out G.d_told_out ["numbers"] (spOf K S_told_out) := by
  refine def_ok G.F_told_out sc_told_out (fun ds M Φ h => by obtain ⟨_, rfl, _⟩ := h; rfl) fun cdv A outer s H E hr => ⟨_, (pss_cons (ps_set (i := 1) sc_told_out.nd rfl (by first | exact .inl rfl | exact .inr rfl) (pe_op op_mulA (pe_lst (pa_cons pe_int pa_nil)) (pe_callB (call_lenU (K := K) rfl) (by rfl) G.b_len boot_len (pa_cons (pv 0) pa_nil))))
(pss_cons (ps_for PassesOwn.never rfl (pi_enumK (K := K) rfl (by rfl) G.b_enumerate (pa_cons (pv 0) pa_nil)) (pg_tupK (K := K) rfl rfl (pgs_cons (pg_name (i := 2) sc_told_out.nd rfl (by first | exact .inl rfl | exact .inr rfl)) (pgs_cons (pg_name (i := 3) sc_told_out.nd rfl (by first | exact .inl rfl | exact .inr rfl)) pgs_nil)))
(pss_one (ps_for PassesOwn.never rfl (pi_enumK (K := K) rfl (by rfl) G.b_enumerate (pa_cons (pe_call (ok_choices_row G) (hr.mono (by first | exact Nat.le_refl _ | decide)) (by rfl) G.g_choices_row G.F_choices_row.kp G.B_choices_row .nil pass0 (pa_cons (pv 2) pa_nil)) pa_nil)) (pg_tupK (K := K) rfl rfl (pgs_cons (pg_name (i := 4) sc_told_out.nd rfl (by first | exact .inl rfl | exact .inr rfl)) (pgs_cons (pg_name (i := 5) sc_told_out.nd rfl (by first | exact .inl rfl | exact .inr rfl)) pgs_nil)))
(pss_one (ps_either (ps_asg (pe_op (op_addU (K := K) rfl) (pe_ix (ixU (K := K) rfl hr.units) (pv 1) (pv 4) (fun _ _ => rfl)) (pe_ifExp (pt_cmpR (op_eqK (K := K) rfl hr.units) (pe_op op_mod (pe_op op_sub (pv 2) (pv 4)) pe_int) pe_int (nomark _)) (pe_op op_mulA (pv 5) (pv 3)) (pe_op op_mulA (pe_un un_neg (pv 5)) (pv 3)))) (pg_sub (pv 1) (pv 4) set_list)) (ps_dput (ix1 hr.units) (pv 1) (pv 4) (pe_op (op_addU (K := K) rfl) (pe_ix (ixU (K := K) rfl hr.units) (pv 1) (pv 4) (fun _ _ => rfl)) (pe_ifExp (pt_cmpR (op_eqK (K := K) rfl hr.units) (pe_op op_mod (pe_op op_sub (pv 2) (pv 4)) pe_int) pe_int (nomark _)) (pe_op op_mulA (pv 5) (pv 3)) (pe_op op_mulA (pe_un un_neg (pv 5)) (pv 3)))) (by rfl)))))))
(pss_one (ps_ret (pv 1))))), fun ds M Φ h => ?_⟩
  try dsimp only [cxOf, L2.Cx.nox, L2.Cx.wish]
  obtain ⟨a, rfl, hl, q⟩ := h
  repeat walk_at "dl"
  refine ev_frz (en_lst ?_)
  repeat walk_at "dl"
  refine ⟨by decide, ?_⟩
  repeat walk_at "dl"
  refine u_len (LI a) a.length rfl ln_LI ?_
  refine r2_own (r2_rep (a.length : Int) (.lst _) rfl (by omega) (by simp; omega) fun p => ?_)
  rw [Int.toNat_natCast, rep_int, tabR_zero]
  repeat walk_at "dl"
  refine zs_for [2, 3] (ei_enum ?_)
  repeat walk_at "dl"
  refine ⟨LI a, a.map .int, rfl, .inl rfl, fun i Γ' M' => Γ' = [some (LI a), some (.ptr p), none, none, none, none] ∧ M' = (p, .lst ((tabR a.length fun q => sumN i fun m => outG a m q).map .int)) :: M, ⟨_, by walk_at "gle", rfl, rfl⟩, fun i d Γ' M' hx hC => ?_, ?_⟩
  · obtain ⟨rfl, rfl⟩ := hC
    obtain ⟨x, hx3, rfl⟩ := enumD_get hx
    have hi : i < a.length := by
      have := (List.getElem?_eq_some_iff.mp hx3).1
      rw [List.length_map] at this
      exact this
    rw [List.getElem?_map, getD_at hi] at hx3
    cases hx3
    refine eg_tup rfl rfl (egs_cons (eg_name (by simp) (egs_cons (eg_name (by simp) (egs_nil ?_)))))
    rw [← tabP_zero]
    refine zs_for [4, 5] (ei_enum ?_)
    repeat walk_at "dl"
    refine ⟨i, rfl, by omega, ?_⟩
    repeat walk_at "dl"
    refine ⟨LI (rowOf i), (rowOf i).map .int, rfl, .inl rfl, fun j Γ2 M2 => Γ2 = [some (LI a), some (.ptr p), some (.int (i : Int)), some (.int (a.getD i 0)), none, none] ∧ M2 = (p, .lst ((tabP a.length (outG a) i j).map .int)) :: M, ⟨_, by walk_at "gle", rfl, rfl⟩, fun j d Γ2 M2 hx2 hC => ?_, ?_⟩
    · obtain ⟨rfl, rfl⟩ := hC
      obtain ⟨x, hx3, rfl⟩ := enumD_get hx2
      have hj : j < i + 1 := by
        have := (List.getElem?_eq_some_iff.mp hx3).1
        rw [List.length_map, rowOf_length] at this
        exact this
      rw [List.getElem?_map, rowOf_get (by omega)] at hx3
      cases hx3
      have hc := ch_lt (n := i) (k := j) (by omega)
      have hs := tabP_next a.length (outG a) i j (by omega)
      have hget : ((tabP a.length (outG a) i j).map D.int)[j]? = some (.int ((tabP a.length (outG a) i j).getD j 0)) := by
        rw [List.getElem?_map, getD_at (by unfold tabP; rw [tabR_length]; omega)]
        rfl
      have hln : (tabP a.length (outG a) i j).length = a.length := by unfold tabP; exact tabR_length _ _
      refine eg_tup rfl rfl (egs_cons (eg_name (by simp) (egs_cons (eg_name (by simp) (egs_nil ?_)))))
      refine es_eL (zs_asg (own := []) ?_)
      repeat walk_at "dl"
      refine u_ixL _ lq0 rfl (atI_of (k := j) (by omega) hget) ?_
      repeat walk_at "dl"
      refine r2_mod _ _ rfl rfl (by decide) ?_
      repeat walk_at "dl"
      refine r2_eqI _ _ rfl rfl ?_
      repeat walk_at "dl"
      refine dite_bl (fun h1 => ?_) (fun h1 => ?_)
      · have hG : outG a i j = ch i j * a.getD i 0 := by unfold outG; rw [if_pos h1]
        rw [hG] at hs
        repeat walk_at "dl"
        refine r2_mul _ _ rfl rfl (.inl hc) ?_
        repeat walk_at "dl"
        refine eg_setL ?_
        repeat walk_at "dl"
        refine ⟨0, j, p, _, rfl, rfl, rfl, by rw [List.length_map, hln]; omega, ?_⟩
        refine ⟨_, by walk_at "gle", rfl, ?_⟩
        rw [← hs, List.map_set]
        rfl
      · have hG : outG a i j = -ch i j * a.getD i 0 := by unfold outG; rw [if_neg h1]
        rw [hG] at hs
        repeat walk_at "dl"
        refine r2_mul _ _ rfl rfl (.inl (by omega)) ?_
        repeat walk_at "dl"
        refine eg_setL ?_
        repeat walk_at "dl"
        refine ⟨0, j, p, _, rfl, rfl, rfl, by rw [List.length_map, hln]; omega, ?_⟩
        refine ⟨_, by walk_at "gle", rfl, ?_⟩
        rw [← hs, List.map_set]
        rfl
    · rintro Γ2 M2 ⟨rfl, rfl⟩
      rw [enumD_length, List.length_map, rowOf_length, tabP_end _ _ _ fun p hp => outG_over a hp]
      exact ⟨_, by walk_at "gle", rfl, rfl⟩
  · rintro Γ' M' ⟨rfl, rfl⟩
    rw [enumD_length, List.length_map]
    refine es_letgo 1 0 rfl rfl ?_
    repeat walk_at "dl"
    exact q
def S_told_in : SpD := fun ds M Φ => ∃ a : List Int, ds = [LI a] ∧ a.length ≤ 41 ∧ Φ (LI (tIn a)) M
include G in
theorem ok_told_in : FnOk P w K mg base CX0 2 G.f_told_in G.d_told_in ["numbers"] (spOf K S_told_in) := by
  refine def_ok G.F_told_in sc_told_in (fun ds M Φ h => by obtain ⟨_, rfl, _⟩ := h; rfl) fun cdv A outer s H E hr => ⟨_, (pss_cons (ps_set (i := 1) sc_told_in.nd rfl (by first | exact .inl rfl | exact .inr rfl) (pe_op op_mulA (pe_lst (pa_cons pe_int pa_nil)) (pe_callB (call_lenU (K := K) rfl) (by rfl) G.b_len boot_len (pa_cons (pv 0) pa_nil))))
(pss_cons (ps_for PassesOwn.never rfl (pi_enumK (K := K) rfl (by rfl) G.b_enumerate (pa_cons (pv 0) pa_nil)) (pg_tupK (K := K) rfl rfl (pgs_cons (pg_name (i := 2) sc_told_in.nd rfl (by first | exact .inl rfl | exact .inr rfl)) (pgs_cons (pg_name (i := 3) sc_told_in.nd rfl (by first | exact .inl rfl | exact .inr rfl)) pgs_nil)))
(pss_one (ps_for PassesOwn.never rfl (pi_enumK (K := K) rfl (by rfl) G.b_enumerate (pa_cons (pe_call (ok_choices_row G) (hr.mono (by first | exact Nat.le_refl _ | decide)) (by rfl) G.g_choices_row G.F_choices_row.kp G.B_choices_row .nil pass0 (pa_cons (pv 2) pa_nil)) pa_nil)) (pg_tupK (K := K) rfl rfl (pgs_cons (pg_name (i := 4) sc_told_in.nd rfl (by first | exact .inl rfl | exact .inr rfl)) (pgs_cons (pg_name (i := 5) sc_told_in.nd rfl (by first | exact .inl rfl | exact .inr rfl)) pgs_nil)))
(pss_one (ps_either (ps_asg (pe_op (op_addU (K := K) rfl) (pe_ix (ixU (K := K) rfl hr.units) (pv 1) (pv 4) (fun _ _ => rfl)) (pe_op op_mulA (pv 5) (pv 3))) (pg_sub (pv 1) (pv 4) set_list)) (ps_dput (ix1 hr.units) (pv 1) (pv 4) (pe_op (op_addU (K := K) rfl) (pe_ix (ixU (K := K) rfl hr.units) (pv 1) (pv 4) (fun _ _ => rfl)) (pe_op op_mulA (pv 5) (pv 3))) (by rfl)))))))
(pss_one (ps_ret (pv 1))))), fun ds M Φ h => ?_⟩
  try dsimp only [cxOf, L2.Cx.nox, L2.Cx.wish]
  obtain ⟨a, rfl, hl, q⟩ := h
  repeat walk_at "dl"
  refine ev_frz (en_lst ?_)
  repeat walk_at "dl"
  refine ⟨by decide, ?_⟩
  repeat walk_at "dl"
  refine u_len (LI a) a.length rfl ln_LI ?_
  refine r2_own (r2_rep (a.length : Int) (.lst _) rfl (by omega) (by simp; omega) fun p => ?_)
  rw [Int.toNat_natCast, rep_int, tabR_zero]
  repeat walk_at "dl"
  refine zs_for [2, 3] (ei_enum ?_)
  repeat walk_at "dl"
  refine ⟨LI a, a.map .int, rfl, .inl rfl, fun i Γ' M' => Γ' = [some (LI a), some (.ptr p), none, none, none, none] ∧ M' = (p, .lst ((tabR a.length fun q => sumN i fun m => inG a m q).map .int)) :: M, ⟨_, by walk_at "gle", rfl, rfl⟩, fun i d Γ' M' hx hC => ?_, ?_⟩
  · obtain ⟨rfl, rfl⟩ := hC
    obtain ⟨x, hx3, rfl⟩ := enumD_get hx
    have hi : i < a.length := by
      have := (List.getElem?_eq_some_iff.mp hx3).1
      rw [List.length_map] at this
      exact this
    rw [List.getElem?_map, getD_at hi] at hx3
    cases hx3
    refine eg_tup rfl rfl (egs_cons (eg_name (by simp) (egs_cons (eg_name (by simp) (egs_nil ?_)))))
    rw [← tabP_zero]
    refine zs_for [4, 5] (ei_enum ?_)
    repeat walk_at "dl"
    refine ⟨i, rfl, by omega, ?_⟩
    repeat walk_at "dl"
    refine ⟨LI (rowOf i), (rowOf i).map .int, rfl, .inl rfl, fun j Γ2 M2 => Γ2 = [some (LI a), some (.ptr p), some (.int (i : Int)), some (.int (a.getD i 0)), none, none] ∧ M2 = (p, .lst ((tabP a.length (inG a) i j).map .int)) :: M, ⟨_, by walk_at "gle", rfl, rfl⟩, fun j d Γ2 M2 hx2 hC => ?_, ?_⟩
    · obtain ⟨rfl, rfl⟩ := hC
      obtain ⟨x, hx3, rfl⟩ := enumD_get hx2
      have hj : j < i + 1 := by
        have := (List.getElem?_eq_some_iff.mp hx3).1
        rw [List.length_map, rowOf_length] at this
        exact this
      rw [List.getElem?_map, rowOf_get (by omega)] at hx3
      cases hx3
      have hc := ch_lt (n := i) (k := j) (by omega)
      have hs := tabP_next a.length (inG a) i j (by omega)
      have hget : ((tabP a.length (inG a) i j).map D.int)[j]? = some (.int ((tabP a.length (inG a) i j).getD j 0)) := by
        rw [List.getElem?_map, getD_at (by unfold tabP; rw [tabR_length]; omega)]
        rfl
      have hln : (tabP a.length (inG a) i j).length = a.length := by unfold tabP; exact tabR_length _ _
      refine eg_tup rfl rfl (egs_cons (eg_name (by simp) (egs_cons (eg_name (by simp) (egs_nil ?_)))))
      refine es_eL (zs_asg (own := []) ?_)
      repeat walk_at "dl"
      refine u_ixL _ lq0 rfl (atI_of (k := j) (by omega) hget) ?_
      repeat walk_at "dl"
      refine r2_mul _ _ rfl rfl (.inl hc) ?_
      repeat walk_at "dl"
      refine eg_setL ?_
      repeat walk_at "dl"
      refine ⟨0, j, p, _, rfl, rfl, rfl, by rw [List.length_map, hln]; omega, ?_⟩
      refine ⟨_, by walk_at "gle", rfl, ?_⟩
      rw [← hs, List.map_set]
      rfl
    · rintro Γ2 M2 ⟨rfl, rfl⟩
      rw [enumD_length, List.length_map, rowOf_length, tabP_end _ _ _ fun p hp => inG_over a hp]
      exact ⟨_, by walk_at "gle", rfl, rfl⟩
  · rintro Γ' M' ⟨rfl, rfl⟩
    rw [enumD_length, List.length_map]
    refine es_letgo 1 0 rfl rfl ?_
    repeat walk_at "dl"
    exact q
end
end K16


set_option Elab.async false
set_option linter.all false
set_option maxRecDepth 100000
set_option maxHeartbeats 4000000
namespace K16
open PySem PySem.Spec PyProof.Rows L2 StX DL
local macro_rules | `(tactic| walk_at "dl") => `(tactic| with_reducible first
  | refine zs_seq ?_ | refine zs_set ?_ | refine zs_drop ?_ | refine zs_ret ?_ | refine zs_if ?_ | refine zs_next ?_ | refine zs_par ?_
  | refine ev_int ?_ | refine ev_bl ?_ | refine ev_str ?_ | refine ev_non ?_ | refine ev_ty ?_
  | refine ev_op ?_ | refine ev_un ?_ | refine ev_cb ?_ | refine ev_call ?_ | refine ea_cons ?_ | refine ea_nil ?_
  | refine ev_andV ?_ | refine ev_orV ?_ | refine ev_notV ?_ | refine ev_ifx ?_ | refine ev_chain ?_ | refine ev_sl ?_ | refine eo_none ?_ | refine eo_some ?_
  | refine et_test ?_ | refine et_B ?_ | refine et_and ?_ | refine et_or ?_ | refine et_not ?_ | refine et_yes ?_
  | refine u_add _ _ rfl rfl ?_ | refine r2_sub _ _ rfl rfl ?_ | refine r2_lt _ _ rfl rfl ?_ | refine r2_le _ _ rfl rfl ?_ | refine r2_gt _ _ rfl rfl ?_ | refine r2_ge _ _ rfl rfl ?_
  | refine r1_neg _ rfl ?_ | refine ev_bm ?_ | refine ev_bm0 ?_ | refine ⟨dty0, ?_⟩ | refine ⟨dty1, ?_⟩ | refine ⟨dty2, ?_⟩ | refine ⟨_, SQ.lst _, ?_⟩ | refine ⟨_, sq0, ?_⟩ | refine ⟨_, sq1, ?_⟩ | refine ea_star ?_
  | refine ⟨_, rfl, ?_⟩ | refine iteT ?_ | refine iteF ?_ | refine iteNT ?_ | refine iteNF ?_)
local macro_rules | `(tactic| walk_at "dl") => `(tactic| ((with_reducible refine' ev_var ?hv ?_); (case hv => rfl)))
local macro_rules | `(tactic| walk_at "gle") => `(tactic| repeat (first | exact GLe.nil | apply GLe.s | apply GLe.n))
section
variable {P : Program} {w : World} {K : PySem.W.Frag} {mg : Str → Option Value} {base : Heap} (G : Glb K mg)
abbrev LL (hs : List (List Int)) : D := .lst (hs.map LI)
theorem mem_at {α : Type} {l : List α} {f : α → D} {i : Nat} {d : D} (h : (l.map f)[i]? = some d) : ∃ x, l[i]? = some x ∧ d = f x := by
  rw [List.getElem?_map] at h
  cases hx : l[i]? with
  | none => rw [hx] at h; cases h
  | some x => rw [hx] at h; exact ⟨x, rfl, (Option.some.inj h).symm⟩
theorem map_at {α β : Type} {l : List α} {g : α → β} {f : β → D} {i : Nat} {x : α} (h : l[i]? = some x) : ((l.map g).map f)[i]? = some (f (g x)) := by
  rw [List.getElem?_map, List.getElem?_map, h]
  rfl
theorem enum_at {a : List Int} {i : Nat} {d : D} (h : (enumD (a.map .int))[i]? = some d) : i < a.length ∧ d = .tup [.int (i : Int), .int (a.getD i 0)] := by
  obtain ⟨x, hx, rfl⟩ := enumD_get h
  have hi : i < a.length := by
    have := (List.getElem?_eq_some_iff.mp hx).1
    rw [List.length_map] at this
    exact this
  rw [List.getElem?_map, getD_at hi] at hx
  cases hx
  exact ⟨hi, rfl⟩
theorem all_true {ds : List D} {M : Ms} {Φ : D → Ms → Prop} (n : Nat) (h : Φ (.bl true) M) (e : ds = List.replicate n (.bl true)) : RC' K (rAll K) [.lst ds] M Φ := by
  subst e
  refine rc_all _ (List.replicate n true) rfl ?_ ?_
  · have := LQ.lst (M := M) (List.replicate n (D.bl true))
    rw [List.map_replicate]
    exact this
  · have e : (List.replicate n true).all id = true := by
      rw [List.all_replicate]
      cases n <;> rfl
    rw [e]
    exact h
def S_hits_of : SpD := fun ds M Φ => ∃ a : List Int, ds = [LI a] ∧ Sums a ∧ Φ (LI (tOut (facW a))) M
include G in
theorem ok_hits_of : FnOk P w K mg base CX0 4 G.f_hits_of G.d_hits_of ["rooks"] (spOf K S_hits_of) := by
  refine def_ok G.F_hits_of sc_hits_of (fun ds M Φ h => by obtain ⟨_, rfl, _⟩ := h; rfl) fun cdv A outer s H E hr => ⟨_, (pss_cons (ps_if (pt_not (pt_val (pe_call (ok_are_sums G) (hr.mono (by first | exact Nat.le_refl _ | decide)) (by rfl) G.g_are_sums G.F_are_sums.kp G.B_are_sums .nil pass0 (pa_cons (pv 0) pa_nil))))
(pss_one ps_never)
pss_nil)
(pss_cons (ps_set (i := 1) sc_hits_of.nd rfl (by first | exact .inl rfl | exact .inr rfl) (pe_op op_sub (pe_callB (call_lenU (K := K) rfl) (by rfl) G.b_len boot_len (pa_cons (pv 0) pa_nil)) pe_int))
(pss_one (ps_ret (pe_call (ok_told_out G) (hr.mono (by first | exact Nat.le_refl _ | decide)) (by rfl) G.g_told_out G.F_told_out.kp G.B_told_out .nil pass0 (pa_cons (pe_lc (own := [("size", 2), ("number", 3)]) (g := (gTup K 2 (gCons (gName 2) (gCons (gName 3) gNil)))) (tt := tYes) rfl sc_hits_of.nd (pi_enumK (K := K) rfl (by rfl) G.b_enumerate (pa_cons (pv 0) pa_nil)) (blkOk_by (N := n_hits_of) (sc := defScope s_hits_of) (by decide +kernel)) (fun _ _ _ _ _ => (pg_tupK (K := K) rfl rfl (pgs_cons (pg_name (i := 2) sc_hits_of.nd rfl (by first | exact .inl rfl | exact .inr rfl)) (pgs_cons (pg_name (i := 3) sc_hits_of.nd rfl (by first | exact .inl rfl | exact .inr rfl)) pgs_nil)))) (fun _ _ _ _ _ => pts_nil) (fun _ _ _ _ _ => (pe_op op_mulA (pv 3) (pe_call (ok_orderings G) (hr.mono (by first | exact Nat.le_refl _ | decide)) (by rfl) G.g_orderings G.F_orderings.kp G.B_orderings .nil pass0 (pa_cons (pe_op op_sub (pv 1) (pv 2)) pa_nil))))) pa_nil)))))), fun ds M Φ h => ?_⟩
  try dsimp only [cxOf, L2.Cx.nox, L2.Cx.wish]
  obtain ⟨a, rfl, hs, q⟩ := h
  have hl1 := hs.1
  have hl2 := hs.2.1
  repeat walk_at "dl"
  refine ⟨a, rfl, hs, ?_⟩
  repeat walk_at "dl"
  refine u_len (LI a) a.length rfl ln_LI ?_
  repeat walk_at "dl"
  refine ev_frz (en_map (ei_enum ?_))
  repeat walk_at "dl"
  refine ⟨LI a, a.map .int, rfl, .inl rfl, by rw [enumD_length, List.length_map]; omega, (facW a).map .int, by rw [enumD_length, List.length_map, List.length_map, facW_length], fun i d hx => ?_, ?_⟩
  · obtain ⟨hi, rfl⟩ := enum_at hx
    refine eg_tup rfl rfl (egs_cons (eg_name (by simp) (egs_cons (eg_name (by simp) (egs_nil ?_)))))
    repeat walk_at "dl"
    refine ⟨a.length - 1 - i, by rw [show (a.length : Int) - 1 - (i : Int) = ((a.length - 1 - i : Nat) : Int) by omega], by omega, ?_⟩
    have hb := hs.2.2 _ (getD_mem hi)
    refine r2_mul _ _ rfl rfl (.inl (by omega)) ?_
    refine ⟨?_, rfl⟩
    rw [facW, List.getElem?_map, List.getElem?_map, List.getElem?_range hi]
    rfl
  · repeat walk_at "dl"
    refine ⟨facW a, rfl, by rw [facW_length]; omega, q⟩
def upD (a : List Int) : D := match upR a with
  | some j => .tup [.str "no", .int (j : Int)]
  | none => .tup [.str "yes", LI ((List.range a.length).map (upQ a))]
def S_rooks_up : SpD := fun ds M Φ => ∃ a : List Int, ds = [LI a] ∧ Sums a ∧ a.length ≤ 13 ∧ Φ (upD a) M
include G in
theorem ok_rooks_up : FnOk P w K mg base CX0 4 G.f_rooks_up G.d_rooks_up ["hits"] (spOf K S_rooks_up) := by
  refine def_ok G.F_rooks_up sc_rooks_up (fun ds M Φ h => by obtain ⟨_, rfl, _⟩ := h; rfl) fun cdv A outer s H E hr => ⟨_, (pss_cons (ps_if (pt_not (pt_val (pe_call (ok_are_sums G) (hr.mono (by first | exact Nat.le_refl _ | decide)) (by rfl) G.g_are_sums G.F_are_sums.kp G.B_are_sums .nil pass0 (pa_cons (pv 0) pa_nil))))
(pss_one ps_never)
pss_nil)
(pss_cons (ps_set (i := 1) sc_rooks_up.nd rfl (by first | exact .inl rfl | exact .inr rfl) (pe_lst pa_nil))
(pss_cons (ps_for PassesOwn.never rfl (pi_enumK (K := K) rfl (by rfl) G.b_enumerate (pa_cons (pe_call (ok_told_in G) (hr.mono (by first | exact Nat.le_refl _ | decide)) (by rfl) G.g_told_in G.F_told_in.kp G.B_told_in .nil pass0 (pa_cons (pv 0) pa_nil)) pa_nil)) (pg_tupK (K := K) rfl rfl (pgs_cons (pg_name (i := 2) sc_rooks_up.nd rfl (by first | exact .inl rfl | exact .inr rfl)) (pgs_cons (pg_name (i := 3) sc_rooks_up.nd rfl (by first | exact .inl rfl | exact .inr rfl)) pgs_nil)))
(pss_cons (ps_set (i := 4) sc_rooks_up.nd rfl (by first | exact .inl rfl | exact .inr rfl) (pe_call (ok_orderings G) (hr.mono (by first | exact Nat.le_refl _ | decide)) (by rfl) G.g_orderings G.F_orderings.kp G.B_orderings .nil pass0 (pa_cons (pe_op op_sub (pe_op op_sub (pe_callB (call_lenU (K := K) rfl) (by rfl) G.b_len boot_len (pa_cons (pv 0) pa_nil)) pe_int) (pv 2)) pa_nil)))
(pss_cons (ps_if (pt_cmpR (op_neK (K := K) rfl hr.units) (pe_op op_mod (pv 3) (pv 4)) pe_int (nomark _))
(pss_one (ps_ret (pe_tup (pa_cons pe_str (pa_cons (pv 2) pa_nil)))))
pss_nil)
(pss_one (ps_expr (pe_bmK (K := K) rfl PySem.F.plainAttrs_list PySem.F.slot_list_append PySem.F.type_list_append mt_append (pv 1) (pa_cons (pe_op op_fdiv (pv 3) (pv 4)) pa_nil)))))))
(pss_one (ps_ret (pe_tup (pa_cons pe_str (pa_cons (pv 1) pa_nil)))))))), fun ds M Φ h => ?_⟩
  try dsimp only [cxOf, L2.Cx.nox, L2.Cx.wish]
  obtain ⟨a, rfl, hs, h13, q⟩ := h
  have hl1 := hs.1
  repeat walk_at "dl"
  refine ⟨a, rfl, hs, ?_⟩
  repeat walk_at "dl"
  refine ev_own (en_lst ?_)
  repeat walk_at "dl"
  refine ⟨by decide, fun p => ?_⟩
  repeat walk_at "dl"
  refine zs_for [2, 3] (ei_enum ?_)
  repeat walk_at "dl"
  refine ⟨a, rfl, by omega, ?_⟩
  repeat walk_at "dl"
  refine ⟨LI (tIn a), (tIn a).map .int, rfl, .inl rfl, fun i Γ' M' => Γ' = [some (LI a), some (.ptr p), none, none, none] ∧ M' = (p, .lst (((List.range i).map (upQ a)).map .int)) :: M ∧ ∀ j, j < i → upBad a j = false, ⟨_, by walk_at "gle", rfl, rfl, fun j hj => absurd hj (by omega)⟩, fun i d Γ' M' hx hC => ?_, ?_⟩
  · obtain ⟨rfl, rfl, hbad⟩ := hC
    obtain ⟨hi, rfl⟩ := enum_at hx
    rw [tIn_length] at hi
    refine eg_tup rfl rfl (egs_cons (eg_name (by simp) (egs_cons (eg_name (by simp) (egs_nil ?_)))))
    repeat walk_at "dl"
    refine u_len (LI a) a.length rfl ln_LI ?_
    repeat walk_at "dl"
    have hf := facI_bd (n := a.length - 1 - i) (by omega)
    refine ⟨a.length - 1 - i, by rw [show (a.length : Int) - 1 - (i : Int) = ((a.length - 1 - i : Nat) : Int) by omega], by omega, ?_⟩
    repeat walk_at "dl"
    refine r2_mod _ _ rfl rfl hf.1 ?_
    repeat walk_at "dl"
    refine r2_neI _ _ rfl rfl ?_
    repeat walk_at "dl"
    refine ndite_bl (fun hb => ?_) (fun hb => ?_)
    · refine es_letgo 1 0 rfl rfl ?_
      repeat walk_at "dl"
      refine ev_tup ?_
      repeat walk_at "dl"
      refine ⟨by simp, ?_⟩
      have e : upR a = some i := find_first hi (by unfold upBad; rw [decide_eq_false hb]; rfl) hbad
      have q' := q
      unfold upD at q'
      rw [e] at q'
      exact q'
    · repeat walk_at "dl"
      refine r2_fdiv _ _ rfl rfl hf ?_
      repeat walk_at "dl"
      refine rm_append (ds := ((List.range i).map (upQ a)).map .int) 0 _ rfl rfl rfl (by rw [List.length_map, List.length_map, List.length_range]; omega) ?_
      refine ⟨_, by walk_at "gle", rfl, ?_, fun j hj => ?_⟩
      · rw [List.range_succ, List.map_append, List.map_append]
        rfl
      · by_cases e : j = i
        · subst e
          unfold upBad
          rw [decide_eq_true hb]
          rfl
        · exact hbad j (by omega)
  · rintro Γ' M' ⟨rfl, rfl, hbad⟩
    rw [enumD_length, List.length_map, tIn_length] at hbad ⊢
    refine es_letgo 1 0 rfl rfl ?_
    repeat walk_at "dl"
    refine ev_tup ?_
    repeat walk_at "dl"
    refine ⟨by simp, ?_⟩
    have e : upR a = none := find_no hbad
    unfold upD at q
    rw [e] at q
    exact q
def S_is_row : SpD := fun ds M Φ => ∃ (n : Nat) (row : List Int), ds = [.int n, LI row] ∧ RowOk n row ∧ Φ (.bl true) M
include G in
theorem ok_is_row : FnOk P w K mg base CX0 3 G.f_is_row G.d_is_row ["many", "thing"] (spOf K S_is_row) := by
  refine def_ok G.F_is_row sc_is_row (fun ds M Φ h => by obtain ⟨_, _, rfl, _⟩ := h; rfl) fun cdv A outer s H E hr => ⟨_, (pss_cons (ps_if (PW.pt (pw_or (pt_not (pt_val (pe_call (ok_is_list G) (hr.mono (by first | exact Nat.le_refl _ | decide)) (by rfl) G.g_is_list G.F_is_list.kp G.B_is_list .nil pass0 (pa_cons (pv 1) pa_nil)))) (pw_or1 (pt_not (pt_val (pe_callB (cr_allK (K := K) rfl rfl) (by rfl) G.b_all boot_all (pa_cons (pe_lc (own := [("place", 3)]) (g := (gName 3)) (tt := tYes) rfl sc_is_row.nd (pi_src (K := K) rfl (pv 1)) (blkOk_by (N := n_is_row) (sc := defScope s_is_row) (by decide +kernel)) (fun _ _ _ _ _ => (pg_name (i := 3) sc_is_row.nd rfl (by first | exact .inl rfl | exact .inr rfl))) (fun _ _ _ _ _ => pts_nil) (fun _ _ _ _ _ => (pe_call (ok_is_between G) (hr.mono (by first | exact Nat.le_refl _ | decide)) (by rfl) G.g_is_between G.F_is_between.kp G.B_is_between .nil pass0 (pa_cons (pv 3) (pa_cons pe_int (pa_cons (pe_op op_sub (pv 0) pe_int) pa_nil)))))) pa_nil)))))))
(pss_one ps_never)
pss_nil)
(pss_one (ps_ret (pe_callB (cr_allK (K := K) rfl rfl) (by rfl) G.b_all boot_all (pa_cons (pe_lc (own := [("at", 2)]) (g := (gName 2)) (tt := tYes) rfl sc_is_row.nd (pi_range1 (by rfl) G.b_range (pa_cons (pe_op op_sub (pe_callB (call_lenU (K := K) rfl) (by rfl) G.b_len boot_len (pa_cons (pv 1) pa_nil)) pe_int) pa_nil)) (blkOk_by (N := n_is_row) (sc := defScope s_is_row) (by decide +kernel)) (fun _ _ _ _ _ => (pg_name (i := 2) sc_is_row.nd rfl (by first | exact .inl rfl | exact .inr rfl))) (fun _ _ _ _ _ => pts_nil) (fun _ _ _ _ _ => (pe_cmpR op_lt (pe_ix (ixU (K := K) rfl hr.units) (pv 1) (pv 2) (fun _ _ => rfl)) (pe_ix (ixU (K := K) rfl hr.units) (pv 1) (pe_op (op_addU (K := K) rfl) (pv 2) pe_int) (fun _ _ => rfl)) (nomark _)))) pa_nil))))), fun ds M Φ h => ?_⟩
  try dsimp only [cxOf, L2.Cx.nox, L2.Cx.wish]
  obtain ⟨n, row, rfl, ⟨hl, hb, hp⟩, q⟩ := h
  repeat walk_at "dl"
  refine ⟨LI row, "list", rfl, .lst _, rfl, ?_⟩
  repeat walk_at "dl"
  refine ev_frz (en_map (ei_srcL ?_))
  repeat walk_at "dl"
  refine ⟨row.map .int, .inl rfl, by rw [List.length_map]; omega, List.replicate row.length (D.bl true), by rw [List.length_map, List.length_replicate], fun i d hx => eg_name' ?_, ?_⟩
  · obtain ⟨x, hx2, rfl⟩ := mem_at hx
    repeat walk_at "dl"
    refine ⟨x, 0, (n : Int) - 1, rfl, ?_, rfl⟩
    rw [decide_eq_true (hb x (List.mem_of_getElem? hx2)), List.getElem?_replicate, if_pos (List.getElem?_eq_some_iff.mp hx2).1]
  · repeat walk_at "dl"
    refine all_true row.length ?_ rfl
    repeat walk_at "dl"
    refine ev_frz (en_map (ei_rng1 ?_))
    repeat walk_at "dl"
    refine u_len (LI row) row.length rfl ln_LI ?_
    repeat walk_at "dl"
    refine ⟨by omega, by omega, by rw [rngD_length]; omega, List.replicate (row.length - 1) (D.bl true), by rw [rngD_length, List.length_replicate]; omega, fun i d hx => eg_name' ?_, ?_⟩
    · obtain ⟨hi, rfl⟩ := rngD_get hx
      repeat walk_at "dl"
      refine u_ixL _ (.lst _) rfl (atI_of (k := i) (by omega) (by rw [List.getElem?_map, getD_at (by omega)]; rfl)) ?_
      repeat walk_at "dl"
      refine u_ixL _ (.lst _) rfl (atI_of (k := i + 1) (by omega) (by rw [List.getElem?_map, getD_at (by omega)]; rfl)) ?_
      repeat walk_at "dl"
      refine ⟨?_, rfl⟩
      have h1 : i < row.length := by omega
      have h2 : i + 1 < row.length := by omega
      have hlt : row.getD i 0 < row.getD (i + 1) 0 := by
        rw [List.getD_eq_getElem?_getD, List.getD_eq_getElem?_getD, List.getElem?_eq_getElem h1, List.getElem?_eq_getElem h2]
        exact List.pairwise_iff_getElem.mp hp i (i + 1) h1 h2 (by omega)
      rw [decide_eq_true hlt, List.getElem?_replicate, if_pos (by omega)]
    · repeat walk_at "dl"
      exact all_true (row.length - 1) q rfl
def S_is_board : SpD := fun ds M Φ => ∃ b : List (List Int), ds = [LL b] ∧ BoardOk b ∧ Φ (.bl true) M
include G in
theorem ok_is_board : FnOk P w K mg base CX0 4 G.f_is_board G.d_is_board ["thing"] (spOf K S_is_board) := by
  refine def_ok G.F_is_board sc_is_board (fun ds M Φ h => by obtain ⟨_, rfl, _⟩ := h; rfl) fun cdv A outer s H E hr => ⟨_, (pss_one (ps_ret (pe_and (pe_call (ok_is_list G) (hr.mono (by first | exact Nat.le_refl _ | decide)) (by rfl) G.g_is_list G.F_is_list.kp G.B_is_list .nil pass0 (pa_cons (pv 0) pa_nil)) (pe_and (pe_chain op_le op_le pe_int (pe_callB (call_lenU (K := K) rfl) (by rfl) G.b_len boot_len (pa_cons (pv 0) pa_nil)) (pe_glob (v := .int 64) (by rfl) G.c_SIXTY_FOUR ⟨_, rfl⟩)) (pe_one (pe_callB (cr_allK (K := K) rfl rfl) (by rfl) G.b_all boot_all (pa_cons (pe_lc (own := [("row", 1)]) (g := (gName 1)) (tt := tYes) rfl sc_is_board.nd (pi_src (K := K) rfl (pv 0)) (blkOk_by (N := n_is_board) (sc := defScope s_is_board) (by decide +kernel)) (fun _ _ _ _ _ => (pg_name (i := 1) sc_is_board.nd rfl (by first | exact .inl rfl | exact .inr rfl))) (fun _ _ _ _ _ => pts_nil) (fun _ _ _ _ _ => (pe_call (ok_is_row G) (hr.mono (by first | exact Nat.le_refl _ | decide)) (by rfl) G.g_is_row G.F_is_row.kp G.B_is_row .nil pass0 (pa_cons (pe_callB (call_lenU (K := K) rfl) (by rfl) G.b_len boot_len (pa_cons (pv 0) pa_nil)) (pa_cons (pv 1) pa_nil))))) pa_nil))))))), fun ds M Φ h => ?_⟩
  try dsimp only [cxOf, L2.Cx.nox, L2.Cx.wish]
  obtain ⟨b, rfl, ⟨h1, h64, hr⟩, q⟩ := h
  repeat walk_at "dl"
  refine ⟨LL b, "list", rfl, .lst _, rfl, ?_⟩
  repeat walk_at "dl"
  refine u_len (LL b) b.length rfl (ln_of (.lst _) (by rw [List.length_map])) ?_
  repeat walk_at "dl"
  refine dite_bl (fun _ => ?_) (fun z => absurd (show (1 : Int) ≤ (b.length : Int) by omega) z)
  repeat walk_at "dl"
  rw [show decide ((b.length : Int) ≤ 64) = true from decide_eq_true (by omega)]
  repeat walk_at "dl"
  refine ev_frz (en_map (ei_srcL ?_))
  repeat walk_at "dl"
  refine ⟨b.map LI, .inl rfl, by rw [List.length_map]; omega, List.replicate b.length (D.bl true), by rw [List.length_map, List.length_replicate], fun i d hx => eg_name' ?_, ?_⟩
  · obtain ⟨x, hx2, rfl⟩ := mem_at hx
    repeat walk_at "dl"
    refine u_len (LL b) b.length rfl (ln_of (.lst _) (by rw [List.length_map])) ?_
    repeat walk_at "dl"
    refine ⟨b.length, x, rfl, hr x (List.mem_of_getElem? hx2), ?_, rfl⟩
    rw [List.getElem?_replicate, if_pos (List.getElem?_eq_some_iff.mp hx2).1]
  · repeat walk_at "dl"
    exact all_true b.length q rfl
def S_check_board : SpD := fun ds M Φ => ∃ b : List (List Int), ds = [LL b] ∧ BoardOk b ∧ Φ .non M
include G in
theorem ok_check_board : FnOk P w K mg base CX0 5 G.f_check_board G.d_check_board ["board"] (spOf K S_check_board) := by
  refine def_ok G.F_check_board sc_check_board (fun ds M Φ h => by obtain ⟨_, rfl, _⟩ := h; rfl) fun cdv A outer s H E hr => ⟨_, (pss_one (ps_if (pt_not (pt_val (pe_call (ok_is_board G) (hr.mono (by first | exact Nat.le_refl _ | decide)) (by rfl) G.g_is_board G.F_is_board.kp G.B_is_board .nil pass0 (pa_cons (pv 0) pa_nil))))
(pss_one ps_never)
pss_nil)), fun ds M Φ h => ?_⟩
  try dsimp only [cxOf, L2.Cx.nox, L2.Cx.wish]
  obtain ⟨b, rfl, hb, q⟩ := h
  repeat walk_at "dl"
  refine ⟨b, rfl, hb, ?_⟩
  repeat walk_at "dl"
  exact q
end
end K16


set_option Elab.async false
set_option linter.all false
set_option maxRecDepth 100000
set_option maxHeartbeats 4000000
namespace K16
open PySem PySem.Spec PyProof.Rows L2 StX DL
local macro_rules | `(tactic| walk_at "dl") => `(tactic| with_reducible first
  | refine zs_seq ?_ | refine zs_set ?_ | refine zs_drop ?_ | refine zs_ret ?_ | refine zs_if ?_ | refine zs_next ?_ | refine zs_par ?_
  | refine ev_int ?_ | refine ev_bl ?_ | refine ev_str ?_ | refine ev_non ?_ | refine ev_ty ?_
  | refine ev_op ?_ | refine ev_un ?_ | refine ev_cb ?_ | refine ev_call ?_ | refine ea_cons ?_ | refine ea_nil ?_
  | refine ev_andV ?_ | refine ev_orV ?_ | refine ev_notV ?_ | refine ev_ifx ?_ | refine ev_chain ?_ | refine ev_sl ?_ | refine eo_none ?_ | refine eo_some ?_
  | refine et_test ?_ | refine et_B ?_ | refine et_and ?_ | refine et_or ?_ | refine et_not ?_ | refine et_yes ?_
  | refine u_add _ _ rfl rfl ?_ | refine r2_sub _ _ rfl rfl ?_ | refine r2_lt _ _ rfl rfl ?_ | refine r2_le _ _ rfl rfl ?_ | refine r2_gt _ _ rfl rfl ?_ | refine r2_ge _ _ rfl rfl ?_
  | refine r1_neg _ rfl ?_ | refine ev_bm ?_ | refine ev_bm0 ?_ | refine ⟨dty0, ?_⟩ | refine ⟨dty1, ?_⟩ | refine ⟨dty2, ?_⟩ | refine ⟨_, SQ.lst _, ?_⟩ | refine ⟨_, sq0, ?_⟩ | refine ⟨_, sq1, ?_⟩ | refine ea_star ?_
  | refine ⟨_, rfl, ?_⟩ | refine iteT ?_ | refine iteF ?_ | refine iteNT ?_ | refine iteNF ?_)
local macro_rules | `(tactic| walk_at "dl") => `(tactic| ((with_reducible refine' ev_var ?hv ?_); (case hv => rfl)))
local macro_rules | `(tactic| walk_at "gle") => `(tactic| repeat (first | exact GLe.nil | apply GLe.s | apply GLe.n))
section
variable {P : Program} {w : World} {K : PySem.W.Frag} {mg : Str → Option Value} {base : Heap} (G : Glb K mg)
def frD (row : List Int) : D → Option D
  | .int x => if x ∈ row then none else some (.int x)
  | _ => none
theorem frD_int (row : List Int) (x : Int) : frD row (.int x) = if x ∈ row then none else some (.int x) := rfl
theorem filterMap_fr (n : Nat) (row : List Int) : (rngD 0 n).filterMap (frD row) = (freeRow n row).map .int := by
  unfold freeRow rangeZ rngD
  induction (List.range n) with
  | nil => rfl
  | cons k r ih =>
    rw [List.map_cons, List.map_cons, List.filterMap_cons, List.filter_cons, ih, frD_int]
    by_cases h : (0 : Int) + (k : Int) ∈ row
    · rw [if_pos h, decide_eq_true h]; rfl
    · rw [if_neg h, decide_eq_false h]; rfl
theorem erase_perm {α : Type} {l : List α} {k : Nat} (h : k < l.length) : (l[k] :: l.eraseIdx k).Perm l := by
  rw [List.eraseIdx_eq_take_drop_succ]
  have e : l = l.take k ++ l[k] :: l.drop (k + 1) := by rw [← List.drop_eq_getElem_cons h, List.take_append_drop]
  conv => rhs; rw [e]
  exact List.perm_middle.symm
theorem freeRow_length (n : Nat) (row : List Int) : (freeRow n row).length ≤ n := by
  unfold freeRow
  exact Nat.le_trans (List.length_filter_le _ _) (Nat.le_of_eq (rangeZ_length _ _))
def S_free_places : SpD := fun ds M Φ => ∃ b : List (List Int), ds = [LL b] ∧ b.length ≤ 1000 ∧ (∀ row ∈ b, row.length ≤ 1000) ∧ Φ (LL (freeB b)) M
include G in
theorem ok_free_places : FnOk P w K mg base CX0 1 G.f_free_places G.d_free_places ["board"] (spOf K S_free_places) := by
  refine def_ok G.F_free_places sc_free_places (fun ds M Φ h => by obtain ⟨_, rfl, _⟩ := h; rfl) fun cdv A outer s H E hr => ⟨_, (pss_cons (ps_set (i := 1) sc_free_places.nd rfl (by first | exact .inl rfl | exact .inr rfl) (pe_lst pa_nil))
(pss_cons (ps_for PassesOwn.never rfl (pi_src (K := K) rfl (pv 0)) (pg_name (i := 2) sc_free_places.nd rfl (by first | exact .inl rfl | exact .inr rfl))
(pss_cons (ps_set (i := 3) sc_free_places.nd rfl (by first | exact .inl rfl | exact .inr rfl) (pe_callTy (call_dictU (K := K) (P := P) (w := w) rfl rfl rfl rfl hr.units) (by rfl) G.b_dict boot_dict (pa_cons (pe_lc (own := [("place", 4)]) (g := (gName 4)) (tt := tYes) rfl sc_free_places.nd (pi_src (K := K) rfl (pv 2)) (blkOk_by (N := n_free_places) (sc := defScope s_free_places) (by decide +kernel)) (fun _ _ _ _ _ => (pg_name (i := 4) sc_free_places.nd rfl (by first | exact .inl rfl | exact .inr rfl))) (fun _ _ _ _ _ => pts_nil) (fun _ _ _ _ _ => (pe_tup (pa_cons (pv 4) (pa_cons pe_int pa_nil))))) pa_nil)))
(pss_one (ps_expr (pe_bmK (K := K) rfl PySem.F.plainAttrs_list PySem.F.slot_list_append PySem.F.type_list_append mt_append (pv 1) (pa_cons (pe_lc (own := [("place", 4)]) (g := (gName 4)) rfl sc_free_places.nd (pi_range1 (by rfl) G.b_range (pa_cons (pe_callB (call_lenU (K := K) rfl) (by rfl) G.b_len boot_len (pa_cons (pv 0) pa_nil)) pa_nil)) (blkOk_by (N := n_free_places) (sc := defScope s_free_places) (by decide +kernel)) (fun _ _ _ _ _ => (pg_name (i := 4) sc_free_places.nd rfl (by first | exact .inl rfl | exact .inr rfl))) (fun _ _ _ _ _ => (pts_one (pt_cmpR (op_notInU (K := K) rfl hr.units) (pv 4) (pv 3) (by rfl)))) (fun _ _ _ _ _ => (pv 4))) pa_nil))))))
(pss_one (ps_ret (pv 1))))), fun ds M Φ h => ?_⟩
  try dsimp only [cxOf, L2.Cx.nox, L2.Cx.wish]
  obtain ⟨b, rfl, hl, hr, q⟩ := h
  repeat walk_at "dl"
  refine ev_own (en_lst ?_)
  repeat walk_at "dl"
  refine ⟨by decide, fun p => ?_⟩
  repeat walk_at "dl"
  refine zs_for [2] (ei_srcL ?_)
  repeat walk_at "dl"
  refine ⟨b.map LI, .inl rfl, fun i Γ' M' => Γ' = [some (LL b), some (.ptr p), none, none, none] ∧ M' = (p, .lst (((b.take i).map (freeRow b.length)).map LI)) :: M, ⟨_, by walk_at "gle", rfl, rfl⟩, fun i d Γ' M' hx hC => ?_, ?_⟩
  · obtain ⟨rfl, rfl⟩ := hC
    obtain ⟨row, hx2, rfl⟩ := mem_at hx
    have hrl := hr row (List.mem_of_getElem? hx2)
    refine eg_name' ?_
    repeat walk_at "dl"
    refine ev_frz (en_map (ei_srcL ?_))
    repeat walk_at "dl"
    refine ⟨row.map .int, .inl rfl, by rw [List.length_map]; omega, pairK (row.map fun x => ((Sum.inl x : Key), D.int 1)), by unfold pairK; rw [List.length_map, List.length_map, List.length_map], fun k d hk => eg_name' ?_, ?_⟩
    · obtain ⟨x, hx3, rfl⟩ := mem_at hk
      refine ev_tup ?_
      repeat walk_at "dl"
      refine ⟨by simp, ?_, rfl⟩
      unfold pairK
      rw [List.map_map, List.getElem?_map, hx3]
      rfl
    · repeat walk_at "dl"
      refine rc_inl (rc_inl (rc_frz (rc_dictP (kvs := row.map fun x => ((Sum.inl x : Key), D.int 1)) _ rfl (.lst _) ?_)))
      repeat walk_at "dl"
      refine ev_frz (en_flt (ei_rng1 ?_))
      repeat walk_at "dl"
      refine u_len (LL b) b.length rfl (ln_of (.lst _) (by rw [List.length_map])) ?_
      repeat walk_at "dl"
      refine ⟨by omega, by omega, by rw [rngD_length]; omega, frD row, fun k d hk => eg_name' ?_, ?_⟩
      · obtain ⟨hk1, rfl⟩ := rngD_get hk
        repeat walk_at "dl"
        refine u_niD (.i (.dat _) rfl) ?_
        repeat walk_at "dl"
        have hm : (valD (mergeD [] (row.map fun x => ((Sum.inl x : Key), D.int 1))) (.inl ((0 : Int) + (k : Int)))).isSome = decide ((0 : Int) + (k : Int) ∈ row) := by
          rw [Bool.eq_iff_iff, valD_some, mergeD_mem, decide_eq_true_iff, List.map_map]
          constructor
          · rintro (z | z)
            · simp at z
            · obtain ⟨y, hy, e⟩ := List.mem_map.mp z
              cases e
              exact hy
          · intro z
            exact .inr (List.mem_map.mpr ⟨_, z, rfl⟩)
        rw [hm]
        refine ndite_bl (fun hn => ?_) (fun hn => ?_)
        · repeat walk_at "dl"
          exact ⟨if_neg hn, rfl⟩
        · exact ⟨if_pos hn, rfl⟩
      · rw [Int.toNat_natCast, filterMap_fr]
        repeat walk_at "dl"
        refine rm_append (ds := ((b.take i).map (freeRow b.length)).map LI) 0 _ rfl rfl rfl (by rw [List.length_map, List.length_map, List.length_take]; omega) ?_
        refine ⟨_, by walk_at "gle", rfl, ?_⟩
        rw [List.take_add_one, hx2, List.map_append, List.map_append]
        rfl
  · rintro Γ' M' ⟨rfl, rfl⟩
    rw [List.length_map, List.take_length]
    refine es_letgo 1 0 rfl rfl ?_
    repeat walk_at "dl"
    exact q
def S_other_board : SpD := fun ds M Φ => ∃ b : List (List Int), ds = [LL b] ∧ BoardOk b ∧ Φ (LL (freeB b)) M
include G in
theorem ok_other_board : FnOk P w K mg base CX0 6 G.f_other_board G.d_other_board ["board"] (spOf K S_other_board) := by
  refine def_ok G.F_other_board sc_other_board (fun ds M Φ h => by obtain ⟨_, rfl, _⟩ := h; rfl) fun cdv A outer s H E hr => ⟨_, (pss_cons (ps_expr (pe_call (ok_check_board G) (hr.mono (by first | exact Nat.le_refl _ | decide)) (by rfl) G.g_check_board G.F_check_board.kp G.B_check_board .nil pass0 (pa_cons (pv 0) pa_nil)))
(pss_one (ps_ret (pe_call (ok_free_places G) (hr.mono (by first | exact Nat.le_refl _ | decide)) (by rfl) G.g_free_places G.F_free_places.kp G.B_free_places .nil pass0 (pa_cons (pv 0) pa_nil))))), fun ds M Φ h => ?_⟩
  try dsimp only [cxOf, L2.Cx.nox, L2.Cx.wish]
  obtain ⟨b, rfl, hb, q⟩ := h
  repeat walk_at "dl"
  refine ⟨b, rfl, hb, ?_⟩
  repeat walk_at "dl"
  exact ⟨b, rfl, by have := hb.2.1; omega, fun row hr => (hb.2.2 row hr).1, q⟩
/-! ### draws -/
def S__law_mixed : SpD := fun ds M Φ => ∃ (a : Addr) (xs : List D) (n : Int) (B : Ms), ds = [.ptr a, .lst xs] ∧ xs.length ≤ 1000 ∧ 0 ≤ n ∧ n ≤ 100000000 ∧ Strm a n B M ∧ ∀ ys M', ys.Perm xs → Strm a (n + xs.length) B M' → Φ (.lst ys) M'
include G in
theorem ok__law_mixed : FnOk P w K mg base CX0 2 G.f__law_mixed G.d__law_mixed ["stream", "some"] (spOf K S__law_mixed) := by
  refine def_ok G.F__law_mixed sc__law_mixed (fun ds M Φ h => by obtain ⟨_, _, _, _, rfl, _⟩ := h; rfl) fun cdv A outer s H E hr => ⟨_, (pss_cons (ps_set (i := 2) sc__law_mixed.nd rfl (by first | exact .inl rfl | exact .inr rfl) (pe_callTy (call_listU (K := K) rfl rfl) (by rfl) G.b_list boot_list (pa_cons (pv 1) pa_nil)))
(pss_one (ps_ret (pe_lc (own := [("k", 3)]) (g := (gName 3)) (tt := tYes) rfl sc__law_mixed.nd (pi_range1 (by rfl) G.b_range (pa_cons (pe_callB (call_lenU (K := K) rfl) (by rfl) G.b_len boot_len (pa_cons (pv 2) pa_nil)) pa_nil)) (blkOk_by (N := n__law_mixed) (sc := defScope s__law_mixed) (by decide +kernel)) (fun _ _ _ _ _ => (pg_name (i := 3) sc__law_mixed.nd rfl (by first | exact .inl rfl | exact .inr rfl))) (fun _ _ _ _ _ => pts_nil) (fun _ _ _ _ _ => (pe_bmK (K := K) rfl PySem.F.plainAttrs_list PySem.F.slot_list_pop PySem.F.type_list_pop mt_popAt (pv 2) (pa_cons (pe_call (ok__law_below G) (hr.mono (by first | exact Nat.le_refl _ | decide)) (by rfl) G.g__law_below G.F__law_below.kp G.B__law_below .nil pass0 (pa_cons (pv 0) (pa_cons (pe_callB (call_lenU (K := K) rfl) (by rfl) G.b_len boot_len (pa_cons (pv 2) pa_nil)) pa_nil))) pa_nil))))))), fun ds M Φ h => ?_⟩
  try dsimp only [cxOf, L2.Cx.nox, L2.Cx.wish]
  obtain ⟨a, xs, n, B, rfl, hl, hn0, hn, hs, q⟩ := h
  repeat walk_at "dl"
  refine rc_own (u_list (ds := xs) (.lst xs) rfl (.lst _) fun l => ?_)
  repeat walk_at "dl"
  refine ev_sub (ev_frz (en_lc (ei_rng1 ?_)))
  repeat walk_at "dl"
  refine u_len (.ptr l) xs.length rfl (ln_of sq0 rfl) ?_
  repeat walk_at "dl"
  refine ⟨by omega, by omega, by rw [rngD_length]; omega, fun i acc M' => ∃ left M2, M' = (l, .lst left) :: M2 ∧ acc.length = i ∧ (acc ++ left).Perm xs ∧ Strm a (n + i) B M2, ⟨xs, M, rfl, rfl, by simp, by simpa using hs⟩, ?_, ?_⟩
  · rintro i d acc M' hx ⟨left, M2, rfl, hal, hp, hs2⟩
    obtain ⟨hi, rfl⟩ := rngD_get hx
    have hlen : acc.length + left.length = xs.length := by rw [← List.length_append]; exact hp.length_eq
    rw [Int.toNat_natCast] at hi
    refine eg_name' (et_yes (iteT (ev_bm (ev_var rfl ⟨dty0, ea_cons (ev_callF ?_)⟩))))
    repeat walk_at "dl"
    refine u_len (.ptr l) left.length rfl (ln_of sq0 rfl) ?_
    repeat walk_at "dl"
    refine ⟨[(l, .lst left)], M2, rfl, a, (left.length : Int), n + i, B, rfl, by omega, by omega, by omega, hs2, fun r M3 hr0 hr1 hs3 => ?_⟩
    repeat walk_at "dl"
    obtain ⟨k, rfl⟩ : ∃ k : Nat, r = (k : Int) := ⟨r.toNat, by omega⟩
    have hk : k < left.length := by omega
    refine rm_popAt (d := left[k]) (ds := left) 0 k rfl rfl rfl (List.getElem?_eq_getElem hk) (by omega) ?_
    refine ⟨left.eraseIdx k, M3, rfl, by rw [List.length_append, hal]; rfl, ?_, hs3.mono (by omega)⟩
    refine List.Perm.trans ?_ hp
    rw [List.append_assoc]
    exact (List.Perm.refl acc).append (erase_perm hk)
  · rintro acc M' ⟨left, M2, rfl, hal, hp, hs2⟩
    rw [rngD_length, Int.toNat_natCast] at *
    have hlen : acc.length + left.length = xs.length := by rw [← List.length_append]; exact hp.length_eq
    have e : left = [] := List.length_eq_zero_iff.mp (by omega)
    subst e
    rw [List.append_nil] at hp
    exact ⟨M2, List.sublist_cons_self _ _, q acc M2 hp hs2⟩
def S__law_lot : SpD := fun ds M Φ => ∃ (a : Addr) (xs : List D) (m n : Int) (B : Ms), ds = [.ptr a, .lst xs, .int m] ∧ 0 < m ∧ m < 1073741824 ∧ xs.length ≤ 1000 ∧ 0 ≤ n ∧ n ≤ 100000000 ∧ Strm a n B M ∧ ∀ ys M', List.Sublist ys xs → Strm a (n + xs.length) B M' → Φ (.lst ys) M'
include G in
theorem ok__law_lot : FnOk P w K mg base CX0 2 G.f__law_lot G.d__law_lot ["stream", "some", "odds"] (spOf K S__law_lot) := by
  refine def_ok G.F__law_lot sc__law_lot (fun ds M Φ h => by obtain ⟨_, _, _, _, _, rfl, _⟩ := h; rfl) fun cdv A outer s H E hr => ⟨_, (pss_one (ps_ret (pe_lc (own := [("thing", 3)]) (g := (gName 3)) rfl sc__law_lot.nd (pi_src (K := K) rfl (pv 1)) (blkOk_by (N := n__law_lot) (sc := defScope s__law_lot) (by decide +kernel)) (fun _ _ _ _ _ => (pg_name (i := 3) sc__law_lot.nd rfl (by first | exact .inl rfl | exact .inr rfl))) (fun _ _ _ _ _ => (pts_one (pt_cmpR (op_eqK (K := K) rfl hr.units) (pe_call (ok__law_below G) (hr.mono (by first | exact Nat.le_refl _ | decide)) (by rfl) G.g__law_below G.F__law_below.kp G.B__law_below .nil pass0 (pa_cons (pv 0) (pa_cons (pv 2) pa_nil))) pe_int (nomark _)))) (fun _ _ _ _ _ => (pv 3))))), fun ds M Φ h => ?_⟩
  try dsimp only [cxOf, L2.Cx.nox, L2.Cx.wish]
  obtain ⟨a, xs, m, n, B, rfl, hm0, hm1, hl, hn0, hn, hs, q⟩ := h
  repeat walk_at "dl"
  refine ev_frz (en_lc (ei_srcL ?_))
  repeat walk_at "dl"
  refine ⟨xs, .inl rfl, by omega, fun i acc M' => List.Sublist acc (xs.take i) ∧ Strm a (n + i) B M', ⟨List.nil_sublist _, by simpa using hs⟩, ?_, ?_⟩
  · rintro i d acc M' hx ⟨hsub, hs2⟩
    have hi := (List.getElem?_eq_some_iff.mp hx).1
    refine eg_name' ?_
    repeat walk_at "dl"
    refine ⟨a, m, n + i, B, rfl, hm0, hm1, by omega, hs2, fun r M3 hr0 hr1 hs3 => ?_⟩
    repeat walk_at "dl"
    refine r2_eqI _ _ rfl rfl ?_
    repeat walk_at "dl"
    have hs3 := hs3.mono (show _ ≤ n + ((i + 1 : Nat) : Int) by omega)
    refine dite_bl (fun _ => ?_) (fun _ => ?_)
    · repeat walk_at "dl"
      refine ⟨?_, hs3⟩
      rw [List.take_add_one, hx]
      exact hsub.append (List.Sublist.refl _)
    · refine ⟨?_, hs3⟩
      rw [List.take_add_one, hx]
      exact hsub.trans (List.sublist_append_left _ _)
  · rintro acc M' ⟨hsub, hs2⟩
    rw [List.take_length] at hsub
    exact q acc M' hsub hs2
end
end K16


set_option Elab.async false
set_option linter.all false
set_option maxRecDepth 100000
set_option maxHeartbeats 4000000
namespace K16
open PySem PySem.Spec PyProof.Rows L2 StX DL
local macro_rules | `(tactic| walk_at "dl") => `(tactic| with_reducible first
  | refine zs_seq ?_ | refine zs_set ?_ | refine zs_drop ?_ | refine zs_ret ?_ | refine zs_if ?_ | refine zs_next ?_ | refine zs_par ?_
  | refine ev_int ?_ | refine ev_bl ?_ | refine ev_str ?_ | refine ev_non ?_ | refine ev_ty ?_
  | refine ev_op ?_ | refine ev_un ?_ | refine ev_cb ?_ | refine ev_call ?_ | refine ea_cons ?_ | refine ea_nil ?_
  | refine ev_andV ?_ | refine ev_orV ?_ | refine ev_notV ?_ | refine ev_ifx ?_ | refine ev_chain ?_ | refine ev_sl ?_ | refine eo_none ?_ | refine eo_some ?_
  | refine et_test ?_ | refine et_B ?_ | refine et_and ?_ | refine et_or ?_ | refine et_not ?_ | refine et_yes ?_
  | refine u_add _ _ rfl rfl ?_ | refine r2_sub _ _ rfl rfl ?_ | refine r2_lt _ _ rfl rfl ?_ | refine r2_le _ _ rfl rfl ?_ | refine r2_gt _ _ rfl rfl ?_ | refine r2_ge _ _ rfl rfl ?_
  | refine r1_neg _ rfl ?_ | refine ev_bm ?_ | refine ev_bm0 ?_ | refine ⟨dty0, ?_⟩ | refine ⟨dty1, ?_⟩ | refine ⟨dty2, ?_⟩ | refine ⟨_, SQ.lst _, ?_⟩ | refine ⟨_, sq0, ?_⟩ | refine ⟨_, sq1, ?_⟩ | refine ea_star ?_
  | refine ⟨_, rfl, ?_⟩ | refine iteT ?_ | refine iteF ?_ | refine iteNT ?_ | refine iteNF ?_)
local macro_rules | `(tactic| walk_at "dl") => `(tactic| ((with_reducible refine' ev_var ?hv ?_); (case hv => rfl)))
local macro_rules | `(tactic| walk_at "gle") => `(tactic| repeat (first | exact GLe.nil | apply GLe.s | apply GLe.n))
/-! ### tables of placings as data -/
section
variable {κ : Type} [DecidableEq κ] (f : List Int → κ)
def tabZ (W : Tb) : List (κ × D) := W.map fun p => (f p.1, D.int p.2)
theorem tabZ_keys (W : Tb) : (tabZ f W).map (·.1) = (W.map (·.1)).map f := by
  unfold tabZ
  rw [List.map_map, List.map_map]
  rfl
theorem valD_tab {k : List Int} : ∀ W : Tb, (∀ p ∈ W, f p.1 = f k → p.1 = k) → valD (tabZ f W) (f k) = (getZ W k).map D.int
  | [], _ => rfl
  | p :: W, h => by
    show valD ((f p.1, D.int p.2) :: tabZ f W) (f k) = _
    rw [valD_cons, getZ_cons, valD_tab W fun q hq => h q (List.mem_cons_of_mem _ hq)]
    by_cases e : p.1 = k
    · rw [if_pos (congrArg f e), if_pos e]
      rfl
    · rw [if_neg fun z => e (h p List.mem_cons_self z), if_neg e]
theorem putD_tab {k : List Int} {W : Tb} (v : Int) (h : ∀ p ∈ W, f p.1 = f k → p.1 = k) : putD (tabZ f W) (f k) (.int v) = tabZ f (putZ W k v) := by
  have ha : ((tabZ f W).any fun kv => decide (kv.1 = f k)) = (W.any fun p => decide (p.1 = k)) := by
    unfold tabZ
    rw [List.any_map]
    rw [Bool.eq_iff_iff, List.any_eq_true, List.any_eq_true]
    constructor
    · rintro ⟨p, hp, e⟩
      exact ⟨p, hp, decide_eq_true (h p hp (of_decide_eq_true e))⟩
    · rintro ⟨p, hp, e⟩
      exact ⟨p, hp, decide_eq_true (congrArg f (of_decide_eq_true e))⟩
  unfold putD putZ
  rw [ha]
  split
  · unfold tabZ
    rw [List.map_map, List.map_map]
    refine List.map_congr_left fun p hp => ?_
    show (if f p.1 = f k then (f p.1, D.int v) else (f p.1, D.int p.2)) = (f (if p.1 = k then (p.1, v) else p).1, D.int (if p.1 = k then (p.1, v) else p).2)
    by_cases e : p.1 = k
    · rw [if_pos (congrArg f e), if_pos e]
    · rw [if_neg fun z => e (h p hp z), if_neg e]
  · unfold tabZ
    rw [List.map_append]
    rfl
end
def fT (k : List Int) : List Key := k.map Sum.inl
theorem fT_inj {j k : List Int} (e : fT j = fT k) : j = k := by
  unfold fT at e
  exact (List.map_inj_right fun a b h => Sum.inl.inj h).mp e
theorem fT_kD (k : List Int) : (fT k).map kD = k.map D.int := by
  unfold fT
  rw [List.map_map]
  rfl
def hI (k : List Int) : Int := reduceHash (Builtin.Tuple.tupleHashOf (k.map hashInt))
theorem hash_fT (P : Program) (w : World) (k : List Int) : (tupleKind (mixKind P w)).hash (fT k) = hI k := by
  unfold fT hI
  show tupleKeyHash (mixKind P w) (k.map Sum.inl) = _
  unfold tupleKeyHash
  rw [List.map_map]
  rfl
theorem hash_tab : ((subs 9).map hI).Nodup := by decide +kernel
theorem hash_nodup {n : Nat} {W : Tb} (P : Program) (w : World) (h : OkW n W) (hn : n ≤ 9) : ((tabZ fT W).map fun p => (tupleKind (mixKind P w)).hash p.1).Nodup := by
  have e : ((tabZ fT W).map fun p => (tupleKind (mixKind P w)).hash p.1) = (W.map (·.1)).map hI := by
    unfold tabZ
    rw [List.map_map, List.map_map]
    exact List.map_congr_left fun p _ => hash_fT P w p.1
  rw [e]
  exact okW_map hash_tab h hn
end K16


set_option Elab.async false
set_option linter.all false
set_option maxRecDepth 100000
set_option maxHeartbeats 4000000
namespace K16
open PySem PySem.Spec PyProof.Rows L2 StX DL
local macro_rules | `(tactic| walk_at "dl") => `(tactic| with_reducible first
  | refine zs_seq ?_ | refine zs_set ?_ | refine zs_drop ?_ | refine zs_ret ?_ | refine zs_if ?_ | refine zs_next ?_ | refine zs_par ?_
  | refine ev_int ?_ | refine ev_bl ?_ | refine ev_str ?_ | refine ev_non ?_ | refine ev_ty ?_
  | refine ev_op ?_ | refine ev_un ?_ | refine ev_cb ?_ | refine ev_call ?_ | refine ea_cons ?_ | refine ea_nil ?_
  | refine ev_andV ?_ | refine ev_orV ?_ | refine ev_notV ?_ | refine ev_ifx ?_ | refine ev_chain ?_ | refine ev_sl ?_ | refine eo_none ?_ | refine eo_some ?_
  | refine et_test ?_ | refine et_B ?_ | refine et_and ?_ | refine et_or ?_ | refine et_not ?_ | refine et_yes ?_
  | refine u_add _ _ rfl rfl ?_ | refine r2_sub _ _ rfl rfl ?_ | refine r2_lt _ _ rfl rfl ?_ | refine r2_le _ _ rfl rfl ?_ | refine r2_gt _ _ rfl rfl ?_ | refine r2_ge _ _ rfl rfl ?_
  | refine r1_neg _ rfl ?_ | refine ev_bm ?_ | refine ev_bm0 ?_ | refine ⟨dty0, ?_⟩ | refine ⟨dty1, ?_⟩ | refine ⟨dty2, ?_⟩ | refine ⟨_, SQ.lst _, ?_⟩ | refine ⟨_, sq0, ?_⟩ | refine ⟨_, sq1, ?_⟩ | refine ea_star ?_
  | refine ⟨_, rfl, ?_⟩ | refine iteT ?_ | refine iteF ?_ | refine iteNT ?_ | refine iteNF ?_)
local macro_rules | `(tactic| walk_at "dl") => `(tactic| ((with_reducible refine' ev_var ?hv ?_); (case hv => rfl)))
local macro_rules | `(tactic| walk_at "gle") => `(tactic| repeat (first | exact GLe.nil | apply GLe.s | apply GLe.n))
section
variable {P : Program} {w : World} {K : PySem.W.Frag} {mg : Str → Option Value} {base : Heap} (G : Glb K mg)
theorem foldl_take {α β : Type} (g : β → α → β) {l : List α} {i : Nat} {x : α} (h : l[i]? = some x) (a : β) : (l.take (i + 1)).foldl g a = g ((l.take i).foldl g a) x := by
  rw [List.take_add_one, h, List.foldl_append]
  rfl
theorem getZ_mem {W : Tb} {k : List Int} {v : Int} (nd : (W.map (·.1)).Nodup) (h : (k, v) ∈ W) : getZ W k = some v := by
  induction W with
  | nil => cases h
  | cons p W ih =>
    rw [List.map_cons, List.nodup_cons] at nd
    rw [getZ_cons]
    rcases List.mem_cons.mp h with h2 | h2
    · subst h2
      rw [if_pos rfl]
    · rw [if_neg (fun e : p.1 = k => nd.1 (by rw [e]; exact List.mem_map.mpr ⟨_, h2, rfl⟩)), ih nd.2 h2]
theorem getD_int (o : Option Int) (a : Int) : (o.map D.int).getD (.int a) = .int (o.getD a) := by cases o <;> rfl
theorem dg_tab {M : Ms} {x : D} (W : Tb) (k : List Int) (l : DRT M x (tabZ fT W)) : DG M x (.tup (k.map .int)) ((getZ W k).map .int) := by
  rw [← fT_kD]
  exact .t (fT k) l (valD_tab fT W fun _ _ e => fT_inj e)
theorem dg_mem {M : Ms} {x : D} {W : Tb} {k : List Int} {v : Int} (nd : (W.map (·.1)).Nodup) (h : (k, v) ∈ W) (l : DRT M x (tabZ fT W)) : DG M x (.tup (k.map .int)) (some (.int v)) := by
  have := dg_tab W k l
  rw [getZ_mem nd h] at this
  exact this
theorem dpt_tab {M : Ms} {p : Addr} {W : Tb} {k : List Int} {v : Int} (h : W.length < 100000) : DPt ((p, O.dT (tabZ fT W)) :: M) 0 (.ptr p) (.tup (k.map .int)) (.int v) ((p, O.dT (tabZ fT (putZ W k v))) :: M) := by
  have q := DPt.t (M := (p, O.dT (tabZ fT W)) :: M) (j := 0) (d := .int v) (fT k) rfl (by unfold tabZ; rw [List.length_map]; exact h)
  rw [fT_kD, putD_tab fT v fun _ _ e => fT_inj e] at q
  exact q
theorem rowIn_of {n : Nat} {row : List Int} (h : RowOk n row) : RowIn n row := fun x hx => by have := h.2.1 x hx; omega
theorem boardIn {b : List (List Int)} (h : BoardOk b) : ∀ row ∈ b, RowIn b.length row := fun row hr => rowIn_of (h.2.2 row hr)
def S_rook_counts : SpD := fun ds M Φ => ∃ b : List (List Int), ds = [LL b] ∧ BoardOk b ∧ b.length ≤ 9 ∧ Φ (LI (tellZ b.length (ways b))) M
include G in
theorem ok_rook_counts : FnOk P w K mg base CX0 6 G.f_rook_counts G.d_rook_counts ["board"] (spOf K S_rook_counts) := by
  refine def_ok G.F_rook_counts sc_rook_counts (fun ds M Φ h => by obtain ⟨_, rfl, _⟩ := h; rfl) fun cdv A outer s H E hr => ⟨_, (pss_cons (ps_expr (pe_call (ok_check_board G) (hr.mono (by first | exact Nat.le_refl _ | decide)) (by rfl) G.g_check_board G.F_check_board.kp G.B_check_board .nil pass0 (pa_cons (pv 0) pa_nil)))
(pss_cons (ps_if (pt_cmpR op_gt (pe_callB (call_lenU (K := K) rfl) (by rfl) G.b_len boot_len (pa_cons (pv 0) pa_nil)) (pe_glob (v := .int 10) (by rfl) G.c_TEN ⟨_, rfl⟩) (nomark _))
(pss_one ps_never)
pss_nil)
(pss_cons (ps_set (i := 1) sc_rook_counts.nd rfl (by first | exact .inl rfl | exact .inr rfl) (pe_disp1T hr.units (pps_cons (pe_tup pa_nil) pe_int pps_nil)))
(pss_cons (ps_for PassesOwn.never rfl (pi_src (K := K) rfl (pv 0)) (pg_name (i := 2) sc_rook_counts.nd rfl (by first | exact .inl rfl | exact .inr rfl))
(pss_cons (ps_set (i := 5) sc_rook_counts.nd rfl (by first | exact .inl rfl | exact .inr rfl) (pe_callTy (call_dictU (K := K) (P := P) (w := w) rfl rfl rfl rfl hr.units) (by rfl) G.b_dict boot_dict (pa_cons (pv 1) pa_nil)))
(pss_cons (ps_for PassesOwn.never rfl (pi_either (pi_src (K := K) rfl (pe_callTy (call_listU (K := K) rfl rfl) (by rfl) G.b_list boot_list (pa_cons (pv 1) pa_nil))) (pi_listT rfl (pe_frzE (pv 1)) (by rfl) G.b_list boot_list (by decide) (by decide) rfl)) (pg_name (i := 4) sc_rook_counts.nd rfl (by first | exact .inl rfl | exact .inr rfl))
(pss_one (ps_for PassesOwn.never rfl (pi_src (K := K) rfl (pv 2)) (pg_name (i := 6) sc_rook_counts.nd rfl (by first | exact .inl rfl | exact .inr rfl))
(pss_one (ps_if (pt_cmpR (op_notInU (K := K) rfl hr.units) (pv 6) (pv 4) (by rfl))
(pss_cons (ps_set (i := 7) sc_rook_counts.nd rfl (by first | exact .inl rfl | exact .inr rfl) (pe_tupleOfK (K := K) rfl (by rfl) G.b_tuple (pe_callB (call_sortedU (K := K) rfl rfl) (by rfl) G.b_sorted boot_sorted (pa_cons (pe_op (op_addU (K := K) rfl) (pv 4) (pe_tup (pa_cons (pv 6) pa_nil))) pa_nil))))
(pss_one (ps_either (ps_asg (pe_op (op_addU (K := K) rfl) (pe_dget2 (ix1 hr.units) (pv 5) (pv 7) pe_int ⟨rfl, rfl, rfl, rfl⟩) (pe_ix (ixU (K := K) rfl hr.units) (pv 1) (pv 4) (fun _ _ => rfl))) (pg_sub (pv 5) (pv 7) set_list)) (ps_dput (ix1 hr.units) (pv 5) (pv 7) (pe_op (op_addU (K := K) rfl) (pe_dget2 (ix1 hr.units) (pv 5) (pv 7) pe_int ⟨rfl, rfl, rfl, rfl⟩) (pe_ix (ixU (K := K) rfl hr.units) (pv 1) (pv 4) (fun _ _ => rfl))) (by rfl)))))
pss_nil)))))
(pss_one (ps_set (i := 1) sc_rook_counts.nd rfl (by first | exact .inl rfl | exact .inr rfl) (pv 5))))))
(pss_cons (ps_set (i := 3) sc_rook_counts.nd rfl (by first | exact .inl rfl | exact .inr rfl) (pe_op op_mulA (pe_lst (pa_cons pe_int pa_nil)) (pe_op (op_addU (K := K) rfl) (pe_callB (call_lenU (K := K) rfl) (by rfl) G.b_len boot_len (pa_cons (pv 0) pa_nil)) pe_int)))
(pss_cons (ps_for PassesOwn.never rfl (pi_src (K := K) rfl (pv 1)) (pg_name (i := 4) sc_rook_counts.nd rfl (by first | exact .inl rfl | exact .inr rfl))
(pss_one (ps_either (ps_asg (pe_op (op_addU (K := K) rfl) (pe_ix (ixU (K := K) rfl hr.units) (pv 3) (pe_callB (call_lenU (K := K) rfl) (by rfl) G.b_len boot_len (pa_cons (pv 4) pa_nil)) (fun _ _ => rfl)) (pe_ix (ixU (K := K) rfl hr.units) (pv 1) (pv 4) (fun _ _ => rfl))) (pg_sub (pv 3) (pe_callB (call_lenU (K := K) rfl) (by rfl) G.b_len boot_len (pa_cons (pv 4) pa_nil)) set_list)) (ps_dput (ix1 hr.units) (pv 3) (pe_callB (call_lenU (K := K) rfl) (by rfl) G.b_len boot_len (pa_cons (pv 4) pa_nil)) (pe_op (op_addU (K := K) rfl) (pe_ix (ixU (K := K) rfl hr.units) (pv 3) (pe_callB (call_lenU (K := K) rfl) (by rfl) G.b_len boot_len (pa_cons (pv 4) pa_nil)) (fun _ _ => rfl)) (pe_ix (ixU (K := K) rfl hr.units) (pv 1) (pv 4) (fun _ _ => rfl))) (by rfl)))))
(pss_one (ps_ret (pv 3))))))))), fun ds M Φ h => ?_⟩
  try dsimp only [cxOf, L2.Cx.nox, L2.Cx.wish]
  obtain ⟨b, rfl, hb, h9, q⟩ := h
  repeat walk_at "dl"
  refine ⟨b, rfl, hb, ?_⟩
  repeat walk_at "dl"
  refine u_len (LL b) b.length rfl (ln_of (.lst _) (by rw [List.length_map])) ?_
  repeat walk_at "dl"
  rw [if_neg (by simp; omega)]
  repeat walk_at "dl"
  refine ev_frz (en_disp1T ?_)
  repeat walk_at "dl"
  refine ev_tup ?_
  repeat walk_at "dl"
  refine ⟨by simp, ?_⟩
  repeat walk_at "dl"
  refine ⟨[], rfl, ?_⟩
  repeat walk_at "dl"
  refine zs_for [2, 4, 5, 6, 7] (ei_srcL ?_)
  repeat walk_at "dl"
  refine ⟨b.map LI, .inl rfl, fun i Γ' M' => Γ' = [some (LL b), some (.dT (tabZ fT (ways (b.take i)))), none, none, none, none, none, none] ∧ M' = M, ⟨_, by walk_at "gle", rfl, rfl⟩, fun i d Γ' M' hx hC => ?_, ?_⟩
  · obtain ⟨rfl, rfl⟩ := hC
    obtain ⟨row, hx2, rfl⟩ := mem_at hx
    have hmem := List.mem_of_getElem? hx2
    have hrl := (hb.2.2 row hmem).1
    have hri := boardIn hb row hmem
    have hW := ways_ok (fun r hr => boardIn hb r (List.mem_of_mem_take hr)) (b := b.take i)
    have hst : ways (b.take (i + 1)) = step (ways (b.take i)) row := foldl_take step hx2 _
    generalize ways (b.take i) = W at hW hst ⊢
    refine eg_name (by simp) ?_
    repeat walk_at "dl"
    refine rc_inr (rc_inr (rc_own (rc_dcopyT rfl (.dat _) (hash_nodup P w hW h9) fun p => ?_)))
    repeat walk_at "dl"
    refine zs_for [4, 6, 7] (ei_eR (ei_listT ?_))
    repeat walk_at "dl"
    refine ⟨fun j Γ2 M2 => Γ2 = [some (LL b), some (.dT (tabZ fT W)), some (LI row), none, none, some (.ptr p), none, none] ∧ M2 = (p, .dT (tabZ fT ((W.take j).foldl (fun A p => rowStep p.1 p.2 row A) W))) :: M', ⟨_, by walk_at "gle", rfl, rfl⟩, fun j d Γ2 M2 hx hC => ?_, ?_⟩
    · obtain ⟨rfl, rfl⟩ := hC
      obtain ⟨kv, hx3, rfl⟩ := mem_at hx
      unfold tabZ at hx3
      rw [List.getElem?_map] at hx3
      obtain ⟨⟨k, v⟩, hx4, rfl⟩ := Option.map_eq_some_iff.mp hx3
      have hk := hW.2 _ (List.mem_of_getElem? hx4)
      have hA := stepAux_ok hri (W.take j) W (fun p hp => hW.2 p (List.mem_of_mem_take hp)) hW
      have hjst := foldl_take (fun (A : Tb) (p : List Int × Int) => rowStep p.1 p.2 row A) hx4 W
      rw [show D.tup (List.map kD (fT (k, v).1, D.int (k, v).2).1) = D.tup (k.map .int) from congrArg D.tup (fT_kD k)]
      refine eg_name (by simp) ?_
      repeat walk_at "dl"
      generalize (W.take j).foldl (fun (A : Tb) (p : List Int × Int) => rowStep p.1 p.2 row A) W = A at hA hjst ⊢
      refine zs_for [6, 7] (ei_srcL ?_)
      repeat walk_at "dl"
      refine ⟨row.map .int, .inl rfl, fun m Γ3 M3 => Γ3 = [some (LL b), some (.dT (tabZ fT W)), some (LI row), none, some (.tup (k.map .int)), some (.ptr p), none, none] ∧ M3 = (p, .dT (tabZ fT (rowStep k v (row.take m) A))) :: M', ⟨_, by walk_at "gle", rfl, rfl⟩, fun m d Γ3 M3 hx hC => ?_, ?_⟩
      · obtain ⟨rfl, rfl⟩ := hC
        obtain ⟨x, hx5, rfl⟩ := mem_at hx
        have hB := rowStep_ok v hk (row.take m) A (fun y hy => hri y (List.mem_of_mem_take hy)) hA
        have hxr := hri x (List.mem_of_getElem? hx5)
        have hms : rowStep k v (row.take (m + 1)) A = (if x ∈ k then rowStep k v (row.take m) A else bump (rowStep k v (row.take m) A) (insS k x) v) := foldl_take _ hx5 A
        generalize rowStep k v (row.take m) A = B at hB hms ⊢
        refine eg_name (by simp) ?_
        repeat walk_at "dl"
        refine u_niI (ns := k) x rfl (.t _) ?_
        repeat walk_at "dl"
        refine ndite_bl (fun hn => ?_) (fun hn => ?_)
        · have hkl : k.length ≤ b.length := ris_length hk
          repeat walk_at "dl"
          refine ev_tupleOf (ds := (insS k x).map .int) ?_
          repeat walk_at "dl"
          refine ev_tup ?_
          repeat walk_at "dl"
          refine ⟨by simp, ?_⟩
          refine u_catT (xs := k.map .int) (ys := [.int x]) rfl rfl (by rw [List.length_map, List.length_singleton]; omega) ?_
          repeat walk_at "dl"
          refine rc_inl (rc_inr (rc_frz (rc_sortedIT (ns := k ++ [x]) (by rw [List.map_append]; rfl) fun ns' hp hs => ?_)))
          have hi : ns' = insS k x := ris_unique (n := 0) hs (insS_ris hk hxr).2 (hp.trans (List.perm_append_singleton x k |>.trans (insS_perm (n := 0) hn).symm))
          subst hi
          refine ⟨.lst _, ?_⟩
          repeat walk_at "dl"
          refine es_eR (es_dput ?_)
          repeat walk_at "dl"
          refine ev_get2 ?_
          repeat walk_at "dl"
          refine ⟨.inr ⟨_, .own List.mem_cons_self⟩, ?_⟩
          repeat walk_at "dl"
          refine ⟨_, dg_tab B (insS k x) (.own List.mem_cons_self), ?_⟩
          rw [getD_int]
          repeat walk_at "dl"
          refine u_dg (d := .int v) (dg_mem hW.1 (List.mem_of_getElem? hx4) (.dat _)) ?_
          repeat walk_at "dl"
          refine ⟨0, _, dpt_tab (by have := okW_short hB h9; omega), ?_⟩
          refine ⟨_, by walk_at "gle", rfl, ?_⟩
          rw [hms, if_neg hn]
          rfl
        · repeat walk_at "dl"
          refine ⟨_, by walk_at "gle", rfl, ?_⟩
          rw [hms, if_pos hn]
      · rintro Γ3 M3 ⟨rfl, rfl⟩
        refine ⟨_, by walk_at "gle", rfl, ?_⟩
        rw [List.length_map, List.take_length, hjst]
    · rintro Γ2 M2 ⟨rfl, rfl⟩
      refine es_letgo 5 0 rfl rfl ?_
      repeat walk_at "dl"
      have e : (W.take ((tabZ fT W).map fun p => D.tup (List.map kD p.1)).length).foldl (fun A p => rowStep p.1 p.2 row A) W = ways (b.take (i + 1)) := by
        rw [List.length_map, show (tabZ fT W).length = W.length from List.length_map _, List.take_length, hst]
        rfl
      refine ⟨_, ?_, rfl, rfl⟩
      rw [← e]
      walk_at "gle"
  · rintro Γ' M' ⟨rfl, rfl⟩
    have hW := ways_ok (fun r hr => boardIn hb r hr) (b := b)
    have e : ways (b.take (b.map LI).length) = ways b := by rw [List.length_map, List.take_length]
    rw [e]
    generalize ways b = W at hW q ⊢
    repeat walk_at "dl"
    refine ev_frz (en_lst ?_)
    repeat walk_at "dl"
    refine ⟨by decide, ?_⟩
    repeat walk_at "dl"
    refine u_len (LL b) b.length rfl (ln_of (.lst _) (by rw [List.length_map])) ?_
    repeat walk_at "dl"
    refine r2_own (r2_rep ((b.length : Int) + 1) (.lst _) rfl (by omega) (by simp; omega) fun p => ?_)
    rw [show ((b.length : Int) + 1).toNat = b.length + 1 by omega, rep_int]
    repeat walk_at "dl"
    refine zs_for [4] (ei_srcD ?_)
    repeat walk_at "dl"
    refine .inr ⟨_, rfl, ?_⟩
    refine ⟨fun j Γ2 M2 => Γ2 = [some (LL b), some (.dT (tabZ fT W)), none, some (.ptr p), none, none, none, none] ∧ M2 = (p, .lst (((W.take j).foldl tell1 (List.replicate (b.length + 1) 0)).map .int)) :: M', ⟨_, by walk_at "gle", rfl, rfl⟩, fun j d Γ2 M2 hx hC => ?_, ?_⟩
    · obtain ⟨rfl, rfl⟩ := hC
      obtain ⟨kv, hx3, rfl⟩ := mem_at hx
      unfold tabZ at hx3
      rw [List.getElem?_map] at hx3
      obtain ⟨⟨k, v⟩, hx4, rfl⟩ := Option.map_eq_some_iff.mp hx3
      have hk : k.length ≤ b.length := ris_length (hW.2 _ (List.mem_of_getElem? hx4))
      have hjst := foldl_take tell1 hx4 (List.replicate (b.length + 1) 0)
      have hl := tellAux_length (W.take j) (List.replicate (b.length + 1) 0)
      rw [show D.tup (List.map kD (fT (k, v).1, D.int (k, v).2).1) = D.tup (k.map .int) from congrArg D.tup (fT_kD k)]
      refine eg_name (by simp) ?_
      repeat walk_at "dl"
      generalize (W.take j).foldl tell1 (List.replicate (b.length + 1) 0) = t at hl hjst ⊢
      have hl2 : t.length = b.length + 1 := by rw [hl, List.length_replicate]
      have hget : (t.map D.int)[k.length]? = some (.int (t.getD k.length 0)) := by
        rw [List.getElem?_map, getD_at (by omega)]
        rfl
      refine es_eL (zs_asg (own := []) ?_)
      repeat walk_at "dl"
      refine u_len _ k.length rfl (ln_of (.t _) (by rw [List.length_map])) ?_
      repeat walk_at "dl"
      refine u_ixL _ lq0 rfl (atI_of (k := k.length) rfl hget) ?_
      repeat walk_at "dl"
      refine u_dg (d := .int v) (dg_mem hW.1 (List.mem_of_getElem? hx4) (.dat _)) ?_
      repeat walk_at "dl"
      refine eg_setL ?_
      repeat walk_at "dl"
      refine u_len _ k.length rfl (ln_of (.t _) (by rw [List.length_map])) ?_
      repeat walk_at "dl"
      refine ⟨0, k.length, p, _, rfl, rfl, rfl, by rw [List.length_map]; omega, ?_⟩
      refine ⟨_, by walk_at "gle", rfl, ?_⟩
      rw [hjst]
      unfold tell1
      rw [List.map_set]
      rfl
    · rintro Γ2 M2 ⟨rfl, rfl⟩
      refine es_letgo 3 0 rfl rfl ?_
      repeat walk_at "dl"
      have e : W.take ((tabZ fT W).map fun p => D.tup (p.1.map kD)).length = W := by
        rw [List.length_map, show (tabZ fT W).length = W.length from List.length_map _, List.take_length]
      rw [e]
      exact q
end
end K16


set_option Elab.async false
set_option linter.all false
set_option maxRecDepth 100000
set_option maxHeartbeats 4000000
namespace K16
open PySem PySem.Spec PyProof.Rows L2 StX DL
local macro_rules | `(tactic| walk_at "dl") => `(tactic| with_reducible first
  | refine zs_seq ?_ | refine zs_set ?_ | refine zs_drop ?_ | refine zs_ret ?_ | refine zs_if ?_ | refine zs_next ?_ | refine zs_par ?_
  | refine ev_int ?_ | refine ev_bl ?_ | refine ev_str ?_ | refine ev_non ?_ | refine ev_ty ?_
  | refine ev_op ?_ | refine ev_un ?_ | refine ev_cb ?_ | refine ev_call ?_ | refine ea_cons ?_ | refine ea_nil ?_
  | refine ev_andV ?_ | refine ev_orV ?_ | refine ev_notV ?_ | refine ev_ifx ?_ | refine ev_chain ?_ | refine ev_sl ?_ | refine eo_none ?_ | refine eo_some ?_
  | refine et_test ?_ | refine et_B ?_ | refine et_and ?_ | refine et_or ?_ | refine et_not ?_ | refine et_yes ?_
  | refine u_add _ _ rfl rfl ?_ | refine r2_sub _ _ rfl rfl ?_ | refine r2_lt _ _ rfl rfl ?_ | refine r2_le _ _ rfl rfl ?_ | refine r2_gt _ _ rfl rfl ?_ | refine r2_ge _ _ rfl rfl ?_
  | refine r1_neg _ rfl ?_ | refine ev_bm ?_ | refine ev_bm0 ?_ | refine ⟨dty0, ?_⟩ | refine ⟨dty1, ?_⟩ | refine ⟨dty2, ?_⟩ | refine ⟨_, SQ.lst _, ?_⟩ | refine ⟨_, sq0, ?_⟩ | refine ⟨_, sq1, ?_⟩ | refine ea_star ?_
  | refine ⟨_, rfl, ?_⟩ | refine iteT ?_ | refine iteF ?_ | refine iteNT ?_ | refine iteNF ?_)
local macro_rules | `(tactic| walk_at "dl") => `(tactic| ((with_reducible refine' ev_var ?hv ?_); (case hv => rfl)))
local macro_rules | `(tactic| walk_at "gle") => `(tactic| repeat (first | exact GLe.nil | apply GLe.s | apply GLe.n))
/-! ### the law's own count of placings: tables by masks -/
def fM (k : List Int) : Key := Sum.inl (mask k)
theorem mask_bd : ∀ k ∈ subs 9, 0 ≤ mask k ∧ mask k < 512 := by decide +kernel
theorem fM_inj {n : Nat} {j k : List Int} (hn : n ≤ 9) (h1 : Ris n j) (h2 : Ris n k) (e : fM j = fM k) : j = k := by
  have up : ∀ {l : List Int}, Ris n l → l ∈ subs 9 := fun {l} h => ris_subs 9 l ⟨fun x hx => by have := h.1 x hx; omega, h.2⟩
  exact nodup_inj mask_inj (up h1) (up h2) (Sum.inl.inj e)
theorem prod2 : ∀ n : Nat, prodI (List.replicate n 2) = (2 : Int) ^ n := by
  have e : ∀ (n : Nat) (a : Int), (List.replicate n (2 : Int)).foldl (· * ·) a = a * 2 ^ n := by
    intro n
    induction n with
    | zero => intro a; simp
    | succ n ih =>
      intro a
      rw [List.replicate_succ, List.foldl_cons, ih, Int.pow_succ, Int.mul_assoc, Int.mul_comm 2]
  intro n
  unfold prodI
  rw [e]
  omega
theorem cdiv2 {a : Int} {n : Nat} (h : 0 ≤ a ∧ a < 512) (hn : n < 9) : CDiv a ((2 : Int) ^ n) := by
  have : ∀ n : Nat, n < 9 → 0 < (2 : Int) ^ n ∧ (2 : Int) ^ n < 1073741824 := by decide
  exact this n hn
def fP (k : List Int) : D → Option D
  | .int p => if p ∈ k then some (.int 1) else none
  | _ => none
theorem fP_len {n : Nat} {k : List Int} (h : Ris n k) : ((rngD 0 n).filterMap (fP k)).length = k.length := by
  have e : ∀ l : List Nat, ((l.map fun i : Nat => D.int ((0 : Int) + (i : Int))).filterMap (fP k)).length = (l.filter fun i : Nat => decide ((i : Int) ∈ k)).length := by
    intro l
    induction l with
    | nil => rfl
    | cons i l ih =>
      rw [List.map_cons, List.filterMap_cons, List.filter_cons, show (0 : Int) + (i : Int) = i by omega, show fP k (.int i) = if (i : Int) ∈ k then some (.int 1) else none from rfl]
      by_cases hi : (i : Int) ∈ k
      · rw [if_pos hi, if_pos (decide_eq_true hi), List.length_cons]
        show (List.filterMap (fP k) _).length + 1 = _
        rw [ih, List.length_cons]
      · rw [if_neg hi, if_neg (by simpa using hi)]
        exact ih
  show (((List.range n).map fun i : Nat => D.int ((0 : Int) + (i : Int))).filterMap (fP k)).length = k.length
  rw [e]
  have nd : k.Nodup := h.2.imp fun a => by omega
  have nd2 : ((List.range n).filter fun i : Nat => decide ((i : Int) ∈ k)).Nodup := List.nodup_range.filter _
  refine Nat.le_antisymm ?_ ?_
  · have := nodup_le (a := ((List.range n).filter fun i : Nat => decide ((i : Int) ∈ k)).map fun i : Nat => (i : Int)) (b := k) (nodup_map nd2 fun a _ b _ z => by omega) fun x hx => by
      obtain ⟨i, hi, rfl⟩ := List.mem_map.mp hx
      exact of_decide_eq_true (List.mem_filter.mp hi).2
    rw [List.length_map] at this
    exact this
  · have := nodup_le (a := k) (b := ((List.range n).filter fun i : Nat => decide ((i : Int) ∈ k)).map fun i : Nat => (i : Int)) nd fun x hx => by
      obtain ⟨a, b⟩ := h.1 x hx
      have ex : ((x.toNat : Nat) : Int) = x := by omega
      exact List.mem_map.mpr ⟨x.toNat, List.mem_filter.mpr ⟨List.mem_range.mpr (by omega), decide_eq_true (by rw [ex]; exact hx)⟩, ex⟩
    rw [List.length_map] at this
    exact this
section
variable {P : Program} {w : World} {K : PySem.W.Frag} {mg : Str → Option Value} {base : Heap} (G : Glb K mg)
theorem dgK_tab {n : Nat} {M : Ms} {x : D} {W : Tb} {k : List Int} (hn : n ≤ 9) (hW : OkW n W) (hk : Ris n k) (l : DR M x (tabZ fM W)) : DG M x (.int (mask k)) ((getZ W k).map .int) :=
  .k (fM k) l (valD_tab fM W fun _ hp e => fM_inj hn (hW.2 _ hp) hk e)
theorem dgK_mem {n : Nat} {M : Ms} {x : D} {W : Tb} {k : List Int} {v : Int} (hn : n ≤ 9) (hW : OkW n W) (h : (k, v) ∈ W) (l : DR M x (tabZ fM W)) : DG M x (.int (mask k)) (some (.int v)) := by
  have := dgK_tab hn hW (hW.2 _ h) l
  rw [getZ_mem hW.1 h] at this
  exact this
theorem dptK_tab {n : Nat} {M : Ms} {p : Addr} {W : Tb} {k : List Int} {v : Int} (hn : n ≤ 9) (hW : OkW n W) (hk : Ris n k) (h : W.length < 100000) : DPt ((p, O.dK (tabZ fM W)) :: M) 0 (.ptr p) (.int (mask k)) (.int v) ((p, O.dK (tabZ fM (putZ W k v))) :: M) := by
  have q := DPt.k (M := (p, O.dK (tabZ fM W)) :: M) (j := 0) (d := .int v) (fM k) rfl (by unfold tabZ; rw [List.length_map]; exact h)
  rw [putD_tab fM v fun _ hp e => fM_inj hn (hW.2 _ hp) hk e] at q
  exact q
def S__law_wrooks : SpD := fun ds M Φ => ∃ b : List (List Int), ds = [LL b] ∧ BoardOk b ∧ b.length ≤ 9 ∧ Φ (LI (tellZ b.length (ways b))) M
include G in
theorem ok__law_wrooks : FnOk P w K mg base CX0 2 G.f__law_wrooks G.d__law_wrooks ["board"] (spOf K S__law_wrooks) := by
  refine def_ok G.F__law_wrooks sc__law_wrooks (fun ds M Φ h => by obtain ⟨_, rfl, _⟩ := h; rfl) fun cdv A outer s H E hr => ⟨_, (pss_cons (ps_par (i := 4) (j := 5) rfl sc__law_wrooks.nd rfl rfl (by decide) rfl rfl (pa_cons (pe_callB (call_lenU (K := K) rfl) (by rfl) G.b_len boot_len (pa_cons (pv 0) pa_nil)) (pa_cons (pe_disp (pps_cons pe_int pe_int pps_nil) (by rfl) (by rfl) (by simp) (by decide)) pa_nil)) (by rfl))
(pss_cons (ps_for PassesOwn.never rfl (pi_src (K := K) rfl (pv 0)) (pg_name (i := 1) sc__law_wrooks.nd rfl (by first | exact .inl rfl | exact .inr rfl))
(pss_cons (ps_set (i := 6) sc__law_wrooks.nd rfl (by first | exact .inl rfl | exact .inr rfl) (pe_callTy (call_dictU (K := K) (P := P) (w := w) rfl rfl rfl rfl hr.units) (by rfl) G.b_dict boot_dict (pa_cons (pv 5) pa_nil)))
(pss_cons (ps_for PassesOwn.never rfl (pi_either (pi_src (K := K) rfl (pe_callTy (call_listU (K := K) rfl rfl) (by rfl) G.b_list boot_list (pa_cons (pv 5) pa_nil))) (pi_listT rfl (pe_frzE (pv 5)) (by rfl) G.b_list boot_list (by decide) (by decide) rfl)) (pg_name (i := 3) sc__law_wrooks.nd rfl (.inr rfl))
(pss_one (ps_for PassesOwn.never rfl (pi_src (K := K) rfl (pv 1)) (pg_name (i := 7) sc__law_wrooks.nd rfl (by first | exact .inl rfl | exact .inr rfl))
(pss_cons (ps_set (i := 8) sc__law_wrooks.nd rfl (by first | exact .inl rfl | exact .inr rfl) (pe_call (ok__law_wproduct G) (hr.mono (by first | exact Nat.le_refl _ | decide)) (by rfl) G.g__law_wproduct G.F__law_wproduct.kp G.B__law_wproduct .nil pass0 (pa_cons (pe_op op_mulA (pe_lst (pa_cons pe_int pa_nil)) (pv 7)) pa_nil)))
(pss_one (ps_if (pt_cmpR (op_eqK (K := K) rfl hr.units) (pe_op op_mod (pe_callTy call_int1 (by rfl) G.b_int boot_int (pa_cons (pe_op op_fdiv (pv 3) (pv 8)) pa_nil)) pe_int) pe_int (nomark _))
(pss_one (ps_either (ps_asg (pe_op (op_addU (K := K) rfl) (pe_dget2 (ix1 hr.units) (pv 6) (pe_op (op_addU (K := K) rfl) (pv 3) (pv 8)) pe_int ⟨rfl, rfl, rfl, rfl⟩) (pe_ix (ixU (K := K) rfl hr.units) (pv 5) (pv 3) (fun _ _ => rfl))) (pg_sub (pv 6) (pe_op (op_addU (K := K) rfl) (pv 3) (pv 8)) set_list)) (ps_dput (ix1 hr.units) (pv 6) (pe_op (op_addU (K := K) rfl) (pv 3) (pv 8)) (pe_op (op_addU (K := K) rfl) (pe_dget2 (ix1 hr.units) (pv 6) (pe_op (op_addU (K := K) rfl) (pv 3) (pv 8)) pe_int ⟨rfl, rfl, rfl, rfl⟩) (pe_ix (ixU (K := K) rfl hr.units) (pv 5) (pv 3) (fun _ _ => rfl))) (by rfl))))
pss_nil))))))
(pss_one (ps_set (i := 5) sc__law_wrooks.nd rfl (by first | exact .inl rfl | exact .inr rfl) (pv 6))))))
(pss_cons (ps_set (i := 2) sc__law_wrooks.nd rfl (by first | exact .inl rfl | exact .inr rfl) (pe_op op_mulA (pe_lst (pa_cons pe_int pa_nil)) (pe_op (op_addU (K := K) rfl) (pv 4) pe_int)))
(pss_cons (ps_for PassesOwn.never rfl (pi_either (pi_src (K := K) rfl (pe_callTy (call_listU (K := K) rfl rfl) (by rfl) G.b_list boot_list (pa_cons (pv 5) pa_nil))) (pi_listT rfl (pe_frzE (pv 5)) (by rfl) G.b_list boot_list (by decide) (by decide) rfl)) (pg_name (i := 3) sc__law_wrooks.nd rfl (.inr rfl))
(pss_one (ps_augS (pv 2) (pe_callB (call_lenU (K := K) rfl) (by rfl) G.b_len boot_len (pa_cons (pe_lc (own := [("place", 7)]) (g := (gName 7)) rfl sc__law_wrooks.nd (pi_range1 (by rfl) G.b_range (pa_cons (pv 4) pa_nil)) (blkOk_by (N := n__law_wrooks) (sc := defScope s__law_wrooks) (by decide +kernel)) (fun _ _ _ _ _ => (pg_name (i := 7) sc__law_wrooks.nd rfl (by first | exact .inl rfl | exact .inr rfl))) (fun _ _ _ _ _ => (pts_one (pt_cmpR (op_eqK (K := K) rfl hr.units) (pe_op op_mod (pe_callTy call_int1 (by rfl) G.b_int boot_int (pa_cons (pe_op op_fdiv (pv 3) (pe_call (ok__law_wproduct G) (hr.mono (by first | exact Nat.le_refl _ | decide)) (by rfl) G.g__law_wproduct G.F__law_wproduct.kp G.B__law_wproduct .nil pass0 (pa_cons (pe_op op_mulA (pe_lst (pa_cons pe_int pa_nil)) (pv 7)) pa_nil))) pa_nil)) pe_int) pe_int (nomark _)))) (fun _ _ _ _ _ => pe_int)) pa_nil)) (pget_listK (K := K) rfl) (pe_ix (ixU (K := K) rfl hr.units) (pv 5) (pv 3) (fun _ _ => rfl)) ip_add set_list)))
(pss_one (ps_ret (pv 2))))))), fun ds M Φ h => ?_⟩
  try dsimp only [cxOf, L2.Cx.nox, L2.Cx.wish]
  obtain ⟨b, rfl, hb, h9, q⟩ := h
  repeat walk_at "dl"
  refine u_len (LL b) b.length rfl (ln_of (.lst _) (by rw [List.length_map])) ?_
  repeat walk_at "dl"
  refine ev_frz (en_disp1 ?_)
  repeat walk_at "dl"
  refine ⟨.inl 0, rfl, ?_⟩
  repeat walk_at "dl"
  refine ⟨_, _, rfl, ?_⟩
  repeat walk_at "dl"
  refine zs_for [1, 3, 6, 7, 8] (ei_srcL ?_)
  repeat walk_at "dl"
  refine ⟨b.map LI, .inl rfl, fun i Γ' M' => Γ' = [some (LL b), none, none, none, some (.int b.length), some (.dK (tabZ fM (ways (b.take i)))), none, none, none] ∧ M' = M, ⟨_, by walk_at "gle", rfl, rfl⟩, fun i d Γ' M' hx hC => ?_, ?_⟩
  · obtain ⟨rfl, rfl⟩ := hC
    obtain ⟨row, hx2, rfl⟩ := mem_at hx
    have hmem := List.mem_of_getElem? hx2
    have hrl := (hb.2.2 row hmem).1
    have hri := boardIn hb row hmem
    have hW := ways_ok (fun r hr => boardIn hb r (List.mem_of_mem_take hr)) (b := b.take i)
    have hst : ways (b.take (i + 1)) = step (ways (b.take i)) row := foldl_take step hx2 _
    generalize ways (b.take i) = W at hW hst ⊢
    refine eg_name (by simp) ?_
    repeat walk_at "dl"
    refine rc_inr (rc_inl (rc_own (rc_dcopy _ rfl (.dat _) fun p => ?_)))
    repeat walk_at "dl"
    refine zs_for [3, 7, 8] (ei_eL (ei_srcL ?_))
    repeat walk_at "dl"
    refine rc_frz (u_listD _ rfl (.dat _) ?_)
    refine ⟨_, .inl rfl, fun j Γ2 M2 => Γ2 = [some (LL b), some (LI row), none, none, some (.int b.length), some (.dK (tabZ fM W)), some (.ptr p), none, none] ∧ M2 = (p, .dK (tabZ fM ((W.take j).foldl (fun A p => rowStep p.1 p.2 row A) W))) :: M', ⟨_, by walk_at "gle", rfl, rfl⟩, fun j d Γ2 M2 hx hC => ?_, ?_⟩
    · obtain ⟨rfl, rfl⟩ := hC
      obtain ⟨kv, hx3, rfl⟩ := mem_at hx
      unfold tabZ at hx3
      rw [List.getElem?_map] at hx3
      obtain ⟨⟨k, v⟩, hx4, rfl⟩ := Option.map_eq_some_iff.mp hx3
      have hk : Ris b.length k := hW.2 _ (List.mem_of_getElem? hx4)
      have hk9 := okW_subs hW h9 k (List.mem_map.mpr ⟨_, List.mem_of_getElem? hx4, rfl⟩)
      have hA := stepAux_ok hri (W.take j) W (fun p hp => hW.2 p (List.mem_of_mem_take hp)) hW
      have hjst := foldl_take (fun (A : Tb) (p : List Int × Int) => rowStep p.1 p.2 row A) hx4 W
      show EG K _ _ (.int (mask k)) _ _ _
      refine eg_name (by simp) ?_
      repeat walk_at "dl"
      generalize (W.take j).foldl (fun (A : Tb) (p : List Int × Int) => rowStep p.1 p.2 row A) W = A at hA hjst ⊢
      refine zs_for [7, 8] (ei_srcL ?_)
      repeat walk_at "dl"
      refine ⟨row.map .int, .inl rfl, fun m Γ3 M3 => Γ3 = [some (LL b), some (LI row), none, some (.int (mask k)), some (.int b.length), some (.dK (tabZ fM W)), some (.ptr p), none, none] ∧ M3 = (p, .dK (tabZ fM (rowStep k v (row.take m) A))) :: M', ⟨_, by walk_at "gle", rfl, rfl⟩, fun m d Γ3 M3 hx hC => ?_, ?_⟩
      · obtain ⟨rfl, rfl⟩ := hC
        obtain ⟨x, hx5, rfl⟩ := mem_at hx
        have hB := rowStep_ok v hk (row.take m) A (fun y hy => hri y (List.mem_of_mem_take hy)) hA
        have hxr := hri x (List.mem_of_getElem? hx5)
        have hms : rowStep k v (row.take (m + 1)) A = (if x ∈ k then rowStep k v (row.take m) A else bump (rowStep k v (row.take m) A) (insS k x) v) := foldl_take _ hx5 A
        generalize rowStep k v (row.take m) A = B at hB hms ⊢
        refine eg_name (by simp) ?_
        repeat walk_at "dl"
        refine ev_frz (en_lst ?_)
        repeat walk_at "dl"
        refine ⟨by decide, ?_⟩
        repeat walk_at "dl"
        have hx0 : x.toNat < 9 := by omega
        refine r2_frz (r2_rep x (.lst _) rfl (by omega) (by simp; omega) ?_)
        rw [rep_int]
        repeat walk_at "dl"
        have hp2 : (2 : Int) ^ x.toNat ∈ (List.range 9).map fun i => (2 : Int) ^ i := List.mem_map.mpr ⟨_, List.mem_range.mpr hx0, rfl⟩
        refine ⟨List.replicate x.toNat 2, rfl, by rw [List.length_replicate]; omega, fun y hy => by rw [(List.mem_replicate.mp hy).2]; decide, ?_⟩
        rw [prod2]
        have htab := mask_tab k hk9 x.toNat hx0
        rw [show ((x.toNat : Nat) : Int) = x by omega] at htab
        repeat walk_at "dl"
        refine r2_fdiv _ _ rfl rfl (cdiv2 (mask_bd k hk9) hx0) ?_
        repeat walk_at "dl"
        refine rc_intI _ rfl ?_
        repeat walk_at "dl"
        refine r2_mod _ _ rfl rfl (by decide) ?_
        repeat walk_at "dl"
        refine r2_eqI _ _ rfl rfl ?_
        rw [htab]
        repeat walk_at "dl"
        by_cases hn : x ∈ k
        · rw [if_pos hn, show decide ((1 : Int) = 0) = false from rfl]
          repeat walk_at "dl"
          refine ⟨_, by walk_at "gle", rfl, ?_⟩
          rw [hms, if_pos hn]
        · rw [if_neg hn, show decide ((0 : Int) = 0) = true from rfl]
          repeat walk_at "dl"
          refine es_eR (es_dput ?_)
          repeat walk_at "dl"
          refine ev_get2 ?_
          repeat walk_at "dl"
          refine ⟨.inl ⟨_, .own List.mem_cons_self⟩, ?_⟩
          repeat walk_at "dl"
          rw [← mask_ins hn]
          refine ⟨_, dgK_tab h9 hB (insS_ris hk hxr) (.own List.mem_cons_self), ?_⟩
          rw [getD_int]
          repeat walk_at "dl"
          refine u_dg (d := .int v) (dgK_mem h9 hW (List.mem_of_getElem? hx4) (.dat _)) ?_
          repeat walk_at "dl"
          rw [← mask_ins hn]
          refine ⟨0, _, dptK_tab h9 hB (insS_ris hk hxr) (by have := okW_short hB h9; omega), ?_⟩
          refine ⟨_, by walk_at "gle", rfl, ?_⟩
          rw [hms, if_neg hn]
          rfl
      · rintro Γ3 M3 ⟨rfl, rfl⟩
        refine ⟨_, by walk_at "gle", rfl, ?_⟩
        rw [List.length_map, List.take_length, hjst]
    · rintro Γ2 M2 ⟨rfl, rfl⟩
      refine es_letgo 6 0 rfl rfl ?_
      repeat walk_at "dl"
      have e : (W.take ((tabZ fM W).map fun p => kD p.1).length).foldl (fun A p => rowStep p.1 p.2 row A) W = ways (b.take (i + 1)) := by
        rw [List.length_map, show (tabZ fM W).length = W.length from List.length_map _, List.take_length, hst]
        rfl
      refine ⟨_, ?_, rfl, rfl⟩
      rw [← e]
      walk_at "gle"
  · rintro Γ' M' ⟨rfl, rfl⟩
    have hW := ways_ok (fun r hr => boardIn hb r hr) (b := b)
    have e : ways (b.take (b.map LI).length) = ways b := by rw [List.length_map, List.take_length]
    rw [e]
    generalize ways b = W at hW q ⊢
    repeat walk_at "dl"
    refine ev_frz (en_lst ?_)
    repeat walk_at "dl"
    refine ⟨by decide, ?_⟩
    repeat walk_at "dl"
    refine r2_own (r2_rep ((b.length : Int) + 1) (.lst _) rfl (by omega) (by simp; omega) fun p => ?_)
    rw [show ((b.length : Int) + 1).toNat = b.length + 1 by omega, rep_int]
    repeat walk_at "dl"
    refine zs_for [3] (ei_eL (ei_srcL ?_))
    repeat walk_at "dl"
    refine rc_frz (u_listD _ rfl (.dat _) ?_)
    refine ⟨_, .inl rfl, fun j Γ2 M2 => Γ2 = [some (LL b), none, some (.ptr p), none, some (.int b.length), some (.dK (tabZ fM W)), none, none, none] ∧ M2 = (p, .lst (((W.take j).foldl tell1 (List.replicate (b.length + 1) 0)).map .int)) :: M', ⟨_, by walk_at "gle", rfl, rfl⟩, fun j d Γ2 M2 hx hC => ?_, ?_⟩
    · obtain ⟨rfl, rfl⟩ := hC
      obtain ⟨kv, hx3, rfl⟩ := mem_at hx
      unfold tabZ at hx3
      rw [List.getElem?_map] at hx3
      obtain ⟨⟨k, v⟩, hx4, rfl⟩ := Option.map_eq_some_iff.mp hx3
      have hk0 : Ris b.length k := hW.2 _ (List.mem_of_getElem? hx4)
      have hk : k.length ≤ b.length := ris_length hk0
      have hk9 := okW_subs hW h9 k (List.mem_map.mpr ⟨_, List.mem_of_getElem? hx4, rfl⟩)
      have hjst := foldl_take tell1 hx4 (List.replicate (b.length + 1) 0)
      have hl := tellAux_length (W.take j) (List.replicate (b.length + 1) 0)
      show EG K _ _ (.int (mask k)) _ _ _
      refine eg_name (by simp) ?_
      repeat walk_at "dl"
      generalize (W.take j).foldl tell1 (List.replicate (b.length + 1) 0) = t at hl hjst ⊢
      have hl2 : t.length = b.length + 1 := by rw [hl, List.length_replicate]
      have hget : (t.map D.int)[k.length]? = some (.int (t.getD k.length 0)) := by
        rw [List.getElem?_map, getD_at (by omega)]
        rfl
      refine es_augL ?_
      repeat walk_at "dl"
      refine ev_frz (en_flt (ei_rng1 ?_))
      repeat walk_at "dl"
      refine ⟨by omega, by omega, by rw [rngD_length]; omega, fP k, fun i d hi => eg_name (by simp) ?_, ?_⟩
      · obtain ⟨hi2, rfl⟩ := rngD_get hi
        rw [show (0 : Int) + (i : Int) = i by omega]
        have hi9 : i < 9 := by omega
        repeat walk_at "dl"
        refine ev_frz (en_lst ?_)
        repeat walk_at "dl"
        refine ⟨by decide, ?_⟩
        repeat walk_at "dl"
        refine r2_frz (r2_rep (i : Int) (.lst _) rfl (by omega) (by simp; omega) ?_)
        rw [rep_int, Int.toNat_natCast]
        repeat walk_at "dl"
        refine ⟨List.replicate i 2, rfl, by rw [List.length_replicate]; omega, fun y hy => by rw [(List.mem_replicate.mp hy).2]; decide, ?_⟩
        rw [prod2]
        have htab := mask_tab k hk9 i hi9
        repeat walk_at "dl"
        refine r2_fdiv _ _ rfl rfl (cdiv2 (mask_bd k hk9) hi9) ?_
        repeat walk_at "dl"
        refine rc_intI _ rfl ?_
        repeat walk_at "dl"
        refine r2_mod _ _ rfl rfl (by decide) ?_
        repeat walk_at "dl"
        refine r2_eqI _ _ rfl rfl ?_
        rw [htab]
        repeat walk_at "dl"
        by_cases hn : (i : Int) ∈ k
        · rw [if_pos hn, show decide ((1 : Int) = 1) = true from rfl]
          repeat walk_at "dl"
          exact ⟨if_pos hn, rfl⟩
        · rw [if_neg hn, show decide ((0 : Int) = 1) = false from rfl]
          repeat walk_at "dl"
          exact ⟨if_neg hn, rfl⟩
      · rw [Int.toNat_natCast]
        repeat walk_at "dl"
        refine u_len _ k.length rfl (ln_of (.lst _) (fP_len hk0)) ?_
        refine ⟨0, k.length, p, _, t.getD k.length 0, rfl, rfl, rfl, by omega, hget, ?_⟩
        repeat walk_at "dl"
        refine u_dg (d := .int v) (dgK_mem h9 hW (List.mem_of_getElem? hx4) (.dat _)) ?_
        refine ⟨v, _, rfl, rfl, by rw [List.length_map]; omega, ?_⟩
        refine ⟨_, by walk_at "gle", rfl, ?_⟩
        rw [hjst]
        unfold tell1
        rw [List.map_set]
        rfl
    · rintro Γ2 M2 ⟨rfl, rfl⟩
      refine es_letgo 2 0 rfl rfl ?_
      repeat walk_at "dl"
      have e : W.take ((tabZ fM W).map fun p => kD p.1).length = W := by
        rw [List.length_map, show (tabZ fM W).length = W.length from List.length_map _, List.take_length]
      rw [e]
      exact q
end
end K16


set_option Elab.async false
set_option linter.all false
set_option maxRecDepth 100000
set_option maxHeartbeats 4000000
namespace K16
open PySem PySem.Spec PyProof.Rows L2 StX DL
local macro_rules | `(tactic| walk_at "dl") => `(tactic| with_reducible first
  | refine zs_seq ?_ | refine zs_set ?_ | refine zs_drop ?_ | refine zs_ret ?_ | refine zs_if ?_ | refine zs_next ?_ | refine zs_par ?_
  | refine ev_int ?_ | refine ev_bl ?_ | refine ev_str ?_ | refine ev_non ?_ | refine ev_ty ?_
  | refine ev_op ?_ | refine ev_un ?_ | refine ev_cb ?_ | refine ev_call ?_ | refine ea_cons ?_ | refine ea_nil ?_
  | refine ev_andV ?_ | refine ev_orV ?_ | refine ev_notV ?_ | refine ev_ifx ?_ | refine ev_chain ?_ | refine ev_sl ?_ | refine eo_none ?_ | refine eo_some ?_
  | refine et_test ?_ | refine et_B ?_ | refine et_and ?_ | refine et_or ?_ | refine et_not ?_ | refine et_yes ?_
  | refine u_add _ _ rfl rfl ?_ | refine r2_sub _ _ rfl rfl ?_ | refine r2_lt _ _ rfl rfl ?_ | refine r2_le _ _ rfl rfl ?_ | refine r2_gt _ _ rfl rfl ?_ | refine r2_ge _ _ rfl rfl ?_
  | refine r1_neg _ rfl ?_ | refine ev_bm ?_ | refine ev_bm0 ?_ | refine ⟨dty0, ?_⟩ | refine ⟨dty1, ?_⟩ | refine ⟨dty2, ?_⟩ | refine ⟨_, SQ.lst _, ?_⟩ | refine ⟨_, sq0, ?_⟩ | refine ⟨_, sq1, ?_⟩ | refine ea_star ?_
  | refine ⟨_, rfl, ?_⟩ | refine iteT ?_ | refine iteF ?_ | refine iteNT ?_ | refine iteNF ?_)
local macro_rules | `(tactic| walk_at "dl") => `(tactic| ((with_reducible refine' ev_var ?hv ?_); (case hv => rfl)))
local macro_rules | `(tactic| walk_at "gle") => `(tactic| repeat (first | exact GLe.nil | apply GLe.s | apply GLe.n))
section
variable {P : Program} {w : World} {K : PySem.W.Frag} {mg : Str → Option Value} {base : Heap} (G : Glb K mg)
theorem told_sums {b : List (List Int)} (hb : BoardOk b) (h9 : b.length ≤ 9) : Sums (tellZ b.length (ways b)) := by
  have hin := boardIn hb
  have h := told_bd h9 hin fun row hr => ris_length (k := row) ⟨hin row hr, (hb.2.2 row hr).2.2⟩
  exact ⟨by rw [tellZ_length]; omega, by rw [tellZ_length]; omega, fun n hn => by have := h n hn; omega⟩
def S_hit_counts : SpD := fun ds M Φ => ∃ b : List (List Int), ds = [LL b] ∧ BoardOk b ∧ b.length ≤ 9 ∧ Φ (LI (tOut (facW (tellZ b.length (ways b))))) M
include G in
theorem ok_hit_counts : FnOk P w K mg base CX0 7 G.f_hit_counts G.d_hit_counts ["board"] (spOf K S_hit_counts) := by
  refine def_ok G.F_hit_counts sc_hit_counts (fun ds M Φ h => by obtain ⟨_, rfl, _⟩ := h; rfl) fun cdv A outer s H E hr => ⟨_, (pss_one (ps_ret (pe_call (ok_hits_of G) (hr.mono (by first | exact Nat.le_refl _ | decide)) (by rfl) G.g_hits_of G.F_hits_of.kp G.B_hits_of .nil pass0 (pa_cons (pe_call (ok_rook_counts G) (hr.mono (by first | exact Nat.le_refl _ | decide)) (by rfl) G.g_rook_counts G.F_rook_counts.kp G.B_rook_counts .nil pass0 (pa_cons (pv 0) pa_nil)) pa_nil)))), fun ds M Φ h => ?_⟩
  try dsimp only [cxOf, L2.Cx.nox, L2.Cx.wish]
  obtain ⟨b, rfl, hb, h9, q⟩ := h
  repeat walk_at "dl"
  refine ⟨b, rfl, hb, h9, ?_⟩
  repeat walk_at "dl"
  refine ⟨_, rfl, told_sums hb h9, ?_⟩
  repeat walk_at "dl"
  exact q
end
end K16


set_option Elab.async false
set_option linter.all false
set_option maxRecDepth 100000
set_option maxHeartbeats 4000000
namespace K16
open PySem PySem.Spec PyProof.Rows L2 StX DL
local macro_rules | `(tactic| walk_at "dl") => `(tactic| with_reducible first
  | refine zs_seq ?_ | refine zs_set ?_ | refine zs_drop ?_ | refine zs_ret ?_ | refine zs_if ?_ | refine zs_next ?_ | refine zs_par ?_
  | refine ev_int ?_ | refine ev_bl ?_ | refine ev_str ?_ | refine ev_non ?_ | refine ev_ty ?_
  | refine ev_op ?_ | refine ev_un ?_ | refine ev_cb ?_ | refine ev_call ?_ | refine ea_cons ?_ | refine ea_nil ?_
  | refine ev_andV ?_ | refine ev_orV ?_ | refine ev_notV ?_ | refine ev_ifx ?_ | refine ev_chain ?_ | refine ev_sl ?_ | refine eo_none ?_ | refine eo_some ?_
  | refine et_test ?_ | refine et_B ?_ | refine et_and ?_ | refine et_or ?_ | refine et_not ?_ | refine et_yes ?_
  | refine u_add _ _ rfl rfl ?_ | refine r2_sub _ _ rfl rfl ?_ | refine r2_lt _ _ rfl rfl ?_ | refine r2_le _ _ rfl rfl ?_ | refine r2_gt _ _ rfl rfl ?_ | refine r2_ge _ _ rfl rfl ?_
  | refine r1_neg _ rfl ?_ | refine ev_bm ?_ | refine ev_bm0 ?_ | refine ⟨dty0, ?_⟩ | refine ⟨dty1, ?_⟩ | refine ⟨dty2, ?_⟩ | refine ⟨_, SQ.lst _, ?_⟩ | refine ⟨_, sq0, ?_⟩ | refine ⟨_, sq1, ?_⟩ | refine ea_star ?_
  | refine ⟨_, rfl, ?_⟩ | refine iteT ?_ | refine iteF ?_ | refine iteNT ?_ | refine iteNF ?_)
local macro_rules | `(tactic| walk_at "dl") => `(tactic| ((with_reducible refine' ev_var ?hv ?_); (case hv => rfl)))
local macro_rules | `(tactic| walk_at "gle") => `(tactic| repeat (first | exact GLe.nil | apply GLe.s | apply GLe.n))
/-! ### the law's own hits -/
def fH (l : List Int) : List Key := [.inl (mask l.tail), .inl (l.headD 0)]
theorem fH_inj {n m : Nat} {W : Tb} {p : List Int × Int} {h : Int} {k : List Int} (hn : n ≤ 9) (hW : OkT n m W) (hp : p ∈ W) (hk : Ris n k) (e : fH p.1 = fH (h :: k)) : p.1 = h :: k := by
  obtain ⟨a, j, e1, hj, _, _⟩ := okT_mem hW p hp
  rw [e1] at e ⊢
  have e2 : (Sum.inl (mask j) : Key) = Sum.inl (mask k) ∧ (Sum.inl a : Key) = Sum.inl h := by
    unfold fH at e
    injection e with x1 x2
    injection x2 with x2 _
    exact ⟨x1, x2⟩
  rw [fM_inj hn hj hk e2.1, Sum.inl.inj e2.2]
theorem dgH_tab {n m : Nat} {M : Ms} {x : D} {W : Tb} {h : Int} {k : List Int} (hn : n ≤ 9) (hW : OkT n m W) (hk : Ris n k) (l : DRT M x (tabZ fH W)) : DG M x (.tup [.int (mask k), .int h]) ((getZ W (h :: k)).map .int) :=
  .t (fH (h :: k)) l (valD_tab fH W fun _ hp e => fH_inj hn hW hp hk e)
theorem dgH_mem {n m : Nat} {M : Ms} {x : D} {W : Tb} {h v : Int} {k : List Int} (hn : n ≤ 9) (hW : OkT n m W) (hk : Ris n k) (hm : (h :: k, v) ∈ W) (l : DRT M x (tabZ fH W)) : DG M x (.tup [.int (mask k), .int h]) (some (.int v)) := by
  have := dgH_tab (h := h) hn hW hk l
  rw [getZ_mem hW.1 hm] at this
  exact this
theorem dptH_tab {n m : Nat} {M : Ms} {p : Addr} {W : Tb} {h v : Int} {k : List Int} (hn : n ≤ 9) (hW : OkT n m W) (hk : Ris n k) (hl : W.length < 100000) : DPt ((p, O.dT (tabZ fH W)) :: M) 0 (.ptr p) (.tup [.int (mask k), .int h]) (.int v) ((p, O.dT (tabZ fH (putZ W (h :: k) v))) :: M) := by
  have q := DPt.t (M := (p, O.dT (tabZ fH W)) :: M) (j := 0) (d := .int v) (fH (h :: k)) rfl (by unfold tabZ; rw [List.length_map]; exact hl)
  rw [putD_tab fH v fun _ hp e => fH_inj hn hW hp hk e] at q
  exact q
def fVal (W : Tb) (j : Int) : D → Option D
  | .tup [.int a, .int h] => if h = j then valD (tabZ fH W) [.inl a, .inl h] else none
  | _ => none
def gVal (j : Int) (p : List Int × Int) : Option Int := if p.1.headD 0 = j then some p.2 else none
theorem fVal_mem {n m : Nat} {W : Tb} {h v : Int} {k : List Int} (j : Int) (hn : n ≤ 9) (hW : OkT n m W) (hk : Ris n k) (hm : (h :: k, v) ∈ W) : fVal W j (.tup [.int (mask k), .int h]) = if h = j then some (.int v) else none := by
  have e : valD (tabZ fH W) (fH (h :: k)) = some (.int v) := by
    rw [valD_tab fH W fun _ hp e => fH_inj hn hW hp hk e, getZ_mem hW.1 hm]
    rfl
  show (if h = j then valD (tabZ fH W) (fH (h :: k)) else none) = _
  rw [e]
theorem fVal_map {n m : Nat} {W : Tb} (j : Int) (hn : n ≤ 9) (hW : OkT n m W) : ∀ V : Tb, (∀ p ∈ V, p ∈ W) → ((tabZ fH V).map fun p => D.tup (p.1.map kD)).filterMap (fVal W j) = (V.filterMap (gVal j)).map D.int
  | [], _ => rfl
  | (l, v) :: V, hV => by
    obtain ⟨h, k, e, hk, _, _⟩ := okT_mem hW _ (hV _ List.mem_cons_self)
    have e : l = h :: k := e
    subst e
    have ih := fVal_map j hn hW V fun p hp => hV p (List.mem_cons_of_mem _ hp)
    show List.filterMap (fVal W j) (D.tup [.int (mask k), .int h] :: ((tabZ fH V).map fun p => D.tup (p.1.map kD))) = _
    rw [List.filterMap_cons, List.filterMap_cons, fVal_mem j hn hW hk (hV _ List.mem_cons_self), show gVal j (h :: k, v) = if h = j then some v else none from rfl]
    by_cases z : h = j
    · rw [if_pos z, if_pos z]
      show _ :: _ = _ :: _
      rw [ih]
    · rw [if_neg z, if_neg z]
      exact ih
theorem gVal_sum (j : Int) : ∀ V : Tb, (V.filterMap (gVal j)).sum = total V fun l => if l.headD 0 = j then 1 else 0
  | [] => rfl
  | p :: V => by
    rw [List.filterMap_cons, total_cons, show gVal j p = if p.1.headD 0 = j then some p.2 else none from rfl]
    by_cases z : p.1.headD 0 = j
    · rw [if_pos z, if_pos z]
      show (p.2 :: V.filterMap (gVal j)).sum = _
      rw [List.sum_cons, gVal_sum j V]
      omega
    · rw [if_neg z, if_neg z]
      show (V.filterMap (gVal j)).sum = _
      rw [gVal_sum j V]
      omega
section
variable {P : Program} {w : World} {K : PySem.W.Frag} {mg : Str → Option Value} {base : Heap} (G : Glb K mg)
def S__law_wtaken : SpD := fun ds M Φ => ∃ b : List (List Int), ds = [LL b] ∧ BoardOk b ∧ b.length ≤ 9 ∧ Φ (LI (hitsT b.length (taken b.length b))) M
include G in
theorem ok__law_wtaken : FnOk P w K mg base CX0 2 G.f__law_wtaken G.d__law_wtaken ["board"] (spOf K S__law_wtaken) := by
  refine def_ok G.F__law_wtaken sc__law_wtaken (fun ds M Φ h => by obtain ⟨_, rfl, _⟩ := h; rfl) fun cdv A outer s H E hr => ⟨_, (pss_cons (ps_asg (pe_tup (pa_cons (pe_callB (call_lenU (K := K) rfl) (by rfl) G.b_len boot_len (pa_cons (pv 0) pa_nil)) (pa_cons (pe_disp1T hr.units (pps_cons (pe_tup (pa_cons pe_int (pa_cons pe_int pa_nil))) pe_int pps_nil)) pa_nil))) (pg_tupK (K := K) rfl rfl (pgs_cons (pg_name (i := 2) sc__law_wtaken.nd rfl (by first | exact .inl rfl | exact .inr rfl)) (pgs_cons (pg_name (i := 3) sc__law_wtaken.nd rfl (.inr rfl)) pgs_nil))))
(pss_cons (ps_for PassesOwn.never rfl (pi_src (K := K) rfl (pv 0)) (pg_name (i := 1) sc__law_wtaken.nd rfl (by first | exact .inl rfl | exact .inr rfl))
(pss_cons (ps_set (i := 4) sc__law_wtaken.nd rfl (by first | exact .inl rfl | exact .inr rfl) pe_dnewU)
(pss_cons (ps_for PassesOwn.never rfl (pi_either (pi_src (K := K) rfl (pe_callTy (call_listU (K := K) rfl rfl) (by rfl) G.b_list boot_list (pa_cons (pv 3) pa_nil))) (pi_listT rfl (pe_frzE (pv 3)) (by rfl) G.b_list boot_list (by decide) (by decide) rfl)) (pg_tupK (K := K) rfl rfl (pgs_cons (pg_name (i := 5) sc__law_wtaken.nd rfl (by first | exact .inl rfl | exact .inr rfl)) (pgs_cons (pg_name (i := 6) sc__law_wtaken.nd rfl (by first | exact .inl rfl | exact .inr rfl)) pgs_nil)))
(pss_one (ps_for PassesOwn.never rfl (pi_range1 (by rfl) G.b_range (pa_cons (pv 2) pa_nil)) (pg_name (i := 7) sc__law_wtaken.nd rfl (by first | exact .inl rfl | exact .inr rfl))
(pss_cons (ps_set (i := 9) sc__law_wtaken.nd rfl (by first | exact .inl rfl | exact .inr rfl) (pe_call (ok__law_wproduct G) (hr.mono (by first | exact Nat.le_refl _ | decide)) (by rfl) G.g__law_wproduct G.F__law_wproduct.kp G.B__law_wproduct .nil pass0 (pa_cons (pe_op op_mulA (pe_lst (pa_cons pe_int pa_nil)) (pv 7)) pa_nil)))
(pss_one (ps_if (pt_cmpR (op_eqK (K := K) rfl hr.units) (pe_op op_mod (pe_callTy call_int1 (by rfl) G.b_int boot_int (pa_cons (pe_op op_fdiv (pv 5) (pv 9)) pa_nil)) pe_int) pe_int (nomark _))
(pss_cons (ps_set (i := 10) sc__law_wtaken.nd rfl (by first | exact .inl rfl | exact .inr rfl) (pe_tup (pa_cons (pe_op (op_addU (K := K) rfl) (pv 5) (pv 9)) (pa_cons (pe_op (op_addU (K := K) rfl) (pv 6) (pe_callTy call_int1 (by rfl) G.b_int boot_int (pa_cons (pe_cmpR (op_inU (K := K) rfl hr.units) (pv 7) (pv 1) (by rfl)) pa_nil))) pa_nil))))
(pss_one (ps_either (ps_asg (pe_op (op_addU (K := K) rfl) (pe_dget2 (ix1 hr.units) (pv 4) (pv 10) pe_int ⟨rfl, rfl, rfl, rfl⟩) (pe_ix (ixU (K := K) rfl hr.units) (pv 3) (pe_tup (pa_cons (pv 5) (pa_cons (pv 6) pa_nil))) (fun _ _ => rfl))) (pg_sub (pv 4) (pv 10) set_list)) (ps_dput (ix1 hr.units) (pv 4) (pv 10) (pe_op (op_addU (K := K) rfl) (pe_dget2 (ix1 hr.units) (pv 4) (pv 10) pe_int ⟨rfl, rfl, rfl, rfl⟩) (pe_ix (ixU (K := K) rfl hr.units) (pv 3) (pe_tup (pa_cons (pv 5) (pa_cons (pv 6) pa_nil))) (fun _ _ => rfl))) (by rfl)))))
pss_nil))))))
(pss_one (ps_set (i := 3) sc__law_wtaken.nd rfl (by first | exact .inl rfl | exact .inr rfl) (pv 4))))))
(pss_one (ps_ret (pe_lc (own := [("k", 8)]) (g := (gName 8)) (tt := tYes) rfl sc__law_wtaken.nd (pi_range1 (by rfl) G.b_range (pa_cons (pe_op (op_addU (K := K) rfl) (pv 2) pe_int) pa_nil)) (blkOk_by (N := n__law_wtaken) (sc := defScope s__law_wtaken) (by decide +kernel)) (fun _ _ _ _ _ => (pg_name (i := 8) sc__law_wtaken.nd rfl (by first | exact .inl rfl | exact .inr rfl))) (fun _ _ _ _ _ => pts_nil) (fun _ _ _ _ _ => (pe_callB (cr_sumK (K := K) rfl rfl) (by rfl) G.b_sum boot_sum (pa_cons (pe_lc (own := [("key", 10)]) (g := (gName 10)) rfl sc__law_wtaken.nd (pi_src (K := K) rfl (pv 3)) (blkOk_by (N := n__law_wtaken) (sc := L2.relS _ (defScope s__law_wtaken)) (by decide +kernel)) (fun _ _ _ _ _ => (pg_name (i := 10) sc__law_wtaken.nd rfl (by first | exact .inl rfl | exact .inr rfl))) (fun _ _ _ _ _ => (pts_one (pt_cmpR (op_eqK (K := K) rfl hr.units) (pe_ix (ixU (K := K) rfl hr.units) (pv 10) pe_int (fun _ _ => rfl)) (pv 8) (nomark _)))) (fun _ _ _ _ _ => (pe_ix (ixU (K := K) rfl hr.units) (pv 3) (pv 10) (fun _ _ => rfl)))) pa_nil)))))))), fun ds M Φ h => ?_⟩
  try dsimp only [cxOf, L2.Cx.nox, L2.Cx.wish]
  obtain ⟨b, rfl, hb, h9, q⟩ := h
  repeat walk_at "dl"
  refine zs_asg (own := [2, 3]) (ev_tup ?_)
  repeat walk_at "dl"
  refine u_len (LL b) b.length rfl (ln_of (.lst _) (by rw [List.length_map])) ?_
  repeat walk_at "dl"
  refine ev_frz (en_disp1T ?_)
  repeat walk_at "dl"
  refine ev_tup ?_
  repeat walk_at "dl"
  refine ⟨by simp, ?_⟩
  repeat walk_at "dl"
  refine ⟨fH [0], rfl, ?_⟩
  repeat walk_at "dl"
  refine ⟨by simp, ?_⟩
  refine eg_tup rfl rfl (egs_cons (eg_name (by simp) (egs_cons (eg_name (by simp) (egs_nil ?_)))))
  repeat walk_at "dl"
  refine zs_for [1, 4, 5, 6, 7, 9, 10] (ei_srcL ?_)
  repeat walk_at "dl"
  refine ⟨b.map LI, .inl rfl, fun i Γ' M' => Γ' = [some (LL b), none, some (.int b.length), some (.dT (tabZ fH (taken b.length (b.take i)))), none, none, none, none, none, none, none] ∧ M' = M, ⟨_, by walk_at "gle", rfl, rfl⟩, fun i d Γ' M' hx hC => ?_, ?_⟩
  · obtain ⟨rfl, rfl⟩ := hC
    obtain ⟨row, hx2, rfl⟩ := mem_at hx
    have hib := (List.getElem?_eq_some_iff.mp hx2).1
    have hmem := List.mem_of_getElem? hx2
    have hrl := (hb.2.2 row hmem).1
    have hW := taken_ok b.length (b.take i)
    rw [List.length_take, Nat.min_eq_left (by omega)] at hW
    have hst : taken b.length (b.take (i + 1)) = tStep b.length (taken b.length (b.take i)) row := foldl_take (tStep b.length) hx2 _
    generalize taken b.length (b.take i) = W at hW hst ⊢
    refine eg_name (by simp) ?_
    repeat walk_at "dl"
    refine ev_own (en_dt fun p => ?_)
    repeat walk_at "dl"
    refine zs_for [5, 6, 7, 9, 10] (ei_eR (ei_listT ?_))
    repeat walk_at "dl"
    refine ⟨fun j Γ2 M2 => Γ2 = [some (LL b), some (LI row), some (.int b.length), some (.dT (tabZ fH W)), some (.ptr p), none, none, none, none, none, none] ∧ M2 = (p, .dT (tabZ fH ((W.take j).foldl (fun A p => tRow b.length row p.1 p.2 A) []))) :: M', ⟨_, by walk_at "gle", rfl, rfl⟩, fun j d Γ2 M2 hx hC => ?_, ?_⟩
    · obtain ⟨rfl, rfl⟩ := hC
      obtain ⟨kv, hx3, rfl⟩ := mem_at hx
      unfold tabZ at hx3
      rw [List.getElem?_map] at hx3
      obtain ⟨⟨l, v⟩, hx4, rfl⟩ := Option.map_eq_some_iff.mp hx3
      have hA := (tStepAux (row := row) (fun _ => 0) (W.take j) [] (fun p hp => okT_mem hW p (List.mem_of_mem_take hp)) (okT_nil _ _)).1
      have hjst := foldl_take (fun (A : Tb) (p : List Int × Int) => tRow b.length row p.1 p.2 A) hx4 []
      obtain ⟨h, k, rfl, hk, hh0, hh1⟩ := okT_mem hW _ (List.mem_of_getElem? hx4)
      show EG K _ _ (.tup [.int (mask k), .int h]) _ _ _
      refine eg_tup rfl rfl (egs_cons (eg_name (by simp) (egs_cons (eg_name (by simp) (egs_nil ?_)))))
      repeat walk_at "dl"
      generalize (W.take j).foldl (fun (A : Tb) (p : List Int × Int) => tRow b.length row p.1 p.2 A) [] = A at hA hjst ⊢
      have hk9 : k ∈ subs 9 := ris_subs 9 k ⟨fun x hx => by have := hk.1 x hx; omega, hk.2⟩
      refine zs_for [7, 9, 10] (ei_rng1 ?_)
      repeat walk_at "dl"
      refine ⟨by omega, by omega, fun m Γ3 M3 => Γ3 = [some (LL b), some (LI row), some (.int b.length), some (.dT (tabZ fH W)), some (.ptr p), some (.int (mask k)), some (.int h), none, none, none, none] ∧ M3 = (p, .dT (tabZ fH ((List.range m).foldl (tPut row (h :: k) v) A))) :: M', ⟨_, by walk_at "gle", rfl, rfl⟩, fun m d Γ3 M3 hx hC => ?_, ?_⟩
      · obtain ⟨rfl, rfl⟩ := hC
        obtain ⟨hm, rfl⟩ := rngD_get hx
        rw [Int.toNat_natCast] at hm
        rw [show (0 : Int) + (m : Int) = m by omega]
        have hm9 : m < 9 := by omega
        have hB := tAux_ok (row := row) v hk hh0 hh1 (List.range m) A (fun y hy => by have := List.mem_range.mp hy; omega) hA
        have hms : (List.range (m + 1)).foldl (tPut row (h :: k) v) A = tPut row (h :: k) v ((List.range m).foldl (tPut row (h :: k) v) A) m := by
          rw [List.range_succ, List.foldl_append]
          rfl
        generalize (List.range m).foldl (tPut row (h :: k) v) A = B at hB hms ⊢
        refine eg_name (by simp) ?_
        repeat walk_at "dl"
        refine ev_frz (en_lst ?_)
        repeat walk_at "dl"
        refine ⟨by decide, ?_⟩
        repeat walk_at "dl"
        refine r2_frz (r2_rep (m : Int) (.lst _) rfl (by omega) (by simp; omega) ?_)
        rw [rep_int, Int.toNat_natCast]
        repeat walk_at "dl"
        refine ⟨List.replicate m 2, rfl, by rw [List.length_replicate]; omega, fun y hy => by rw [(List.mem_replicate.mp hy).2]; decide, ?_⟩
        rw [prod2]
        have htab := mask_tab k hk9 m hm9
        repeat walk_at "dl"
        refine r2_fdiv _ _ rfl rfl (cdiv2 (mask_bd k hk9) hm9) ?_
        repeat walk_at "dl"
        refine rc_intI _ rfl ?_
        repeat walk_at "dl"
        refine r2_mod _ _ rfl rfl (by decide) ?_
        repeat walk_at "dl"
        refine r2_eqI _ _ rfl rfl ?_
        rw [htab]
        repeat walk_at "dl"
        by_cases hn : (m : Int) ∈ k
        · rw [if_pos hn, show decide ((1 : Int) = 0) = false from rfl]
          repeat walk_at "dl"
          refine ⟨_, by walk_at "gle", rfl, ?_⟩
          rw [hms]
          unfold tPut
          rw [if_pos (show (m : Int) ∈ (h :: k).tail from hn)]
        · rw [if_neg hn, show decide ((0 : Int) = 0) = true from rfl]
          repeat walk_at "dl"
          refine ev_tup ?_
          repeat walk_at "dl"
          refine u_inI (ns := row) (m : Int) rfl (.l (.lst _)) ?_
          repeat walk_at "dl"
          refine rc_intB _ rfl ?_
          have hh : (if decide ((m : Int) ∈ row) = true then (1 : Int) else 0) = hitOf row m := by
            unfold hitOf
            by_cases z : (m : Int) ∈ row
            · rw [if_pos z, if_pos (decide_eq_true z)]
            · rw [if_neg z, if_neg (by simpa using z)]
          rw [hh]
          repeat walk_at "dl"
          refine ⟨by simp, ?_⟩
          have hm2 : mask k + (2 : Int) ^ m = mask (insS k (m : Int)) := (mask_ins hn).symm
          rw [hm2]
          have hki : Ris b.length (insS k (m : Int)) := insS_ris hk (by omega)
          have hb5 := okT_short hB h9 (by omega)
          repeat walk_at "dl"
          refine es_eR (es_dput ?_)
          repeat walk_at "dl"
          refine ev_get2 ?_
          repeat walk_at "dl"
          refine ⟨.inr ⟨_, .own List.mem_cons_self⟩, ?_⟩
          repeat walk_at "dl"
          refine ⟨_, dgH_tab h9 hB hki (.own List.mem_cons_self), ?_⟩
          rw [getD_int]
          repeat walk_at "dl"
          refine ev_tup ?_
          repeat walk_at "dl"
          refine ⟨by simp, ?_⟩
          refine u_dg (d := .int v) (dgH_mem h9 hW hk (List.mem_of_getElem? hx4) (.dat _)) ?_
          repeat walk_at "dl"
          refine ⟨0, _, dptH_tab h9 hB hki (by omega), ?_⟩
          refine ⟨_, by walk_at "gle", rfl, ?_⟩
          rw [hms]
          unfold tPut
          rw [if_neg (show ¬ (m : Int) ∈ (h :: k).tail from hn)]
          rfl
      · rintro Γ3 M3 ⟨rfl, rfl⟩
        refine ⟨_, by walk_at "gle", rfl, ?_⟩
        rw [rngD_length, Int.toNat_natCast, hjst]
        rfl
    · rintro Γ2 M2 ⟨rfl, rfl⟩
      refine es_letgo 4 0 rfl rfl ?_
      repeat walk_at "dl"
      have e : (W.take ((tabZ fH W).map fun p => D.tup (List.map kD p.1)).length).foldl (fun A p => tRow b.length row p.1 p.2 A) [] = taken b.length (b.take (i + 1)) := by
        rw [List.length_map, show (tabZ fH W).length = W.length from List.length_map _, List.take_length, hst]
        rfl
      refine ⟨_, ?_, rfl, rfl⟩
      rw [← e]
      walk_at "gle"
  · rintro Γ' M' ⟨rfl, rfl⟩
    have hW := taken_ok b.length b
    have e : taken b.length (b.take (b.map LI).length) = taken b.length b := by rw [List.length_map, List.take_length]
    rw [e]
    generalize taken b.length b = W at hW q ⊢
    repeat walk_at "dl"
    refine ev_frz (en_map (ei_rng1 ?_))
    repeat walk_at "dl"
    refine ⟨by omega, by omega, by rw [rngD_length]; omega, (hitsT b.length W).map .int, by rw [rngD_length, List.length_map]; unfold hitsT; rw [List.length_map, List.length_range]; omega, fun j d hj => eg_name' ?_, ?_⟩
    · obtain ⟨hj2, rfl⟩ := rngD_get hj
      rw [show (0 : Int) + (j : Int) = j by omega]
      repeat walk_at "dl"
      refine ev_frz (en_flt (ei_srcD ?_))
      repeat walk_at "dl"
      refine .inr ⟨_, rfl, ?_⟩
      have hlen : (tabZ fH W).length = W.length := List.length_map _
      have hW5 := okT_short hW h9 h9
      refine ⟨by rw [List.length_map, hlen]; omega, fVal W j, fun i d hi => ?_, ?_⟩
      · obtain ⟨kv, hx3, rfl⟩ := mem_at hi
        unfold tabZ at hx3
        rw [List.getElem?_map] at hx3
        obtain ⟨⟨l, v⟩, hx4, rfl⟩ := Option.map_eq_some_iff.mp hx3
        obtain ⟨h, k, rfl, hk, hh0, hh1⟩ := okT_mem hW _ (List.mem_of_getElem? hx4)
        show EG K _ _ (.tup [.int (mask k), .int h]) _ _ _
        refine eg_name (by simp) ?_
        repeat walk_at "dl"
        refine u_ixT 1 rfl rfl rfl ?_
        repeat walk_at "dl"
        refine r2_eqI _ _ rfl rfl ?_
        repeat walk_at "dl"
        have hf := fVal_mem (j : Int) h9 hW hk (List.mem_of_getElem? hx4)
        by_cases z : h = (j : Int)
        · rw [decide_eq_true z]
          repeat walk_at "dl"
          refine u_dg (d := .int v) (dgH_mem h9 hW hk (List.mem_of_getElem? hx4) (.dat _)) ?_
          exact ⟨hf.trans (if_pos z), rfl⟩
        · rw [decide_eq_false z]
          repeat walk_at "dl"
          exact ⟨hf.trans (if_neg z), rfl⟩
      · have hj3 : j < b.length + 1 := by omega
        rw [fVal_map j h9 hW W fun _ h => h]
        repeat walk_at "dl"
        refine rc_sum _ _ rfl (.lst _) ?_
        rw [gVal_sum]
        refine ⟨?_, rfl⟩
        unfold hitsT
        rw [List.map_map, List.getElem?_map, List.getElem?_range hj3]
        rfl
    · repeat walk_at "dl"
      exact q
end
end K16


set_option Elab.async false
set_option linter.all false
set_option maxRecDepth 100000
set_option maxHeartbeats 4000000
namespace K16
open PySem PySem.Spec PyProof.Rows L2 StX DL
local macro_rules | `(tactic| walk_at "dl") => `(tactic| with_reducible first
  | refine zs_seq ?_ | refine zs_set ?_ | refine zs_drop ?_ | refine zs_ret ?_ | refine zs_if ?_ | refine zs_next ?_ | refine zs_par ?_
  | refine ev_int ?_ | refine ev_bl ?_ | refine ev_str ?_ | refine ev_non ?_ | refine ev_ty ?_
  | refine ev_op ?_ | refine ev_un ?_ | refine ev_cb ?_ | refine ev_call ?_ | refine ea_cons ?_ | refine ea_nil ?_
  | refine ev_andV ?_ | refine ev_orV ?_ | refine ev_notV ?_ | refine ev_ifx ?_ | refine ev_chain ?_ | refine ev_sl ?_ | refine eo_none ?_ | refine eo_some ?_
  | refine et_test ?_ | refine et_B ?_ | refine et_and ?_ | refine et_or ?_ | refine et_not ?_ | refine et_yes ?_
  | refine u_add _ _ rfl rfl ?_ | refine r2_sub _ _ rfl rfl ?_ | refine r2_lt _ _ rfl rfl ?_ | refine r2_le _ _ rfl rfl ?_ | refine r2_gt _ _ rfl rfl ?_ | refine r2_ge _ _ rfl rfl ?_
  | refine r1_neg _ rfl ?_ | refine ev_bm ?_ | refine ev_bm0 ?_ | refine ⟨dty0, ?_⟩ | refine ⟨dty1, ?_⟩ | refine ⟨dty2, ?_⟩ | refine ⟨_, SQ.lst _, ?_⟩ | refine ⟨_, sq0, ?_⟩ | refine ⟨_, sq1, ?_⟩ | refine ea_star ?_
  | refine ⟨_, rfl, ?_⟩ | refine iteT ?_ | refine iteF ?_ | refine iteNT ?_ | refine iteNF ?_)
local macro_rules | `(tactic| walk_at "dl") => `(tactic| ((with_reducible refine' ev_var ?hv ?_); (case hv => rfl)))
local macro_rules | `(tactic| walk_at "gle") => `(tactic| repeat (first | exact GLe.nil | apply GLe.s | apply GLe.n))
/-! ### avoid_up -/
def pI (l : Pr) : List (Key × D) := l.map fun q => (.inl q.1, .int q.2)
theorem valD_pI (l : Pr) (p : Int) : valD (pI l) (.inl p) = (getI l p).map D.int := by
  induction l with
  | nil => rfl
  | cons q l ih =>
    show valD ((.inl q.1, .int q.2) :: pI l) _ = _
    rw [valD_cons, getI, ih]
    by_cases e : q.1 = p
    · rw [if_pos e, if_pos (congrArg Sum.inl e)]
      rfl
    · rw [if_neg e, if_neg fun z => e (Sum.inl.inj z)]
theorem putD_pI (l : Pr) (p r : Int) : putD (pI l) (.inl p) (.int r) = pI (putI l p r) := by
  by_cases m : p ∈ l.map (·.1)
  · have h : (valD (pI l) (.inl p)).isSome = true := by
      rw [valD_pI]
      cases e : getI l p with
      | none => exact absurd m (getI_none.mp e)
      | some r => rfl
    rw [putD_old _ h]
    unfold pI putI
    rw [if_pos m, List.map_map, List.map_map]
    refine List.map_congr_left fun q _ => ?_
    show (if (Sum.inl q.1 : Key) = .inl p then ((Sum.inl q.1 : Key), D.int r) else (.inl q.1, .int q.2)) = (.inl (if q.1 = p then (q.1, r) else q).1, .int (if q.1 = p then (q.1, r) else q).2)
    by_cases e : q.1 = p
    · rw [if_pos e, if_pos (congrArg Sum.inl e)]
    · rw [if_neg e, if_neg fun z => e (Sum.inl.inj z)]
  · have h : valD (pI l) (.inl p) = none := by rw [valD_pI, getI_none.mpr m]; rfl
    rw [putD_new _ h]
    unfold pI putI
    rw [if_neg m, List.map_append]
    rfl
/-- place p is free in row r -/
def Fre (b : List (List Int)) (r p : Int) : Prop := ∃ row, b[r.toNat]? = some row ∧ 0 ≤ r ∧ p ∈ freeRow b.length row
inductive AvOk (b : List (List Int)) : D → Prop
  | yes {ps : List Int} : Pl b.length b [] ps → AvOk b (.tup [.str "yes", LI ps])
  | no {rs : List Int} : rs.Pairwise (· < ·) → (∀ r ∈ rs, 0 ≤ r ∧ r < (b.length : Int)) → (∃ S : List Int, S.length < rs.length ∧ ∀ r ∈ rs, ∀ p, Fre b r p → p ∈ S) → AvOk b (.tup [.str "no", LI rs])
def endD : Option Int → D
  | none => .non
  | some e => .int e
/-- what the search has found -/
def Sk (b : List (List Int)) (f : Int) (o seen : Pr) (R : List Int) : Option Int → Prop
  | none => Tree (Fre b) f o seen R ∧ seen.length + 1 = R.length
  | some e => Aug (Fre b) f seen R o e R.length
def Cov (b : List (List Int)) (seen : Pr) (R : List Int) (dn : Nat) : Prop := ∀ (s : Nat) (r : Int), s < dn → R[s]? = some r → ∀ p, Fre b r p → p ∈ seen.map (·.1)
def RB (i : Nat) (seen : Pr) (R : List Int) : Prop := (∀ r ∈ R, 0 ≤ r ∧ r ≤ (i : Int)) ∧ R.length ≤ i + 1 ∧ 0 < R.length ∧ seen.length ≤ R.length
theorem dpt_pI {M : Ms} {p : Addr} {l : Pr} (j : Nat) (x r : Int) (h : M[j]? = some (p, O.dK (pI l))) (hl : l.length < 100000) : DPt M j (.ptr p) (.int x) (.int r) (M.set j (p, .dK (pI (putI l x r)))) := by
  have q := DPt.k (M := M) (j := j) (d := .int r) (.inl x) h (by unfold pI; rw [List.length_map]; exact hl)
  rw [putD_pI] at q
  exact q
theorem mem_put {l : Pr} {p r x : Int} (h : x ∈ l.map (·.1)) : x ∈ (putI l p r).map (·.1) := by
  rw [putI_keys]
  split
  · exact h
  · exact List.mem_append_left _ h
theorem mem_put' {l : Pr} {p r : Int} : p ∈ (putI l p r).map (·.1) := by
  rw [putI_keys]
  split
  · assumption
  · exact List.mem_append_right _ List.mem_cons_self
theorem r2_neX {K : PySem.W.Frag} {M : Ms} {x y : D} {Φ : D → Ms → Prop} (j : Int) (hx : x = .non ∨ ∃ r : Int, r ≠ j ∧ x = .int r) (hy : y = .int j) (h : Φ (.bl true) M) : R2' K (rNeA K) x y M Φ := by
  rcases hx with hx | ⟨r, hr, hx⟩
  · exact r2_neNI j hx hy h
  · exact r2_neI r j hx hy (by rw [decide_eq_false hr]; exact h)
theorem fre_in {b : List (List Int)} {r p : Int} (h : Fre b r p) : 0 ≤ p ∧ p < (b.length : Int) := by
  obtain ⟨row, _, _, h⟩ := h
  unfold freeRow rangeZ at h
  obtain ⟨k, hk, e⟩ := List.mem_map.mp (List.mem_filter.mp h).1
  have := List.mem_range.mp hk
  omega
theorem aug_len {b : List (List Int)} {f : Int} {seen : Pr} {R : List Int} {o : Pr} {q : Int} {j : Nat} (a : Aug (Fre b) f seen R o q j) : o.length ≤ b.length := by
  have := nodup_le (b := (List.range b.length).map fun i : Nat => (i : Int)) a.nd fun x hx => by
    have : 0 ≤ x ∧ x < (b.length : Int) := by
      by_cases e : x = q
      · obtain ⟨_, ri, _, _, _, h⟩ := a.src
        rw [e]
        exact fre_in h
      · cases hg : getI o x with
        | none => exact absurd hx (getI_none.mp hg)
        | some r => exact fre_in (a.rng x r e hg).2.2
    exact List.mem_map.mpr ⟨x.toNat, List.mem_range.mpr (by omega), by omega⟩
  rw [List.length_map, List.length_map, List.length_range] at this
  exact this
def whoD (o : Pr) (r : Int) : D → Option D
  | .int x => if getI o x = some r then some (.int x) else none
  | _ => none
theorem who_map (o : Pr) (r : Int) : ∀ l : Pr, ((pI l).map fun p => kD p.1).filterMap (whoD o r) = ((l.map (·.1)).filter fun p => decide (getI o p = some r)).map D.int
  | [] => rfl
  | q :: l => by
    have ih := who_map o r l
    show List.filterMap (whoD o r) (D.int q.1 :: ((pI l).map fun p => kD p.1)) = _
    rw [List.filterMap_cons, List.map_cons, List.filter_cons]
    by_cases e : getI o q.1 = some r
    · rw [show whoD o r (.int q.1) = some (.int q.1) from if_pos e, decide_eq_true e, if_pos rfl, List.map_cons, ← ih]
    · rw [show whoD o r (.int q.1) = none from if_neg e, decide_eq_false e, if_neg (by simp), ← ih]
section
variable {P : Program} {w : World} {K : PySem.W.Frag} {mg : Str → Option Value} {base : Heap} (G : Glb K mg)
def S_avoid_up : SpD := fun ds M Φ => ∃ b : List (List Int), ds = [LL b] ∧ BoardOk b ∧ ∀ d, AvOk b d → Φ d M
include G in
theorem ok_avoid_up : FnOk P w K mg base CX0 6 G.f_avoid_up G.d_avoid_up ["board"] (spOf K S_avoid_up) := by
  refine def_ok G.F_avoid_up sc_avoid_up (fun ds M Φ h => by obtain ⟨_, rfl, _⟩ := h; rfl) fun cdv A outer s H E hr => ⟨_, (pss_cons (ps_expr (pe_call (ok_check_board G) (hr.mono (by first | exact Nat.le_refl _ | decide)) (by rfl) G.g_check_board G.F_check_board.kp G.B_check_board .nil pass0 (pa_cons (pv 0) pa_nil)))
(pss_cons (ps_set (i := 1) sc_avoid_up.nd rfl (by first | exact .inl rfl | exact .inr rfl) (pe_call (ok_free_places G) (hr.mono (by first | exact Nat.le_refl _ | decide)) (by rfl) G.g_free_places G.F_free_places.kp G.B_free_places .nil pass0 (pa_cons (pv 0) pa_nil)))
(pss_cons (ps_set (i := 2) sc_avoid_up.nd rfl (by first | exact .inl rfl | exact .inr rfl) pe_dnewU)
(pss_cons (ps_for PassesOwn.never rfl (pi_range1 (by rfl) G.b_range (pa_cons (pe_callB (call_lenU (K := K) rfl) (by rfl) G.b_len boot_len (pa_cons (pv 0) pa_nil)) pa_nil)) (pg_name (i := 3) sc_avoid_up.nd rfl (by first | exact .inl rfl | exact .inr rfl))
(pss_cons (ps_set (i := 5) sc_avoid_up.nd rfl (by first | exact .inl rfl | exact .inr rfl) pe_dnewU)
(pss_cons (ps_set (i := 6) sc_avoid_up.nd rfl (by first | exact .inl rfl | exact .inr rfl) (pe_lst (pa_cons (pv 3) pa_nil)))
(pss_cons (ps_set (i := 7) sc_avoid_up.nd rfl (by first | exact .inl rfl | exact .inr rfl) pe_non)
(pss_cons (ps_set (i := 8) sc_avoid_up.nd rfl (by first | exact .inl rfl | exact .inr rfl) pe_int)
(pss_cons (ps_while PassesOwn.never (pt_cmpR op_lt (pv 8) (pe_callB (call_lenU (K := K) rfl) (by rfl) G.b_len boot_len (pa_cons (pv 6) pa_nil)) (nomark _))
(pss_cons (ps_for PassesOwn.never rfl (pi_either (pi_src (K := K) rfl (pe_callTy (call_listU (K := K) rfl rfl) (by rfl) G.b_list boot_list (pa_cons (pe_ix (ixU (K := K) rfl hr.units) (pv 1) (pe_ix (ixU (K := K) rfl hr.units) (pv 6) (pv 8) (fun _ _ => rfl)) (fun _ _ => rfl)) pa_nil))) (pi_listT rfl (pe_frzE (pe_ix (ixU (K := K) rfl hr.units) (pv 1) (pe_ix (ixU (K := K) rfl hr.units) (pv 6) (pv 8) (fun _ _ => rfl)) (fun _ _ => rfl))) (by rfl) G.b_list boot_list (by decide) (by decide) rfl)) (pg_name (i := 9) sc_avoid_up.nd rfl (by first | exact .inl rfl | exact .inr rfl))
(pss_one (ps_if (PW.pt (pw_and (pt_cmpR op_isN (pv 7) pe_non (nomark _)) (pw_and1 (pt_cmpR (op_notInU (K := K) rfl hr.units) (pv 9) (pv 5) (by rfl)))))
(pss_cons (ps_either (ps_asg (pe_ix (ixU (K := K) rfl hr.units) (pv 6) (pv 8) (fun _ _ => rfl)) (pg_sub (pv 5) (pv 9) set_list)) (ps_dput (ix1 hr.units) (pv 5) (pv 9) (pe_ix (ixU (K := K) rfl hr.units) (pv 6) (pv 8) (fun _ _ => rfl)) (by rfl)))
(pss_one (ps_if (pt_cmpR (op_inU (K := K) rfl hr.units) (pv 9) (pv 2) (by rfl))
(pss_one (ps_expr (pe_bmK (K := K) rfl PySem.F.plainAttrs_list PySem.F.slot_list_append PySem.F.type_list_append mt_append (pv 6) (pa_cons (pe_ix (ixU (K := K) rfl hr.units) (pv 2) (pv 9) (fun _ _ => rfl)) pa_nil))))
(pss_one (ps_set (i := 7) sc_avoid_up.nd rfl (by first | exact .inl rfl | exact .inr rfl) (pv 9))))))
pss_nil)))
(pss_one (ps_set (i := 8) sc_avoid_up.nd rfl (by first | exact .inl rfl | exact .inr rfl) (pe_op (op_addU (K := K) rfl) (pv 8) pe_int)))))
(pss_cons (ps_if (pt_cmpR op_isN (pv 7) pe_non (nomark _))
(pss_one (ps_ret (pe_tup (pa_cons pe_str (pa_cons (pe_callB (call_sortedU (K := K) rfl rfl) (by rfl) G.b_sorted boot_sorted (pa_cons (pv 6) pa_nil)) pa_nil)))))
pss_nil)
(pss_cons (ps_set (i := 9) sc_avoid_up.nd rfl (by first | exact .inl rfl | exact .inr rfl) (pv 7))
(pss_cons (ps_set (i := 10) sc_avoid_up.nd rfl (by first | exact .inl rfl | exact .inr rfl) pe_non)
(pss_one (ps_while PassesOwn.never (pt_cmpR (op_neK (K := K) rfl hr.units) (pv 10) (pv 3) (nomark _))
(pss_cons (ps_set (i := 10) sc_avoid_up.nd rfl (by first | exact .inl rfl | exact .inr rfl) (pe_ix (ixU (K := K) rfl hr.units) (pv 5) (pv 9) (fun _ _ => rfl)))
(pss_cons (ps_lock (ps_setLc (i := 11) (own := [("other", 12)]) (g := (gName 12)) rfl sc_avoid_up.nd rfl rfl (sw_true rfl rfl rfl (by decide +kernel)) (pi_src (K := K) rfl (pv 2)) (blkOk_by (N := n_avoid_up) (sc := defScope s_avoid_up) (by decide +kernel)) (fun _ _ _ _ _ => (pg_name (i := 12) sc_avoid_up.nd rfl (by first | exact .inl rfl | exact .inr rfl))) (fun _ _ _ _ _ => (pts_one (pt_cmpR (op_eqK (K := K) rfl hr.units) (pe_ix (ixU (K := K) rfl hr.units) (pv 2) (pv 12) (fun _ _ => rfl)) (pv 10) (nomark _)))) (fun _ _ _ _ _ => (pv 12))))
(pss_cons (ps_either (ps_asg (pv 10) (pg_sub (pv 2) (pv 9) set_list)) (ps_dput (ix1 hr.units) (pv 2) (pv 9) (pv 10) (by rfl)))
(pss_one (ps_if (pt_truthK (K := K) rfl (pv 11) (by intro _; rfl))
(pss_one (ps_set (i := 9) sc_avoid_up.nd rfl (by first | exact .inl rfl | exact .inr rfl) (pe_ix (ixU (K := K) rfl hr.units) (pv 11) pe_int (fun _ _ => rfl))))
pss_nil))))))))))))))))
(pss_cons (ps_set (i := 4) sc_avoid_up.nd rfl (by first | exact .inl rfl | exact .inr rfl) (pe_callTy (call_dictU (K := K) (P := P) (w := w) rfl rfl rfl rfl hr.units) (by rfl) G.b_dict boot_dict (pa_cons (pe_lc (own := [("place", 9)]) (g := (gName 9)) (tt := tYes) rfl sc_avoid_up.nd (pi_src (K := K) rfl (pv 2)) (blkOk_by (N := n_avoid_up) (sc := defScope s_avoid_up) (by decide +kernel)) (fun _ _ _ _ _ => (pg_name (i := 9) sc_avoid_up.nd rfl (by first | exact .inl rfl | exact .inr rfl))) (fun _ _ _ _ _ => pts_nil) (fun _ _ _ _ _ => (pe_tup (pa_cons (pe_ix (ixU (K := K) rfl hr.units) (pv 2) (pv 9) (fun _ _ => rfl)) (pa_cons (pv 9) pa_nil))))) pa_nil)))
(pss_one (ps_ret (pe_tup (pa_cons pe_str (pa_cons (pe_lc (own := [("row", 10)]) (g := (gName 10)) (tt := tYes) rfl sc_avoid_up.nd (pi_range1 (by rfl) G.b_range (pa_cons (pe_callB (call_lenU (K := K) rfl) (by rfl) G.b_len boot_len (pa_cons (pv 0) pa_nil)) pa_nil)) (blkOk_by (N := n_avoid_up) (sc := defScope s_avoid_up) (by decide +kernel)) (fun _ _ _ _ _ => (pg_name (i := 10) sc_avoid_up.nd rfl (by first | exact .inl rfl | exact .inr rfl))) (fun _ _ _ _ _ => pts_nil) (fun _ _ _ _ _ => (pe_ix (ixU (K := K) rfl hr.units) (pv 4) (pv 10) (fun _ _ => rfl)))) pa_nil)))))))))), fun ds M Φ h => ?_⟩
  try dsimp only [cxOf, L2.Cx.nox, L2.Cx.wish]
  obtain ⟨b, rfl, hb, q⟩ := h
  have hb1 := hb.1
  have hb2 := hb.2.1
  repeat walk_at "dl"
  refine ⟨b, rfl, hb, ?_⟩
  repeat walk_at "dl"
  refine ⟨b, rfl, by omega, fun row hr => (hb.2.2 row hr).1, ?_⟩
  repeat walk_at "dl"
  refine ev_own (en_dk fun ow => ?_)
  repeat walk_at "dl"
  refine zs_for [3, 5, 6, 7, 8, 9, 10, 11, 12] (ei_rng1 ?_)
  repeat walk_at "dl"
  refine u_len (LL b) b.length rfl (ln_of (.lst _) (by rw [List.length_map])) ?_
  repeat walk_at "dl"
  refine ⟨by omega, by omega, fun i Γ' M' => Γ' = [some (LL b), some (LL (freeB b)), some (.ptr ow), none, none, none, none, none, none, none, none, none, none] ∧ ∃ o : Pr, M' = (ow, .dK (pI o)) :: M ∧ Mt (Fre b) (i : Int) o, ⟨_, by walk_at "gle", rfl, [], rfl, mt_zero⟩, fun i d Γ' M' hx hC => ?_, ?_⟩
  · obtain ⟨rfl, o, rfl, hm⟩ := hC
    obtain ⟨hi, rfl⟩ := rngD_get hx
    rw [Int.toNat_natCast] at hi
    rw [show (0 : Int) + (i : Int) = i by omega]
    refine eg_name (by simp) ?_
    repeat walk_at "dl"
    refine ev_own (en_dk fun se => ?_)
    repeat walk_at "dl"
    refine ev_own (en_lst ?_)
    repeat walk_at "dl"
    refine ⟨by simp, fun ro => ?_⟩
    repeat walk_at "dl"
    have hi1 : i + 1 ≤ 64 := by omega
    refine zs_cut (fun Γ' M' => ∃ (seen : Pr) (R : List Int) (e : Option Int) (dn : Int), Γ' = [some (LL b), some (LL (freeB b)), some (.ptr ow), some (.int (i : Int)), none, some (.ptr se), some (.ptr ro), some (endD e), some (.int dn), none, none, none, none] ∧ M' = (ro, .lst (R.map .int)) :: (se, .dK (pI seen)) :: (ow, .dK (pI o)) :: M ∧ Sk b i o seen R e ∧ RB i seen R ∧ (e = none → Cov b seen R R.length))
      (zs_while (fun m Γ' M' => ∃ (seen : Pr) (R : List Int) (e : Option Int) (dn : Nat), m = b.length + 1 - dn ∧ dn ≤ R.length ∧ Γ' = [some (LL b), some (LL (freeB b)), some (.ptr ow), some (.int (i : Int)), none, some (.ptr se), some (.ptr ro), some (endD e), some (.int (dn : Int)), none, none, none, none] ∧ M' = (ro, .lst (R.map .int)) :: (se, .dK (pI seen)) :: (ow, .dK (pI o)) :: M ∧ Sk b i o seen R e ∧ RB i seen R ∧ (e = none → Cov b seen R dn))
        (b.length + 1) _ (by walk_at "gle") ⟨[], [(i : Int)], none, 0, rfl, by simp, rfl, rfl, ⟨tree_start (by omega), rfl⟩, ⟨by simp, by simp, by simp, by simp⟩, fun _ s r hs => by omega⟩ fun m Γ' M' hC => ?_) ?_
    · obtain ⟨seen, R, e, dn, rfl, hdn, rfl, rfl, hs, hr, hc⟩ := hC
      repeat walk_at "dl"
      refine u_len (.ptr ro) R.length rfl (ln_of sq0 (by rw [List.length_map])) ?_
      repeat walk_at "dl"
      refine dite_bl (fun hlt => ?_) (fun hlt => ?_)
      · obtain ⟨rd, hrd⟩ : ∃ rd, R[dn]? = some rd := ⟨_, List.getElem?_eq_getElem (by omega)⟩
        have hrr := hr.1 rd (List.mem_of_getElem? hrd)
        obtain ⟨row, hrow⟩ : ∃ row, b[rd.toNat]? = some row := ⟨_, List.getElem?_eq_getElem (by omega)⟩
        have hri : rd = ((rd.toNat : Nat) : Int) := by omega
        have hfl : (freeRow b.length row).length ≤ 64 := by
          unfold freeRow
          have := List.length_filter_le (fun x => !decide (x ∈ row)) (rangeZ 0 b.length)
          rw [rangeZ_length] at this
          omega
        refine zs_seq (zs_for [9] (ei_eL (ei_srcL ?_)))
        repeat walk_at "dl"
        refine u_ixL _ lq0 rfl (atI_ints hrd) ?_
        refine u_ixL _ (.of (.lst _)) rfl (atI_of (k := rd.toNat) hri (show ((freeB b).map LI)[rd.toNat]? = some (LI (freeRow b.length row)) by unfold freeB; rw [List.getElem?_map, List.getElem?_map, hrow]; rfl)) ?_
        repeat walk_at "dl"
        refine rc_frz (u_list (ds := (freeRow b.length row).map .int) _ rfl (.l (.of (.lst _))) ?_)
        refine ⟨(freeRow b.length row).map .int, .inl rfl, fun k Γ3 M3 => ∃ (seen : Pr) (R : List Int) (e : Option Int), R[dn]? = some rd ∧ Γ3 = [some (LL b), some (LL (freeB b)), some (.ptr ow), some (.int (i : Int)), none, some (.ptr se), some (.ptr ro), some (endD e), some (.int (dn : Int)), none, none, none, none] ∧ M3 = (ro, .lst (R.map .int)) :: (se, .dK (pI seen)) :: (ow, .dK (pI o)) :: M ∧ Sk b i o seen R e ∧ RB i seen R ∧ (e = none → Cov b seen R dn ∧ ∀ p ∈ (freeRow b.length row).take k, p ∈ seen.map (·.1)),
          ⟨_, by walk_at "gle", seen, R, e, hrd, rfl, rfl, hs, hr, fun he => ⟨hc he, fun p hp => by simp at hp⟩⟩, fun k d Γ3 M3 hx hC => ?_, ?_⟩
        · obtain ⟨seen, R, e, hrd, rfl, rfl, hs, hr, hc⟩ := hC
          obtain ⟨p, hp, rfl⟩ := mem_at hx
          have hpm := List.mem_of_getElem? hp
          have hF : Fre b rd p := ⟨row, hrow, hrr.1, hpm⟩
          have hdl := (List.getElem?_eq_some_iff.mp hrd).1
          refine eg_name (by simp) ?_
          repeat walk_at "dl"
          refine r2_isN rfl ?_
          repeat walk_at "dl"
          cases e with
          | some e =>
            refine iteF (iteF ?_)
            repeat walk_at "dl"
            exact ⟨_, by walk_at "gle", seen, R, some e, hrd, rfl, rfl, hs, hr, fun z => nomatch z⟩
          | none =>
            obtain ⟨hc1, hc2⟩ := hc rfl
            refine iteT ?_
            repeat walk_at "dl"
            refine u_niD (.i (.own (.tail _ (.head _))) (valD_pI seen p)) ?_
            repeat walk_at "dl"
            cases hg : getI seen p with
            | some r0 =>
              refine iteF ?_
              repeat walk_at "dl"
              have hin : p ∈ seen.map (·.1) := List.mem_map.mpr ⟨_, getI_mem hg, rfl⟩
              refine ⟨_, by walk_at "gle", seen, R, none, hrd, rfl, rfl, hs, hr, fun _ => ⟨hc1, fun x hx => ?_⟩⟩
              rw [List.take_add_one, hp, List.mem_append] at hx
              rcases hx with hx | hx
              · exact hc2 x hx
              · have : x = p := by simpa using hx
                rw [this]
                exact hin
            | none =>
              have hnin := getI_none.mp hg
              refine iteT ?_
              obtain ⟨ht, hcnt⟩ := hs
              repeat walk_at "dl"
              refine es_eR (es_dput ?_)
              repeat walk_at "dl"
              refine u_ixL _ lq0 rfl (atI_ints hrd) ?_
              repeat walk_at "dl"
              refine ⟨1, _, dpt_pI 1 p rd rfl (by have := hr.2.1; have := hr.2.2.2; omega), ?_⟩
              repeat walk_at "dl"
              refine u_inD (.i (.own (.tail _ (.tail _ (.head _)))) (valD_pI o p)) ?_
              repeat walk_at "dl"
              have hcov : ∀ x ∈ (freeRow b.length row).take (k + 1), x ∈ (putI seen p rd).map (·.1) := fun x hx => by
                rw [List.take_add_one, hp, List.mem_append] at hx
                rcases hx with hx | hx
                · exact mem_put (hc2 x hx)
                · have : x = p := by simpa using hx
                  rw [this]
                  exact mem_put'
              have hslen : (putI seen p rd).length = seen.length + 1 := by rw [putI_new _ hnin, List.length_append]; rfl
              cases ho : getI o p with
              | some r =>
                refine iteT ?_
                repeat walk_at "dl"
                refine u_dg (d := .int r) (.i (.own (.tail _ (.tail _ (.head _)))) (by rw [valD_pI, ho]; rfl)) ?_
                repeat walk_at "dl"
                refine rm_append 0 _ rfl rfl rfl (by rw [List.length_map]; have := hr.2.1; omega) ?_
                have ht2 := tree_add hm ht hrd hF hnin ho
                have hl2 := tree_len ht2 (by omega)
                refine ⟨_, by walk_at "gle", putI seen p rd, R ++ [r], none, by rw [List.getElem?_append_left hdl]; exact hrd, rfl, ?_, ⟨ht2, by rw [hslen, List.length_append]; simp; omega⟩, ⟨ht2.rn, by omega, by simp, by rw [hslen, List.length_append]; simp; omega⟩, fun _ => ⟨fun s x hs hx y hy => ?_, hcov⟩⟩
                · rw [List.map_append]
                  rfl
                · rw [List.getElem?_append_left (by omega)] at hx
                  exact mem_put (hc1 s x hs hx y hy)
              | none =>
                refine iteF ?_
                repeat walk_at "dl"
                exact ⟨_, by walk_at "gle", putI seen p rd, R, some p, hrd, rfl, rfl, tree_end hm ht hrd hF hnin ho, ⟨hr.1, hr.2.1, hr.2.2.1, by omega⟩, fun z => nomatch z⟩
        · rintro Γ3 M3 ⟨seen, R, e, hrd, rfl, rfl, hs, hr, hc⟩
          have hdl := (List.getElem?_eq_some_iff.mp hrd).1
          have hrl := hr.2.1
          rw [List.length_map, List.take_length] at hc
          repeat walk_at "dl"
          refine ⟨b.length + 1 - (dn + 1), _, by omega, by walk_at "gle", seen, R, e, dn + 1, rfl, by omega, ?_, rfl, hs, hr, fun he s x hs hx y hy => ?_⟩
          · rw [show ((dn + 1 : Nat) : Int) = (dn : Int) + 1 by omega]
          · obtain ⟨hc1, hc2⟩ := hc he
            by_cases hsd : s < dn
            · exact hc1 s x hsd hx y hy
            · have : s = dn := by omega
              subst this
              rw [hrd] at hx
              have : rd = x := Option.some.inj hx
              subst this
              obtain ⟨row2, h1, _, h2⟩ := hy
              rw [hrow] at h1
              have : row = row2 := Option.some.inj h1
              subst this
              exact hc2 y h2
      · have hdr : dn = R.length := by omega
        subst hdr
        exact ⟨seen, R, e, _, rfl, rfl, hs, hr, hc⟩
    · rintro Γ' M' ⟨seen, R, e, dn, rfl, rfl, hs, hr, hc⟩
      show ES K tNext _ _ _
      repeat walk_at "dl"
      refine r2_isN rfl ?_
      repeat walk_at "dl"
      cases e with
      | none =>
        refine iteT ?_
        repeat walk_at "dl"
        refine ev_sub (ev_tup ?_)
        repeat walk_at "dl"
        refine rc_frz (rc_inl (rc_inl (rc_sortedI (ns := R) _ rfl lq0 fun ns hp hsrt => ?_)))
        repeat walk_at "dl"
        refine ⟨by simp, M, .cons _ (.cons _ (.cons _ (List.Sublist.refl M))), q _ ?_⟩
        obtain ⟨ht, hcnt⟩ := hs
        have hpr : ∀ r ∈ ns, r ∈ R := fun r hr => hp.mem_iff.mp hr
        have hnd : ns.Nodup := hp.nodup_iff.mpr ht.nd
        refine .no ((hsrt.and hnd).imp fun h => by have := h.1; have := h.2; omega) (fun r h => by have := hr.1 r (hpr r h); omega) ⟨seen.map (·.1), by rw [List.length_map, hp.length_eq]; omega, fun r h p hF => ?_⟩
        obtain ⟨s, hs⟩ := List.getElem?_of_mem (hpr r h)
        exact hc rfl s r (List.getElem?_eq_some_iff.mp hs).1 hs p hF
      | some e =>
        refine iteF ?_
        repeat walk_at "dl"
        refine es_letgo 6 0 rfl rfl ?_
        refine es_letgo 5 0 rfl rfl ?_
        repeat walk_at "dl"
        refine zs_while (fun m Γ' M' => ∃ (o : Pr) (q : Int) (rw : D), Γ' = [some (LL b), some (LL (freeB b)), some (.ptr ow), some (.int (i : Int)), none, some (.dK (pI seen)), none, none, none, some (.int q), some rw, none, none] ∧ M' = (ow, .dK (pI o)) :: M ∧ ((m = 0 ∧ rw = .int i ∧ Mt (Fre b) ((i : Int) + 1) o) ∨ ((rw = .non ∨ ∃ r : Int, r ≠ i ∧ rw = .int r) ∧ Aug (Fre b) i seen R o q m))) R.length _ (by walk_at "gle") ⟨o, e, .non, rfl, rfl, .inr ⟨.inl rfl, hs⟩⟩ fun m Γ' M' hC => ?_
        obtain ⟨o, pl, rw, rfl, rfl, h⟩ := hC
        rcases h with ⟨rfl, rfl, hmt⟩ | ⟨hrw, ha⟩
        · repeat walk_at "dl"
          refine r2_neI _ _ rfl rfl ?_
          rw [decide_eq_true rfl]
          repeat walk_at "dl"
          exact ⟨_, by walk_at "gle", rfl, o, rfl, by rw [show ((i + 1 : Nat) : Int) = (i : Int) + 1 by omega]; exact hmt⟩
        · have hol := aug_len ha
          obtain ⟨i', ri, hi', hsr, hRi, hA⟩ := ha.src
          repeat walk_at "dl"
          refine r2_neX _ hrw rfl ?_
          repeat walk_at "dl"
          refine u_dg (d := .int ri) (.i (.dat _) (by rw [valD_pI, hsr]; rfl)) ?_
          repeat walk_at "dl"
          refine es_lockAsg (ev_frz (en_lock (i := 2) 0 rfl rfl (en_flt (ei_srcD ?_))))
          repeat walk_at "dl"
          refine .inl ⟨pI o, rfl, by unfold pI; rw [List.length_map, List.length_map]; omega, whoD o ri, fun k d hk => ?_, rfl, whoI o ri, by rw [who_map]; rfl, ?_⟩
          · obtain ⟨kv, hk2, rfl⟩ := mem_at hk
            unfold pI at hk2
            rw [List.getElem?_map] at hk2
            obtain ⟨⟨x, rx⟩, hk3, rfl⟩ := Option.map_eq_some_iff.mp hk2
            have hgx := getI_of ha.nd (List.mem_of_getElem? hk3)
            refine eg_name' ?_
            repeat walk_at "dl"
            refine u_dg (d := .int rx) (.i (.dat _) (by rw [valD_pI, hgx]; rfl)) ?_
            repeat walk_at "dl"
            refine r2_eqI _ _ rfl rfl ?_
            repeat walk_at "dl"
            refine dite_bl (fun e => ?_) (fun e => ?_)
            · repeat walk_at "dl"
              exact ⟨if_pos (by rw [hgx, e]), rfl⟩
            · exact ⟨if_neg (by rw [hgx]; exact fun z => e (Option.some.inj z)), rfl⟩
          · have hwm : ((pI o).map fun p => kD p.1).filterMap (whoD o ri) = (whoI o ri).map D.int := who_map o ri o
            rw [hwm]
            repeat walk_at "dl"
            refine es_eR (es_dput ?_)
            repeat walk_at "dl"
            refine ⟨0, _, dpt_pI 0 pl ri rfl (by omega), ?_⟩
            repeat walk_at "dl"
            refine et_truL ?_
            repeat walk_at "dl"
            refine ⟨(whoI o ri).map .int, .of (.lst _), ?_⟩
            by_cases hrf : ri = (i : Int)
            · subst hrf
              obtain ⟨hno, hmt⟩ := aug_end ha (by omega) hsr
              have hw : whoI o (i : Int) = [] := by
                rw [List.eq_nil_iff_forall_not_mem]
                exact fun x hx => hno x (whoI_mem.mp hx)
              rw [hw]
              refine iteF ?_
              repeat walk_at "dl"
              exact ⟨0, _, ha.hj, by walk_at "gle", putI o pl i, pl, .int i, rfl, rfl, .inl ⟨rfl, rfl, hmt⟩⟩
            · obtain ⟨p2, i2, hi2, hg2, huni, ha2⟩ := aug_step ha hsr hrf
              obtain ⟨tl, hw⟩ : ∃ tl, whoI o ri = p2 :: tl := by
                cases e : whoI o ri with
                | nil =>
                  have := whoI_mem.mpr hg2
                  rw [e] at this
                  cases this
                | cons x tl => exact ⟨tl, by rw [huni x (whoI_mem.mp (by rw [e]; exact List.mem_cons_self))]⟩
              rw [hw]
              refine iteT ?_
              repeat walk_at "dl"
              refine u_ixL 0 (.of (.lst _)) rfl (atI_of (k := 0) rfl (show ((p2 :: tl).map D.int)[0]? = some (.int p2) from rfl)) ?_
              exact ⟨i2, _, hi2, by walk_at "gle", putI o pl ri, p2, .int ri, rfl, rfl, .inr ⟨.inr ⟨ri, hrf, rfl⟩, ha2⟩⟩
  · rintro Γ' M' ⟨rfl, o, rfl, hm⟩
    rw [rngD_length, Int.toNat_natCast] at hm
    have hol : o.length ≤ b.length := by
      have := nodup_le (b := (List.range b.length).map fun i : Nat => (i : Int)) hm.nd fun x hx => by
        have : 0 ≤ x ∧ x < (b.length : Int) := by
          cases hg : getI o x with
          | none => exact absurd hx (getI_none.mp hg)
          | some r => exact fre_in (hm.rng x r hg).2.2
        exact List.mem_map.mpr ⟨x.toNat, List.mem_range.mpr (by omega), by omega⟩
      rw [List.length_map, List.length_map, List.length_range] at this
      exact this
    refine es_letgo 2 0 rfl rfl ?_
    repeat walk_at "dl"
    refine ev_frz (en_map (ei_srcD ?_))
    repeat walk_at "dl"
    refine .inl ⟨pI o, rfl, by unfold pI; rw [List.length_map, List.length_map]; omega, pairK (o.map fun q => ((Sum.inl q.2 : Key), D.int q.1)), by unfold pairK pI; simp, fun k d hk => eg_name' ?_, ?_⟩
    · obtain ⟨kv, hk2, rfl⟩ := mem_at hk
      unfold pI at hk2
      rw [List.getElem?_map] at hk2
      obtain ⟨⟨x, rx⟩, hk3, rfl⟩ := Option.map_eq_some_iff.mp hk2
      have hgx := getI_of hm.nd (List.mem_of_getElem? hk3)
      refine ev_tup ?_
      repeat walk_at "dl"
      refine u_dg (d := .int rx) (.i (.dat _) (by rw [valD_pI, hgx]; rfl)) ?_
      repeat walk_at "dl"
      refine ⟨by simp, ?_, rfl⟩
      unfold pairK
      rw [List.map_map, List.getElem?_map, hk3]
      rfl
    · repeat walk_at "dl"
      refine rc_inl (rc_inl (rc_frz (rc_dictP (kvs := o.map fun q => ((Sum.inl q.2 : Key), D.int q.1)) _ rfl (.of (.lst _)) ?_)))
      have hnd : ((o.map fun q => ((Sum.inl q.2 : Key), D.int q.1)).map (·.1)).Nodup := by
        rw [List.map_map]
        refine nodup_map (nodup_of_map (mt_len hm (by omega)).1) fun a ha b hb e => ?_
        have e2 : a.2 = b.2 := Sum.inl.inj e
        have h1 := getI_of (p := a.1) (r := a.2) hm.nd ha
        have h2 := getI_of (p := b.1) (r := b.2) hm.nd hb
        exact Prod.ext (hm.inj a.1 b.1 a.2 h1 (by rw [e2]; exact h2)) e2
      rw [mergeD_nil _ hnd]
      obtain ⟨g, hg⟩ : ∃ g : Nat → Int, ∀ r, r < b.length → getI o (g r) = some (r : Int) :=
        ⟨fun r => if h : r < b.length then Classical.choose (hm.sur r (by omega) (by omega)) else 0, fun r h => by
          show getI o (if h : r < b.length then Classical.choose (hm.sur r (by omega) (by omega)) else 0) = _
          rw [dif_pos h]
          exact Classical.choose_spec (hm.sur r (by omega) (by omega))⟩
      repeat walk_at "dl"
      refine ev_tup ?_
      repeat walk_at "dl"
      refine ev_frz (en_map (ei_rng1 ?_))
      repeat walk_at "dl"
      refine u_len (LL b) b.length rfl (ln_of (.lst _) (by rw [List.length_map])) ?_
      repeat walk_at "dl"
      refine ⟨by omega, by omega, by rw [rngD_length]; omega, ((List.range b.length).map g).map .int, by rw [rngD_length, List.length_map, List.length_map, List.length_range]; rfl, fun k d hk => eg_name' ?_, ?_⟩
      · obtain ⟨hk1, rfl⟩ := rngD_get hk
        rw [Int.toNat_natCast] at hk1
        rw [show (0 : Int) + (k : Int) = k by omega]
        repeat walk_at "dl"
        refine u_dg (d := .int (g k)) (.i (.dat _) (valD_of_mem hnd (List.mem_map.mpr ⟨(g k, (k : Int)), getI_mem (hg k hk1), rfl⟩))) ?_
        refine ⟨?_, rfl⟩
        rw [List.getElem?_map, List.getElem?_map, List.getElem?_range hk1]
        rfl
      · repeat walk_at "dl"
        refine ⟨by simp, q _ (.yes (pl_iff.mpr ⟨by rw [List.length_map, List.length_range], nodup_map List.nodup_range fun a ha c hc e => ?_, fun x hx => ?_, fun i row x h1 h2 => ?_⟩))⟩
        · have h1 := hg a (List.mem_range.mp ha)
          have h2 := hg c (List.mem_range.mp hc)
          rw [e, h2] at h1
          have := Option.some.inj h1
          omega
        · obtain ⟨r, hr, rfl⟩ := List.mem_map.mp hx
          have := fre_in (hm.rng _ _ (hg r (List.mem_range.mp hr))).2.2
          exact ⟨this.1, this.2, List.not_mem_nil⟩
        · have hi := (List.getElem?_eq_some_iff.mp h1).1
          rw [List.getElem?_map, List.getElem?_range hi] at h2
          have e : g i = x := Option.some.inj h2
          obtain ⟨row2, k1, _, k2⟩ := (hm.rng _ _ (hg i hi)).2.2
          rw [Int.toNat_natCast, h1] at k1
          have e2 : row = row2 := Option.some.inj k1
          rw [← e, e2]
          unfold freeRow at k2
          simpa using (List.mem_filter.mp k2).2
end
end K16


set_option Elab.async false
set_option linter.all false
set_option maxRecDepth 100000
set_option maxHeartbeats 4000000
namespace K16
open PySem PySem.Spec PyProof.Rows L2 StX DL
local macro_rules | `(tactic| walk_at "dl") => `(tactic| with_reducible first
  | refine zs_seq ?_ | refine zs_set ?_ | refine zs_drop ?_ | refine zs_ret ?_ | refine zs_if ?_ | refine zs_next ?_ | refine zs_par ?_
  | refine ev_int ?_ | refine ev_bl ?_ | refine ev_str ?_ | refine ev_non ?_ | refine ev_ty ?_
  | refine ev_op ?_ | refine ev_un ?_ | refine ev_cb ?_ | refine ev_call ?_ | refine ea_cons ?_ | refine ea_nil ?_
  | refine ev_andV ?_ | refine ev_orV ?_ | refine ev_notV ?_ | refine ev_ifx ?_ | refine ev_chain ?_ | refine ev_sl ?_ | refine eo_none ?_ | refine eo_some ?_
  | refine et_test ?_ | refine et_B ?_ | refine et_and ?_ | refine et_or ?_ | refine et_not ?_ | refine et_yes ?_
  | refine u_add _ _ rfl rfl ?_ | refine r2_sub _ _ rfl rfl ?_ | refine r2_lt _ _ rfl rfl ?_ | refine r2_le _ _ rfl rfl ?_ | refine r2_gt _ _ rfl rfl ?_ | refine r2_ge _ _ rfl rfl ?_
  | refine r1_neg _ rfl ?_ | refine ev_bm ?_ | refine ev_bm0 ?_ | refine ⟨dty0, ?_⟩ | refine ⟨dty1, ?_⟩ | refine ⟨dty2, ?_⟩ | refine ⟨_, SQ.lst _, ?_⟩ | refine ⟨_, sq0, ?_⟩ | refine ⟨_, sq1, ?_⟩ | refine ea_star ?_
  | refine ⟨_, rfl, ?_⟩ | refine iteT ?_ | refine iteF ?_ | refine iteNT ?_ | refine iteNF ?_)
local macro_rules | `(tactic| walk_at "dl") => `(tactic| ((with_reducible refine' ev_var ?hv ?_); (case hv => rfl)))
local macro_rules | `(tactic| walk_at "gle") => `(tactic| repeat (first | exact GLe.nil | apply GLe.s | apply GLe.n))
/-! ### the law -/
section
variable {K : PySem.W.Frag} {M : Ms} {Γ : Gm} {Φ : D → Ms → Prop}
theorem ite_ev2 {b : Bool} {i j : Int} (h : ∀ m : Int, m = i ∨ m = j → Φ (.int m) M) : if b = true then EV K (tC (.int i)) Γ M Φ else EV K (tC (.int j)) Γ M Φ := by
  cases b with
  | true => exact ev_int (h i (.inl rfl))
  | false => exact ev_int (h j (.inr rfl))
theorem ite_cut {c : Bool} {ta tb : TE} {Φ1 : D → Ms → Prop} (h : if c = true then EV K ta Γ M Φ1 else EV K tb Γ M Φ1) (k : ∀ d M', Φ1 d M' → Φ d M') : if c = true then EV K ta Γ M Φ else EV K tb Γ M Φ := by
  cases c with
  | true => exact EV.mono (show EV K ta Γ M Φ1 from h) k
  | false => exact EV.mono (show EV K tb Γ M Φ1 from h) k
theorem zs_cutG {ts tu : TS} {nx bk ct : Gm → Ms → Prop} {rt : D → Ms → Prop} (Mid : Gm → Ms → Prop) (h : ES K ts Γ M ⟨fun Γ' M' => ∃ Γ0, GLe Γ0 Γ' ∧ Mid Γ0 M', rt, bk, ct⟩) (k : ∀ Γ' M', Mid Γ' M' → ES K tu Γ' M' ⟨nx, rt, bk, ct⟩) : ES K (tSeq ts tu) Γ M ⟨nx, rt, bk, ct⟩ :=
  zs_seq (es_mono h (fun Γ' M' ⟨Γ0, g, q⟩ => ⟨Γ0, g, k Γ0 M' q⟩) (fun _ _ q => q) (fun Γ' _ q => ⟨Γ', GLe.refl _, q⟩) fun Γ' _ q => ⟨Γ', GLe.refl _, q⟩)
theorem sub_ints {ys : List D} {n : Nat} (h : List.Sublist ys (rngD 0 n)) : ∃ l : List Int, List.Sublist l (rangeZ 0 n) ∧ ys = l.map .int := by
  rw [rngD_Z] at h
  obtain ⟨l, hl, e⟩ := List.sublist_map_iff.mp h
  exact ⟨l, hl, e⟩
end
theorem sameD_LI {r : Nat} {ns : List Int} (h : ns.length ≤ 1000) : SameD (r + 2) (LI ns) := .inr (.inr (.inr (.inl ⟨_, rfl, by rw [List.length_map]; exact h, fun x hx => by
  obtain ⟨i, _, rfl⟩ := List.mem_map.mp hx
  exact .inl ⟨i, rfl⟩⟩)))
theorem sameD_LL {r : Nat} {b : List (List Int)} (h : b.length ≤ 1000) (h2 : ∀ row ∈ b, row.length ≤ 1000) : SameD (r + 3) (LL b) := .inr (.inr (.inr (.inl ⟨_, rfl, by rw [List.length_map]; exact h, fun x hx => by
  obtain ⟨i, hi, rfl⟩ := List.mem_map.mp hx
  exact sameD_LI (h2 i hi)⟩)))
theorem sameD_yes {r : Nat} {z : Str} {ns : List Int} (h : ns.length ≤ 1000) : SameD (r + 3) (.tup [.str z, LI ns]) := .inr (.inr (.inr (.inr ⟨_, rfl, by simp, fun x hx => by
  simp only [List.mem_cons, List.not_mem_nil, or_false] at hx
  rcases hx with rfl | rfl
  · exact .inr (.inr (.inl ⟨_, rfl⟩))
  · exact sameD_LI h⟩)))
theorem sameD_no {r : Nat} {z : Str} {i : Int} : SameD (r + 2) (.tup [.str z, .int i]) := .inr (.inr (.inr (.inr ⟨_, rfl, by simp, fun x hx => by
  simp only [List.mem_cons, List.not_mem_nil, or_false] at hx
  rcases hx with rfl | rfl
  · exact .inr (.inr (.inl ⟨_, rfl⟩))
  · exact .inl ⟨_, rfl⟩⟩)))
theorem upD_none {a : List Int} (h : upR a = none) : upD a = .tup [.str "yes", LI ((List.range a.length).map (upQ a))] := by
  unfold upD
  rw [h]
theorem upD_some {a : List Int} {j : Nat} (h : upR a = some j) : upD a = .tup [.str "no", .int (j : Int)] := by
  unfold upD
  rw [h]
theorem mergeD_len (me ke : List (Key × D)) : (mergeD ke me).length ≤ ke.length + me.length := by
  induction me generalizing ke with
  | nil => exact Nat.le_refl _
  | cons p r ih =>
    have h1 := ih (putD ke p.1 p.2)
    have h2 := putD_length ke p.1 p.2
    show (mergeD (putD ke p.1 p.2) r).length ≤ _
    rw [List.length_cons]
    omega
/-- the keys stand among the places of S -/
def KeysIn (S : List Int) (fr : List (Key × D)) : Prop := (fr.map (·.1)).Nodup ∧ ∀ k ∈ fr.map (·.1), k ∈ S.map (Sum.inl : Int → Key)
theorem keysIn_len {S : List Int} {fr : List (Key × D)} (h : KeysIn S fr) : fr.length ≤ S.length := by
  have := nodup_le h.1 h.2
  rw [List.length_map, List.length_map] at this
  exact this
theorem keysIn_nil (S : List Int) : KeysIn S [] := ⟨List.nodup_nil, fun _ h => absurd h List.not_mem_nil⟩
theorem keysIn_add {S : List Int} {fr : List (Key × D)} {l : List Int} (h : KeysIn S fr) (hl : ∀ x ∈ l, x ∈ S) : KeysIn S (mergeD fr (mergeD [] (l.map fun x => ((Sum.inl x : Key), D.int 0)))) := by
  refine ⟨mergeD_nodup _ _ h.1, fun k hk => ?_⟩
  rcases (mergeD_mem _ _ k).mp hk with hk | hk
  · exact h.2 k hk
  · rcases (mergeD_mem _ _ k).mp hk with hk | hk
    · cases hk
    · rw [List.map_map] at hk
      obtain ⟨x, hx, rfl⟩ := List.mem_map.mp hk
      exact List.mem_map_of_mem (hl x hx)
theorem freeRow_mem {n : Nat} {row : List Int} {p : Int} : p ∈ freeRow n row ↔ (0 ≤ p ∧ p < (n : Int)) ∧ p ∉ row := by
  unfold freeRow
  rw [List.mem_filter, rangeZ_mem]
  simp
def unI : D → Int
  | .int i => i
  | _ => 0
theorem perm_ints {ys : List D} {l : List Int} (h : ys.Perm (l.map D.int)) : ∃ l' : List Int, l'.Perm l ∧ ys = l'.map .int := by
  refine ⟨ys.map unI, ?_, ?_⟩
  · have := h.map unI
    rw [List.map_map] at this
    have e : (l.map (unI ∘ D.int)) = l := by
      rw [show unI ∘ D.int = id from rfl, List.map_id]
    rw [e] at this
    exact this
  · rw [List.map_map]
    have e : ys.map (D.int ∘ unI) = ys.map id := List.map_congr_left fun d hd => by
      obtain ⟨i, _, rfl⟩ := List.mem_map.mp (h.mem_iff.mp hd)
      rfl
    rw [e, List.map_id]
def neD (q : Int) : D → Option D
  | .int x => if x = q then none else some (.int x)
  | _ => none
theorem ne_map (q : Int) (n : Nat) : (rngD 0 n).filterMap (neD q) = ((rangeZ 0 n).filter fun x => !decide (x = q)).map D.int := by
  rw [rngD_Z]
  unfold rangeZ
  induction ((List.range n).map fun i : Nat => (0 : Int) + (i : Int)) with
  | nil => rfl
  | cons x l ih =>
    rw [List.map_cons, List.filterMap_cons, List.filter_cons, ih]
    by_cases h : x = q
    · rw [show neD q (.int x) = none from if_pos h, decide_eq_true h]
      rfl
    · rw [show neD q (.int x) = some (.int x) from if_neg h, decide_eq_false h]
      rfl
def prD (row : List Int) : D → Option D
  | .int x => if x ∈ row then none else some (.tup [.int x, .int 0])
  | _ => none
theorem pr_map (row : List Int) (n : Nat) : (rngD 0 n).filterMap (prD row) = pairK ((freeRow n row).map fun x => ((Sum.inl x : Key), D.int 0)) := by
  rw [rngD_Z]
  unfold freeRow rangeZ pairK
  induction ((List.range n).map fun i : Nat => (0 : Int) + (i : Int)) with
  | nil => rfl
  | cons x l ih =>
    rw [List.map_cons, List.filterMap_cons, List.filter_cons, ih]
    by_cases h : x ∈ row
    · rw [show prD row (.int x) = none from if_pos h, decide_eq_true h]
      rfl
    · rw [show prD row (.int x) = some (.tup [.int x, .int 0]) from if_neg h, decide_eq_false h]
      rfl
def tightB (bs : List (List Int)) (few keep : List Int) : List (List Int) := (List.range bs.length).map fun k : Nat => if (k : Int) ∈ few then freeRow bs.length keep else bs.getD k []
theorem tightB_get {bs : List (List Int)} {few keep : List Int} {k : Nat} (h : k < bs.length) : (tightB bs few keep)[k]? = some (if (k : Int) ∈ few then freeRow bs.length keep else bs.getD k []) := by
  unfold tightB
  rw [List.getElem?_map, List.getElem?_range h]
  rfl
theorem tightB_len (bs : List (List Int)) (few keep : List Int) : (tightB bs few keep).length = bs.length := by
  unfold tightB
  rw [List.length_map, List.length_range]
theorem getD_row {bs : List (List Int)} {k : Nat} (h : k < bs.length) : bs[k]? = some (bs.getD k []) := by
  rw [List.getD_eq_getElem?_getD, List.getElem?_eq_getElem h]
  rfl
theorem tightB_ok {bs : List (List Int)} {few keep : List Int} (h : BoardOk bs) : BoardOk (tightB bs few keep) := by
  refine ⟨by rw [tightB_len]; exact h.1, by rw [tightB_len]; exact h.2.1, fun row hr => ?_⟩
  rw [tightB_len]
  obtain ⟨k, hk⟩ := List.getElem?_of_mem hr
  have hk2 := (List.getElem?_eq_some_iff.mp hk).1
  rw [tightB_len] at hk2
  rw [tightB_get hk2] at hk
  have e := Option.some.inj hk
  by_cases m : (k : Int) ∈ few
  · rw [if_pos m] at e
    rw [← e]
    exact rowOk_sub (by have := h.2.1; omega) List.filter_sublist
  · rw [if_neg m] at e
    rw [← e]
    exact h.2.2 _ (List.mem_of_getElem? (getD_row hk2))
def badD (a : List Int) : D → Option D
  | .int j => if upBad a j.toNat = true then some (.int j) else none
  | _ => none
theorem bad_map (a : List Int) (n : Nat) : (rngD 0 n).filterMap (badD a) = (((List.range n).filter (upBad a)).map fun j : Nat => (j : Int)).map D.int := by
  unfold rngD
  induction (List.range n) with
  | nil => rfl
  | cons i l ih =>
    rw [List.map_cons, List.filterMap_cons, List.filter_cons, ih]
    have e : badD a (.int ((0 : Int) + (i : Int))) = if upBad a i = true then some (.int (i : Int)) else none := by
      show (if upBad a ((0 : Int) + (i : Int)).toNat = true then some (D.int ((0 : Int) + (i : Int))) else none) = _
      rw [show ((0 : Int) + (i : Int)) = (i : Int) by omega, Int.toNat_natCast]
    rw [e]
    by_cases h : upBad a i = true
    · rw [if_pos h, if_pos h]
      rfl
    · rw [if_neg h, if_neg h]
section
variable {P : Program} {w : World} {K : PySem.W.Frag} {mg : Str → Option Value} {base : Heap} (G : Glb K mg)
def S_law : SpD := fun ds M Φ => ∃ ns : List Int, ds = [.rol (ns.map .int)] ∧ ns.length ≤ 63 ∧ ∀ M', Φ (.bl true) M'
include G in
theorem ok_law : FnOk P w K mg base CX0 8 G.f_law G.d_law ["script"] (spOf K S_law) := by
  refine def_ok G.F_law sc_law (fun ds M Φ h => by obtain ⟨_, rfl, _⟩ := h; rfl) fun cdv A outer s H E hr => ⟨_, (pss_cons (ps_set (i := 1) sc_law.nd rfl (by first | exact .inl rfl | exact .inr rfl) (pe_call (ok__law_start G) (hr.mono (by first | exact Nat.le_refl _ | decide)) (by rfl) G.g__law_start G.F__law_start.kp G.B__law_start .nil pass0 (pa_cons (pv 0) pa_nil)))
(pss_cons (ps_for PassesOwn.never rfl (pi_range1 (by rfl) G.b_range (pa_cons pe_int pa_nil)) (pg_name (i := 2) sc_law.nd rfl (by first | exact .inl rfl | exact .inr rfl))
(pss_cons (ps_asg (pe_tup (pa_cons (pe_op (op_addU (K := K) rfl) pe_int (pe_call (ok__law_below G) (hr.mono (by first | exact Nat.le_refl _ | decide)) (by rfl) G.g__law_below G.F__law_below.kp G.B__law_below .nil pass0 (pa_cons (pv 1) (pa_cons (pe_ifExp (pt_cmpR op_lt (pv 2) pe_int (nomark _)) pe_int pe_int) pa_nil)))) (pa_cons (pe_op (op_addU (K := K) rfl) pe_int (pe_call (ok__law_below G) (hr.mono (by first | exact Nat.le_refl _ | decide)) (by rfl) G.g__law_below G.F__law_below.kp G.B__law_below .nil pass0 (pa_cons (pv 1) (pa_cons pe_int pa_nil)))) pa_nil))) (pg_tupK (K := K) rfl rfl (pgs_cons (pg_name (i := 18) sc_law.nd rfl (.inr rfl)) (pgs_cons (pg_name (i := 19) sc_law.nd rfl (.inr rfl)) pgs_nil))))
(pss_cons (ps_set (i := 5) sc_law.nd rfl (by first | exact .inl rfl | exact .inr rfl) (pe_lc (own := [("row", 11)]) (g := (gName 11)) (tt := tYes) rfl sc_law.nd (pi_range1 (by rfl) G.b_range (pa_cons (pv 18) pa_nil)) (blkOk_by (N := n_law) (sc := defScope s_law) (by decide +kernel)) (fun _ _ _ _ _ => (pg_name (i := 11) sc_law.nd rfl (by first | exact .inl rfl | exact .inr rfl))) (fun _ _ _ _ _ => pts_nil) (fun _ _ _ _ _ => (pe_call (ok__law_lot G) (hr.mono (by first | exact Nat.le_refl _ | decide)) (by rfl) G.g__law_lot G.F__law_lot.kp G.B__law_lot .nil pass0 (pa_cons (pv 1) (pa_cons (pe_listRg rfl (by rfl) G.b_list (prg_1 (by rfl) G.b_range (pv 18))) (pa_cons (pv 19) pa_nil)))))))
(pss_cons (ps_if (pt_cmpR (op_eqK (K := K) rfl hr.units) (pv 2) pe_int (nomark _))
(pss_one (ps_set (i := 5) sc_law.nd rfl (by first | exact .inl rfl | exact .inr rfl) (pe_lc (own := [("row", 11)]) (g := (gName 11)) (tt := tYes) rfl sc_law.nd (pi_range1 (by rfl) G.b_range (pa_cons (pv 18) pa_nil)) (blkOk_by (N := n_law) (sc := defScope s_law) (by decide +kernel)) (fun _ _ _ _ _ => (pg_name (i := 11) sc_law.nd rfl (by first | exact .inl rfl | exact .inr rfl))) (fun _ _ _ _ _ => pts_nil) (fun _ _ _ _ _ => (pe_callB (call_sortedU (K := K) rfl rfl) (by rfl) G.b_sorted boot_sorted (pa_cons (pe_callTy (call_dictU (K := K) (P := P) (w := w) rfl rfl rfl rfl hr.units) (by rfl) G.b_dict boot_dict (pa_cons (pe_lst (pa_cons (pe_tup (pa_cons (pv 11) (pa_cons pe_int pa_nil))) (pa_cons (pe_tup (pa_cons (pe_op op_mod (pe_callTy call_int1 (by rfl) G.b_int boot_int (pa_cons (pe_op (op_addU (K := K) rfl) (pv 11) pe_int) pa_nil)) (pv 18)) (pa_cons pe_int pa_nil))) pa_nil))) pa_nil)) pa_nil))))))
pss_nil)
(pss_cons (ps_par (i := 20) (j := 21) rfl sc_law.nd rfl rfl (by decide) rfl rfl (pa_cons (pe_call (ok__law_wtaken G) (hr.mono (by first | exact Nat.le_refl _ | decide)) (by rfl) G.g__law_wtaken G.F__law_wtaken.kp G.B__law_wtaken .nil pass0 (pa_cons (pv 5) pa_nil)) (pa_cons (pe_call (ok__law_wrooks G) (hr.mono (by first | exact Nat.le_refl _ | decide)) (by rfl) G.g__law_wrooks G.F__law_wrooks.kp G.B__law_wrooks .nil pass0 (pa_cons (pv 5) pa_nil)) pa_nil)) (by rfl))
(pss_cons (ps_setLc (i := 12) (own := [("row", 11)]) (g := (gName 11)) (tt := tYes) rfl sc_law.nd rfl rfl (sw_true rfl rfl rfl (by decide +kernel)) (pi_src (K := K) rfl (pv 5)) (blkOk_by (N := n_law) (sc := defScope s_law) (by decide +kernel)) (fun _ _ _ _ _ => (pg_name (i := 11) sc_law.nd rfl (by first | exact .inl rfl | exact .inr rfl))) (fun _ _ _ _ _ => pts_nil) (fun _ _ _ _ _ => (pe_lc (own := [("place", 23)]) (g := (gName 23)) rfl sc_law.nd (pi_range1 (by rfl) G.b_range (pa_cons (pv 18) pa_nil)) (blkOk_by (N := n_law) (sc := L2.relS _ (defScope s_law)) (by decide +kernel)) (fun _ _ _ _ _ => (pg_name (i := 23) sc_law.nd rfl (by first | exact .inl rfl | exact .inr rfl))) (fun _ _ _ _ _ => (pts_one (pt_cmpR (op_notInU (K := K) rfl hr.units) (pv 23) (pv 11) (by rfl)))) (fun _ _ _ _ _ => (pv 23)))))
(pss_cons (ps_set (i := 13) sc_law.nd rfl (by first | exact .inl rfl | exact .inr rfl) (pe_lst (pa_cons (pe_call (ok_is_board G) (hr.mono (by first | exact Nat.le_refl _ | decide)) (by rfl) G.g_is_board G.F_is_board.kp G.B_is_board .nil pass0 (pa_cons (pv 5) pa_nil)) (pa_cons (pe_call (ok_hit_counts G) (hr.mono (by first | exact Nat.le_refl _ | decide)) (by rfl) G.g_hit_counts G.F_hit_counts.kp G.B_hit_counts .nil pass0 (pa_cons (pv 5) pa_nil)) (pa_cons (pe_call (ok_rook_counts G) (hr.mono (by first | exact Nat.le_refl _ | decide)) (by rfl) G.g_rook_counts G.F_rook_counts.kp G.B_rook_counts .nil pass0 (pa_cons (pv 5) pa_nil)) (pa_cons (pe_call (ok_other_board G) (hr.mono (by first | exact Nat.le_refl _ | decide)) (by rfl) G.g_other_board G.F_other_board.kp G.B_other_board .nil pass0 (pa_cons (pv 5) pa_nil)) (pa_cons (pe_call (ok_hits_of G) (hr.mono (by first | exact Nat.le_refl _ | decide)) (by rfl) G.g_hits_of G.F_hits_of.kp G.B_hits_of .nil pass0 (pa_cons (pv 21) pa_nil)) (pa_cons (pe_call (ok_rooks_up G) (hr.mono (by first | exact Nat.le_refl _ | decide)) (by rfl) G.g_rooks_up G.F_rooks_up.kp G.B_rooks_up .nil pass0 (pa_cons (pv 20) pa_nil)) (pa_cons (pe_call (ok_hit_counts G) (hr.mono (by first | exact Nat.le_refl _ | decide)) (by rfl) G.g_hit_counts G.F_hit_counts.kp G.B_hit_counts .nil pass0 (pa_cons (pv 12) pa_nil)) pa_nil)))))))))
(pss_cons (ps_if (pt_not (pt_val (pe_call (ok_same G 6) (hr.mono (by first | exact Nat.le_refl _ | decide)) (by rfl) G.g__law_same G.F__law_same.kp G.B__law_same .nil pass0 (pa_cons (pv 13) (pa_cons (pe_lst (pa_cons pe_bl (pa_cons (pv 20) (pa_cons (pv 21) (pa_cons (pv 12) (pa_cons (pv 20) (pa_cons (pe_tup (pa_cons pe_str (pa_cons (pv 21) pa_nil))) (pa_cons (pe_revLK (K := K) rfl (pv 20)) pa_nil)))))))) pa_nil)))))
(pss_one ps_never)
pss_nil)
(pss_cons (ps_set (i := 14) sc_law.nd rfl (by first | exact .inl rfl | exact .inr rfl) (pe_callTy (call_listU (K := K) rfl rfl) (by rfl) G.b_list boot_list (pa_cons (pv 20) pa_nil)))
(pss_cons (ps_augS (pv 14) (pe_call (ok__law_below G) (hr.mono (by first | exact Nat.le_refl _ | decide)) (by rfl) G.g__law_below G.F__law_below.kp G.B__law_below .nil pass0 (pa_cons (pv 1) (pa_cons (pe_op (op_addU (K := K) rfl) (pv 18) pe_int) pa_nil))) (pget_listK (K := K) rfl) (pe_op (op_addU (K := K) rfl) pe_int (pe_call (ok__law_below G) (hr.mono (by first | exact Nat.le_refl _ | decide)) (by rfl) G.g__law_below G.F__law_below.kp G.B__law_below .nil pass0 (pa_cons (pv 1) (pa_cons pe_int pa_nil)))) ip_add set_list)
(pss_cons (ps_setLc (i := 15) (own := [("j", 22)]) (g := (gName 22)) rfl sc_law.nd rfl rfl (sw_true rfl rfl rfl (by decide +kernel)) (pi_range1 (by rfl) G.b_range (pa_cons (pe_op (op_addU (K := K) rfl) (pv 18) pe_int) pa_nil)) (blkOk_by (N := n_law) (sc := defScope s_law) (by decide +kernel)) (fun _ _ _ _ _ => (pg_name (i := 22) sc_law.nd rfl (by first | exact .inl rfl | exact .inr rfl))) (fun _ _ _ _ _ => (pts_one (pt_cmpR (op_neK (K := K) rfl hr.units) (pe_op op_mod (pe_callTy call_int1 (by rfl) G.b_int boot_int (pa_cons (pe_callB (cr_sumK (K := K) rfl rfl) (by rfl) G.b_sum boot_sum (pa_cons (pe_lc (own := [("k", 24)]) (g := (gName 24)) (tt := tYes) rfl sc_law.nd (pi_range1 (by rfl) G.b_range (pa_cons (pe_op (op_addU (K := K) rfl) (pv 18) pe_int) pa_nil)) (blkOk_by (N := n_law) (sc := L2.relS _ (defScope s_law)) (by decide +kernel)) (fun _ _ _ _ _ => (pg_name (i := 24) sc_law.nd rfl (by first | exact .inl rfl | exact .inr rfl))) (fun _ _ _ _ _ => pts_nil) (fun _ _ _ _ _ => (pe_op op_mulA (pe_call (ok__law_wways G) (hr.mono (by first | exact Nat.le_refl _ | decide)) (by rfl) G.g__law_wways G.F__law_wways.kp G.B__law_wways .nil pass0 (pa_cons (pv 24) (pa_cons (pv 22) pa_nil))) (pe_ix (ixU (K := K) rfl hr.units) (pv 14) (pv 24) (fun _ _ => rfl))))) pa_nil)) pa_nil)) (pe_call (ok__law_wproduct G) (hr.mono (by first | exact Nat.le_refl _ | decide)) (by rfl) G.g__law_wproduct G.F__law_wproduct.kp G.B__law_wproduct .nil pass0 (pa_cons (pe_listRg rfl (by rfl) G.b_list (prg_2 (by rfl) G.b_range pe_int (pe_op (op_addU (K := K) rfl) (pe_op op_sub (pv 18) (pv 22)) pe_int))) pa_nil))) pe_int (nomark _)))) (fun _ _ _ _ _ => (pv 22)))
(pss_cons (ps_set (i := 16) sc_law.nd rfl (by first | exact .inl rfl | exact .inr rfl) (pe_call (ok_rooks_up G) (hr.mono (by first | exact Nat.le_refl _ | decide)) (by rfl) G.g_rooks_up G.F_rooks_up.kp G.B_rooks_up .nil pass0 (pa_cons (pv 14) pa_nil)))
(pss_cons (ps_setLc (i := 17) (own := [("j", 22)]) (g := (gName 22)) (tt := tYes) rfl sc_law.nd rfl rfl (sw_true rfl rfl rfl (by decide +kernel)) (pi_range1 (by rfl) G.b_range (pa_cons (pe_op (op_addU (K := K) rfl) (pv 18) pe_int) pa_nil)) (blkOk_by (N := n_law) (sc := defScope s_law) (by decide +kernel)) (fun _ _ _ _ _ => (pg_name (i := 22) sc_law.nd rfl (by first | exact .inl rfl | exact .inr rfl))) (fun _ _ _ _ _ => pts_nil) (fun _ _ _ _ _ => (pe_op op_fdiv (pe_callB (cr_sumK (K := K) rfl rfl) (by rfl) G.b_sum boot_sum (pa_cons (pe_lc (own := [("k", 24)]) (g := (gName 24)) (tt := tYes) rfl sc_law.nd (pi_range1 (by rfl) G.b_range (pa_cons (pe_op (op_addU (K := K) rfl) (pv 18) pe_int) pa_nil)) (blkOk_by (N := n_law) (sc := L2.relS _ (defScope s_law)) (by decide +kernel)) (fun _ _ _ _ _ => (pg_name (i := 24) sc_law.nd rfl (by first | exact .inl rfl | exact .inr rfl))) (fun _ _ _ _ _ => pts_nil) (fun _ _ _ _ _ => (pe_op op_mulA (pe_call (ok__law_wways G) (hr.mono (by first | exact Nat.le_refl _ | decide)) (by rfl) G.g__law_wways G.F__law_wways.kp G.B__law_wways .nil pass0 (pa_cons (pv 24) (pa_cons (pv 22) pa_nil))) (pe_ix (ixU (K := K) rfl hr.units) (pv 14) (pv 24) (fun _ _ => rfl))))) pa_nil)) (pe_call (ok__law_wproduct G) (hr.mono (by first | exact Nat.le_refl _ | decide)) (by rfl) G.g__law_wproduct G.F__law_wproduct.kp G.B__law_wproduct .nil pass0 (pa_cons (pe_listRg rfl (by rfl) G.b_list (prg_2 (by rfl) G.b_range pe_int (pe_op (op_addU (K := K) rfl) (pe_op op_sub (pv 18) (pv 22)) pe_int))) pa_nil)))))
(pss_cons (ps_if (pt_not (pt_val (pe_call (ok_same G 6) (hr.mono (by first | exact Nat.le_refl _ | decide)) (by rfl) G.g__law_same G.F__law_same.kp G.B__law_same .nil pass0 (pa_cons (pv 16) (pa_cons (pe_ifExp (pt_cmpR (op_neK (K := K) rfl hr.units) (pv 15) (pe_lst pa_nil) (nomark _)) (pe_tup (pa_cons pe_str (pa_cons (pe_ix (ixU (K := K) rfl hr.units) (pv 15) pe_int (fun _ _ => rfl)) pa_nil))) (pe_tup (pa_cons pe_str (pa_cons (pv 17) pa_nil)))) pa_nil)))))
(pss_one ps_never)
pss_nil)
(pss_cons (ps_set (i := 6) sc_law.nd rfl (by first | exact .inl rfl | exact .inr rfl) (pe_call (ok_avoid_up G) (hr.mono (by first | exact Nat.le_refl _ | decide)) (by rfl) G.g_avoid_up G.F_avoid_up.kp G.B_avoid_up .nil pass0 (pa_cons (pv 5) pa_nil)))
(pss_one (ps_if (pt_cmpR (op_eqK (K := K) rfl hr.units) (pe_ix (ixU (K := K) rfl hr.units) (pv 6) pe_int (fun _ _ => rfl)) pe_str (nomark _))
(pss_one (ps_if (PW.pt (pw_or (pt_cmpR (op_neK (K := K) rfl hr.units) (pe_callB (call_sortedU (K := K) rfl rfl) (by rfl) G.b_sorted boot_sorted (pa_cons (pe_ix (ixU (K := K) rfl hr.units) (pv 6) pe_int (fun _ _ => rfl)) pa_nil)) (pe_listRg rfl (by rfl) G.b_list (prg_1 (by rfl) G.b_range (pv 18))) (nomark _)) (pw_or (pt_cmpR (op_neK (K := K) rfl hr.units) (pe_lc (own := [("row", 11), ("place", 23)]) (g := (gTup K 2 (gCons (gName 11) (gCons (gName 23) gNil)))) rfl sc_law.nd (pi_zipU (K := K) rfl (by rfl) G.b_zip (pa_cons (pv 5) (pa_cons (pe_ix (ixU (K := K) rfl hr.units) (pv 6) pe_int (fun _ _ => rfl)) pa_nil))) (blkOk_by (N := n_law) (sc := defScope s_law) (by decide +kernel)) (fun _ _ _ _ _ => (pg_tupK (K := K) rfl rfl (pgs_cons (pg_name (i := 11) sc_law.nd rfl (by first | exact .inl rfl | exact .inr rfl)) (pgs_cons (pg_name (i := 23) sc_law.nd rfl (by first | exact .inl rfl | exact .inr rfl)) pgs_nil)))) (fun _ _ _ _ _ => (pts_one (pt_cmpR (op_inU (K := K) rfl hr.units) (pv 23) (pv 11) (by rfl)))) (fun _ _ _ _ _ => (pv 11))) (pe_lst pa_nil) (nomark _)) (pw_or1 (pt_cmpR (op_eqK (K := K) rfl hr.units) (pe_ix (ixU (K := K) rfl hr.units) (pv 20) pe_int (fun _ _ => rfl)) pe_int (nomark _))))))
(pss_one ps_never)
pss_nil))
(pss_cons (ps_set (i := 10) sc_law.nd rfl (by first | exact .inl rfl | exact .inr rfl) pe_dnewU)
(pss_cons (ps_for PassesOwn.never rfl (pi_src (K := K) rfl (pe_ix (ixU (K := K) rfl hr.units) (pv 6) pe_int (fun _ _ => rfl))) (pg_name (i := 11) sc_law.nd rfl (.inr rfl))
(pss_one (ps_expr (pe_bmK (K := K) rfl PySem.F.plainAttrs_dict PySem.F.slot_dict_update PySem.F.type_dict_update mt_dupd (pv 10) (pa_cons (pe_callTy (call_dictU (K := K) (P := P) (w := w) rfl rfl rfl rfl hr.units) (by rfl) G.b_dict boot_dict (pa_cons (pe_lc (own := [("place", 23)]) (g := (gName 23)) (tt := tYes) rfl sc_law.nd (pi_src (K := K) rfl (pe_ix (ixU (K := K) rfl hr.units) (pv 12) (pv 11) (fun _ _ => rfl))) (blkOk_by (N := n_law) (sc := defScope s_law) (by decide +kernel)) (fun _ _ _ _ _ => (pg_name (i := 23) sc_law.nd rfl (by first | exact .inl rfl | exact .inr rfl))) (fun _ _ _ _ _ => pts_nil) (fun _ _ _ _ _ => (pe_tup (pa_cons (pv 23) (pa_cons pe_int pa_nil))))) pa_nil)) pa_nil)))))
(pss_one (ps_if (PW.pt (pw_or (pt_cmpR (op_neK (K := K) rfl hr.units) (pe_ix (ixU (K := K) rfl hr.units) (pv 6) pe_int (fun _ _ => rfl)) pe_str (nomark _)) (pw_or (pt_cmpR (op_neK (K := K) rfl hr.units) (pe_ix (ixU (K := K) rfl hr.units) (pv 20) pe_int (fun _ _ => rfl)) pe_int (nomark _)) (pw_or (pt_cmpR (op_neK (K := K) rfl hr.units) (pe_callB (call_sortedU (K := K) rfl rfl) (by rfl) G.b_sorted boot_sorted (pa_cons (pe_ix (ixU (K := K) rfl hr.units) (pv 6) pe_int (fun _ _ => rfl)) pa_nil)) (pe_ix (ixU (K := K) rfl hr.units) (pv 6) pe_int (fun _ _ => rfl)) (nomark _)) (pw_or (pt_cmpR op_ge (pe_callB (call_lenU (K := K) rfl) (by rfl) G.b_len boot_len (pa_cons (pv 10) pa_nil)) (pe_callB (call_lenU (K := K) rfl) (by rfl) G.b_len boot_len (pa_cons (pe_ix (ixU (K := K) rfl hr.units) (pv 6) pe_int (fun _ _ => rfl)) pa_nil)) (nomark _)) (pw_or1 (pt_cmpR (op_neK (K := K) rfl hr.units) (pe_callB (call_lenU (K := K) rfl) (by rfl) G.b_len boot_len (pa_cons (pe_callTy (call_dictU (K := K) (P := P) (w := w) rfl rfl rfl rfl hr.units) (by rfl) G.b_dict boot_dict (pa_cons (pe_lc (own := [("row", 11)]) (g := (gName 11)) (tt := tYes) rfl sc_law.nd (pi_src (K := K) rfl (pe_ix (ixU (K := K) rfl hr.units) (pv 6) pe_int (fun _ _ => rfl))) (blkOk_by (N := n_law) (sc := defScope s_law) (by decide +kernel)) (fun _ _ _ _ _ => (pg_name (i := 11) sc_law.nd rfl (by first | exact .inl rfl | exact .inr rfl))) (fun _ _ _ _ _ => pts_nil) (fun _ _ _ _ _ => (pe_tup (pa_cons (pv 11) (pa_cons pe_int pa_nil))))) pa_nil)) pa_nil)) (pe_callB (call_lenU (K := K) rfl) (by rfl) G.b_len boot_len (pa_cons (pe_ix (ixU (K := K) rfl hr.units) (pv 6) pe_int (fun _ _ => rfl)) pa_nil)) (nomark _))))))))
(pss_one ps_never)
pss_nil)))))))))))))))))))))
(pss_cons (ps_set (i := 3) sc_law.nd rfl (by first | exact .inl rfl | exact .inr rfl) (pe_op (op_addU (K := K) rfl) pe_int (pe_call (ok__law_below G) (hr.mono (by first | exact Nat.le_refl _ | decide)) (by rfl) G.g__law_below G.F__law_below.kp G.B__law_below .nil pass0 (pa_cons (pv 1) (pa_cons pe_int pa_nil)))))
(pss_cons (ps_set (i := 4) sc_law.nd rfl (by first | exact .inl rfl | exact .inr rfl) (pe_call (ok__law_mixed G) (hr.mono (by first | exact Nat.le_refl _ | decide)) (by rfl) G.g__law_mixed G.F__law_mixed.kp G.B__law_mixed .nil pass0 (pa_cons (pv 1) (pa_cons (pe_listRg rfl (by rfl) G.b_list (prg_1 (by rfl) G.b_range (pv 3))) pa_nil))))
(pss_cons (ps_set (i := 5) sc_law.nd rfl (by first | exact .inl rfl | exact .inr rfl) (pe_lc (own := [("row", 11)]) (g := (gName 11)) (tt := tYes) rfl sc_law.nd (pi_range1 (by rfl) G.b_range (pa_cons (pv 3) pa_nil)) (blkOk_by (N := n_law) (sc := defScope s_law) (by decide +kernel)) (fun _ _ _ _ _ => (pg_name (i := 11) sc_law.nd rfl (by first | exact .inl rfl | exact .inr rfl))) (fun _ _ _ _ _ => pts_nil) (fun _ _ _ _ _ => (pe_callB (call_sortedU (K := K) rfl rfl) (by rfl) G.b_sorted boot_sorted (pa_cons (pe_call (ok__law_lot G) (hr.mono (by first | exact Nat.le_refl _ | decide)) (by rfl) G.g__law_lot G.F__law_lot.kp G.B__law_lot .nil pass0 (pa_cons (pv 1) (pa_cons (pe_lc (own := [("place", 23)]) (g := (gName 23)) rfl sc_law.nd (pi_range1 (by rfl) G.b_range (pa_cons (pv 3) pa_nil)) (blkOk_by (N := n_law) (sc := L2.relS _ (defScope s_law)) (by decide +kernel)) (fun _ _ _ _ _ => (pg_name (i := 23) sc_law.nd rfl (by first | exact .inl rfl | exact .inr rfl))) (fun _ _ _ _ _ => (pts_one (pt_cmpR (op_neK (K := K) rfl hr.units) (pv 23) (pe_ix (ixU (K := K) rfl hr.units) (pv 4) (pv 11) (fun _ _ => rfl)) (nomark _)))) (fun _ _ _ _ _ => (pv 23))) (pa_cons pe_int pa_nil)))) pa_nil)))))
(pss_cons (ps_set (i := 6) sc_law.nd rfl (by first | exact .inl rfl | exact .inr rfl) (pe_call (ok_avoid_up G) (hr.mono (by first | exact Nat.le_refl _ | decide)) (by rfl) G.g_avoid_up G.F_avoid_up.kp G.B_avoid_up .nil pass0 (pa_cons (pv 5) pa_nil)))
(pss_cons (ps_if (PW.pt (pw_or (pt_cmpR (op_neK (K := K) rfl hr.units) (pe_ix (ixU (K := K) rfl hr.units) (pv 6) pe_int (fun _ _ => rfl)) pe_str (nomark _)) (pw_or (pt_cmpR (op_neK (K := K) rfl hr.units) (pe_callB (call_sortedU (K := K) rfl rfl) (by rfl) G.b_sorted boot_sorted (pa_cons (pe_ix (ixU (K := K) rfl hr.units) (pv 6) pe_int (fun _ _ => rfl)) pa_nil)) (pe_listRg rfl (by rfl) G.b_list (prg_1 (by rfl) G.b_range (pv 3))) (nomark _)) (pw_or1 (pt_cmpR (op_neK (K := K) rfl hr.units) (pe_lc (own := [("row", 11), ("place", 23)]) (g := (gTup K 2 (gCons (gName 11) (gCons (gName 23) gNil)))) rfl sc_law.nd (pi_zipU (K := K) rfl (by rfl) G.b_zip (pa_cons (pv 5) (pa_cons (pe_ix (ixU (K := K) rfl hr.units) (pv 6) pe_int (fun _ _ => rfl)) pa_nil))) (blkOk_by (N := n_law) (sc := defScope s_law) (by decide +kernel)) (fun _ _ _ _ _ => (pg_tupK (K := K) rfl rfl (pgs_cons (pg_name (i := 11) sc_law.nd rfl (by first | exact .inl rfl | exact .inr rfl)) (pgs_cons (pg_name (i := 23) sc_law.nd rfl (by first | exact .inl rfl | exact .inr rfl)) pgs_nil)))) (fun _ _ _ _ _ => (pts_one (pt_cmpR (op_inU (K := K) rfl hr.units) (pv 23) (pv 11) (by rfl)))) (fun _ _ _ _ _ => (pv 11))) (pe_lst pa_nil) (nomark _))))))
(pss_one ps_never)
pss_nil)
(pss_cons (ps_set (i := 7) sc_law.nd rfl (by first | exact .inl rfl | exact .inr rfl) (pe_callB (call_sortedU (K := K) rfl rfl) (by rfl) G.b_sorted boot_sorted (pa_cons (pe_slice (sl_anyK (K := K) rfl) (pe_call (ok__law_mixed G) (hr.mono (by first | exact Nat.le_refl _ | decide)) (by rfl) G.g__law_mixed G.F__law_mixed.kp G.B__law_mixed .nil pass0 (pa_cons (pv 1) (pa_cons (pe_listRg rfl (by rfl) G.b_list (prg_1 (by rfl) G.b_range (pv 3))) pa_nil))) po_none (po_some (pe_op (op_addU (K := K) rfl) pe_int (pe_call (ok__law_below G) (hr.mono (by first | exact Nat.le_refl _ | decide)) (by rfl) G.g__law_below G.F__law_below.kp G.B__law_below .nil pass0 (pa_cons (pv 1) (pa_cons (pe_op op_sub (pv 3) pe_int) pa_nil)))))) pa_nil)))
(pss_cons (ps_set (i := 8) sc_law.nd rfl (by first | exact .inl rfl | exact .inr rfl) (pe_slice (sl_anyK (K := K) rfl) (pe_call (ok__law_mixed G) (hr.mono (by first | exact Nat.le_refl _ | decide)) (by rfl) G.g__law_mixed G.F__law_mixed.kp G.B__law_mixed .nil pass0 (pa_cons (pv 1) (pa_cons (pe_listRg rfl (by rfl) G.b_list (prg_1 (by rfl) G.b_range (pv 3))) pa_nil))) po_none (po_some (pe_op op_sub (pe_callB (call_lenU (K := K) rfl) (by rfl) G.b_len boot_len (pa_cons (pv 7) pa_nil)) pe_int))))
(pss_cons (ps_set (i := 9) sc_law.nd rfl (by first | exact .inl rfl | exact .inr rfl) (pe_lc (own := [("row", 11)]) (g := (gName 11)) (tt := tYes) rfl sc_law.nd (pi_range1 (by rfl) G.b_range (pa_cons (pv 3) pa_nil)) (blkOk_by (N := n_law) (sc := defScope s_law) (by decide +kernel)) (fun _ _ _ _ _ => (pg_name (i := 11) sc_law.nd rfl (by first | exact .inl rfl | exact .inr rfl))) (fun _ _ _ _ _ => pts_nil) (fun _ _ _ _ _ => (pe_ifExp (pt_cmpR (op_inU (K := K) rfl hr.units) (pv 11) (pv 7) (by rfl)) (pe_lc (own := [("place", 23)]) (g := (gName 23)) rfl sc_law.nd (pi_range1 (by rfl) G.b_range (pa_cons (pv 3) pa_nil)) (blkOk_by (N := n_law) (sc := L2.relS _ (defScope s_law)) (by decide +kernel)) (fun _ _ _ _ _ => (pg_name (i := 23) sc_law.nd rfl (by first | exact .inl rfl | exact .inr rfl))) (fun _ _ _ _ _ => (pts_one (pt_cmpR (op_notInU (K := K) rfl hr.units) (pv 23) (pv 8) (by rfl)))) (fun _ _ _ _ _ => (pv 23))) (pe_ix (ixU (K := K) rfl hr.units) (pv 5) (pv 11) (fun _ _ => rfl))))))
(pss_cons (ps_set (i := 6) sc_law.nd rfl (by first | exact .inl rfl | exact .inr rfl) (pe_call (ok_avoid_up G) (hr.mono (by first | exact Nat.le_refl _ | decide)) (by rfl) G.g_avoid_up G.F_avoid_up.kp G.B_avoid_up .nil pass0 (pa_cons (pv 9) pa_nil)))
(pss_cons (ps_set (i := 10) sc_law.nd rfl (by first | exact .inl rfl | exact .inr rfl) pe_dnewU)
(pss_cons (ps_for PassesOwn.never rfl (pi_src (K := K) rfl (pe_ix (ixU (K := K) rfl hr.units) (pv 6) pe_int (fun _ _ => rfl))) (pg_name (i := 11) sc_law.nd rfl (.inr rfl))
(pss_one (ps_expr (pe_bmK (K := K) rfl PySem.F.plainAttrs_dict PySem.F.slot_dict_update PySem.F.type_dict_update mt_dupd (pv 10) (pa_cons (pe_callTy (call_dictU (K := K) (P := P) (w := w) rfl rfl rfl rfl hr.units) (by rfl) G.b_dict boot_dict (pa_cons (pe_lc (own := [("place", 23)]) (g := (gName 23)) rfl sc_law.nd (pi_range1 (by rfl) G.b_range (pa_cons (pv 3) pa_nil)) (blkOk_by (N := n_law) (sc := defScope s_law) (by decide +kernel)) (fun _ _ _ _ _ => (pg_name (i := 23) sc_law.nd rfl (by first | exact .inl rfl | exact .inr rfl))) (fun _ _ _ _ _ => (pts_one (pt_cmpR (op_notInU (K := K) rfl hr.units) (pv 23) (pe_ix (ixU (K := K) rfl hr.units) (pv 9) (pv 11) (fun _ _ => rfl)) (by rfl)))) (fun _ _ _ _ _ => (pe_tup (pa_cons (pv 23) (pa_cons pe_int pa_nil))))) pa_nil)) pa_nil)))))
(pss_one (ps_ret (pe_and (pe_cmpR (op_eqK (K := K) rfl hr.units) (pe_ix (ixU (K := K) rfl hr.units) (pv 6) pe_int (fun _ _ => rfl)) pe_str (nomark _)) (pe_and (pe_cmpR (op_eqK (K := K) rfl hr.units) (pe_callB (call_sortedU (K := K) rfl rfl) (by rfl) G.b_sorted boot_sorted (pa_cons (pe_ix (ixU (K := K) rfl hr.units) (pv 6) pe_int (fun _ _ => rfl)) pa_nil)) (pe_ix (ixU (K := K) rfl hr.units) (pv 6) pe_int (fun _ _ => rfl)) (nomark _)) (pe_one (pe_cmpR op_lt (pe_callB (call_lenU (K := K) rfl) (by rfl) G.b_len boot_len (pa_cons (pv 10) pa_nil)) (pe_callB (call_lenU (K := K) rfl) (by rfl) G.b_len boot_len (pa_cons (pe_ix (ixU (K := K) rfl hr.units) (pv 6) pe_int (fun _ _ => rfl)) pa_nil)) (nomark _)))))))))))))))))))), fun ds M Φ h => ?_⟩
  try dsimp only [cxOf, L2.Cx.nox, L2.Cx.wish]
  obtain ⟨ns, rfl, hl, q⟩ := h
  repeat walk_at "dl"
  refine ⟨ns, rfl, by omega, fun a M1 hs => ?_⟩
  repeat walk_at "dl"
  refine zs_for [2] (ei_rng1 ?_)
  repeat walk_at "dl"
  refine ⟨by decide, by decide, fun i Γ' M' => Γ' = [none, some (.ptr a), none, none, none, none, none, none, none, none, none, none, none, none, none, none, none, none, none, none, none, none, none, none, none] ∧ Strm a (200 * (i : Int)) M M', ⟨_, by walk_at "gle", rfl, by simpa using hs⟩, fun t d Γ' M' hx hC => ?_, fun Γ' M' hC => ?_⟩
  · obtain ⟨rfl, hs⟩ := hC
    obtain ⟨ht, rfl⟩ := rngD_get hx
    have ht4 : t < 4 := ht
    refine eg_name' ?_
    repeat walk_at "dl"
    refine zs_asg (own := [18, 19]) (ev_tup ?_)
    repeat walk_at "dl"
    refine ite_ev2 fun m hm => ?_
    repeat walk_at "dl"
    refine ⟨a, m, _, M, rfl, by omega, by omega, by omega, hs, fun r M2 hr0 hr1 hs2 => ?_⟩
    repeat walk_at "dl"
    refine ⟨a, 5, _, M, rfl, by decide, by decide, by omega, hs2, fun r2 M3 hr20 hr21 hs3 => ?_⟩
    repeat walk_at "dl"
    refine ⟨by simp, ?_⟩
    refine eg_tup rfl rfl (egs_cons (eg_name (by simp) (egs_cons (eg_name (by simp) (egs_nil ?_)))))
    obtain ⟨n, hn⟩ : ∃ n : Nat, 1 + r = (n : Int) := ⟨(1 + r).toNat, by omega⟩
    obtain ⟨sh, hsh⟩ : ∃ sh : Int, sh = 1 + r2 := ⟨_, rfl⟩
    rw [hn, ← hsh]
    have hs3 := hs3.mono (show _ ≤ 200 * (t : Int) + 2 by omega)
    have hn1 : 1 ≤ n ∧ n ≤ 9 := by omega
    clear hs hs2
    repeat walk_at "dl"
    refine ev_frz (en_lc (ei_rng1 ?_))
    repeat walk_at "dl"
    refine ⟨by omega, by omega, by rw [rngD_length]; omega, fun i acc M' => ∃ bs : List (List Int), acc = bs.map LI ∧ bs.length = i ∧ (∀ row ∈ bs, RowOk n row) ∧ Strm a (200 * (t : Int) + 2 + 10 * (i : Int)) M M', ⟨[], rfl, rfl, fun _ h => absurd h List.not_mem_nil, by simpa using hs3⟩, ?_, ?_⟩
    · rintro i d acc M' hx ⟨bs, rfl, hbl, hbr, hs⟩
      obtain ⟨hi, rfl⟩ := rngD_get hx
      rw [Int.toNat_natCast] at hi
      refine eg_name' ?_
      repeat walk_at "dl"
      refine ev_frz (en_listRg1 ?_)
      repeat walk_at "dl"
      refine ⟨by omega, by omega, ?_⟩
      repeat walk_at "dl"
      refine ⟨a, rngD 0 (n : Int).toNat, sh, _, M, rfl, by omega, by omega, by rw [rngD_length]; omega, by omega, by omega, hs, fun ys M3 hsub hs3 => ?_⟩
      rw [Int.toNat_natCast] at hsub
      obtain ⟨l, hl, rfl⟩ := sub_ints hsub
      rw [rngD_length, Int.toNat_natCast] at hs3
      refine ⟨bs ++ [l], by rw [List.map_append]; rfl, by rw [List.length_append, hbl]; rfl, fun row hrow => ?_, hs3.mono (by omega)⟩
      rcases List.mem_append.mp hrow with h | h
      · exact hbr row h
      · rw [List.mem_singleton] at h
        subst h
        exact rowOk_sub (by omega) hl
    · rintro acc M' ⟨bs, rfl, hbl, hbr, hs⟩
      rw [rngD_length, Int.toNat_natCast] at hbl hs
      have hs := hs.mono (show _ ≤ 200 * (t : Int) + 100 by omega)
      refine zs_cutG (fun Γ' M' => ∃ b : List (List Int), BoardOk b ∧ b.length = n ∧ Γ' = [none, some (.ptr a), none, none, none, some (LL b), none, none, none, none, none, none, none, none, none, none, none, none, some (.int (n : Int)), none, none, none, none, none, none] ∧ Strm a (200 * (t : Int) + 100) M M') (zs_if ?_) ?_
      · repeat walk_at "dl"
        refine r2_eqI _ _ rfl rfl ?_
        repeat walk_at "dl"
        refine dite_bl (fun _ => ?_) (fun _ => ?_)
        · repeat walk_at "dl"
          refine ev_frz (en_lc (ei_rng1 ?_))
          repeat walk_at "dl"
          refine ⟨by omega, by omega, by rw [rngD_length]; omega, fun i acc M2 => ∃ bs : List (List Int), acc = bs.map LI ∧ bs.length = i ∧ (∀ row ∈ bs, RowOk n row) ∧ M2 = M', ⟨[], rfl, rfl, fun _ h => absurd h List.not_mem_nil, rfl⟩, ?_, ?_⟩
          · rintro i d acc M2 hx ⟨bs, rfl, hbl, hbr, rfl⟩
            obtain ⟨hi, rfl⟩ := rngD_get hx
            rw [Int.toNat_natCast] at hi
            refine eg_name' ?_
            repeat walk_at "dl"
            refine ev_frz (en_lst ?_)
            repeat walk_at "dl"
            refine ev_tup ?_
            repeat walk_at "dl"
            refine ⟨by simp, ?_⟩
            repeat walk_at "dl"
            refine ev_tup ?_
            repeat walk_at "dl"
            refine rc_intI _ rfl ?_
            repeat walk_at "dl"
            refine r2_mod _ _ rfl rfl (by omega) ?_
            repeat walk_at "dl"
            refine ⟨by simp, ?_⟩
            repeat walk_at "dl"
            refine ⟨by simp, ?_⟩
            repeat walk_at "dl"
            generalize hz : ((0 : Int) + (i : Int) + 1) % (n : Int) = z
            have hz0 := Int.emod_nonneg ((0 : Int) + (i : Int) + 1) (show (n : Int) ≠ 0 by omega)
            have hz1 := Int.emod_lt_of_pos ((0 : Int) + (i : Int) + 1) (show 0 < (n : Int) by omega)
            rw [hz] at hz0 hz1
            refine rc_inl (rc_inl (rc_frz (rc_dictP (kvs := [((Sum.inl ((0 : Int) + (i : Int)) : Key), D.int 0), (Sum.inl z, D.int 0)]) _ rfl (.of (.lst _)) ?_)))
            repeat walk_at "dl"
            obtain ⟨ks, hks, hnd, hin⟩ : ∃ ks : List Int, (mergeD [] [((Sum.inl ((0 : Int) + (i : Int)) : Key), D.int 0), (Sum.inl z, D.int 0)]).map (·.1) = ks.map Sum.inl ∧ ks.Nodup ∧ ∀ x ∈ ks, 0 ≤ x ∧ x < (n : Int) := by
              by_cases e : (0 : Int) + (i : Int) = z
              · refine ⟨[z], ?_, by simp, fun x hx => ?_⟩
                · rw [e]
                  simp [mergeD, putD]
                · rw [List.mem_singleton] at hx
                  omega
              · refine ⟨[(0 : Int) + (i : Int), z], ?_, by simp; omega, fun x hx => ?_⟩
                · have e2 : ¬ (i : Int) = z := by omega
                  simp [mergeD, putD, e2]
                · simp at hx
                  omega
            have hk2 := nd_short hnd hin
            refine rc_inr (rc_inr (rc_inl (rc_frz (rc_sortedDI (ks := ks) _ rfl (.dat _) hks (by omega) fun ms hp hsrt => ?_))))
            refine ⟨bs ++ [ms], by rw [List.map_append]; rfl, by rw [List.length_append, hbl]; rfl, fun row hrow => ?_, rfl⟩
            rcases List.mem_append.mp hrow with h | h
            · exact hbr row h
            · rw [List.mem_singleton] at h
              subst h
              exact rowOk_sort (by omega) hp hsrt hnd hin
          · rintro acc M2 ⟨bs, rfl, hbl, hbr, rfl⟩
            rw [rngD_length, Int.toNat_natCast] at hbl
            exact ⟨_, by walk_at "gle", bs, ⟨by omega, by omega, by rw [hbl]; exact hbr⟩, hbl, rfl, hs⟩
        · refine zs_next ?_
          exact ⟨_, by walk_at "gle", bs, ⟨by omega, by omega, by rw [hbl]; exact hbr⟩, hbl, rfl, hs⟩
      · rintro Γ' M' ⟨b, hb, rfl, rfl, hs⟩
        have h9 : b.length ≤ 9 := hn1.2
        have hrw := rows_of hb
        have hSR := told_sums hb h9
        have hbd := hits_bd h9
        have hup := up_hits hrw h9
        have hot := out_tell hrw h9
        repeat walk_at "dl"
        refine ⟨b, rfl, hb, h9, ?_⟩
        repeat walk_at "dl"
        refine ⟨b, rfl, hb, h9, ?_⟩
        repeat walk_at "dl"
        refine ⟨_, _, rfl, ?_⟩
        repeat walk_at "dl"
        refine ev_frz (en_map (ei_srcL ?_))
        repeat walk_at "dl"
        refine ⟨b.map LI, .inl rfl, by rw [List.length_map]; omega, (freeB b).map LI, by rw [List.length_map, List.length_map, freeB_length], fun k d hk => eg_name' ?_, ?_⟩
        · obtain ⟨row, hk2, rfl⟩ := mem_at hk
          refine ev_frz (en_flt (ei_rng1 ?_))
          repeat walk_at "dl"
          refine ⟨by omega, by omega, by rw [rngD_length]; omega, frD row, fun k2 d hk => eg_name' ?_, ?_⟩
          · obtain ⟨hk1, rfl⟩ := rngD_get hk
            repeat walk_at "dl"
            refine u_niI _ rfl (.l (.of (.lst _))) ?_
            repeat walk_at "dl"
            refine ndite_bl (fun hn => ?_) (fun hn => ?_)
            · repeat walk_at "dl"
              exact ⟨if_neg hn, rfl⟩
            · exact ⟨if_pos hn, rfl⟩
          · rw [Int.toNat_natCast, filterMap_fr]
            refine ⟨?_, rfl⟩
            unfold freeB
            rw [List.getElem?_map, List.getElem?_map, hk2]
            rfl
        · have hbf := boardOk_free hb
          have hfl := freeB_length b
          have hHl := hitsT_length b.length (taken b.length b)
          have hRl := tellZ_length b.length (ways b)
          have hotf := out_tell (rows_of hbf) (by rw [hfl]; exact h9)
          rw [hfl, hits_free] at hotf
          have hz0 := @hits_zero b
          generalize hHits : hitsT b.length (taken b.length b) = Hs at hbd hup hot hotf hz0 hHl ⊢
          generalize hRk : tellZ b.length (ways b) = Rs at hSR hup hot hRl ⊢
          have hSH : Sums Hs := ⟨by omega, by omega, fun x hx => by have := hbd x hx; omega⟩
          have hupD : upD Hs = .tup [.str "yes", LI Rs] := by
            unfold upD
            rw [hup.1, hHl, hup.2]
          repeat walk_at "dl"
          refine ev_frz (en_lst ?_)
          repeat walk_at "dl"
          refine ⟨b, rfl, hb, ?_⟩
          repeat walk_at "dl"
          refine ⟨b, rfl, hb, h9, ?_⟩
          rw [hRk, hot]
          repeat walk_at "dl"
          refine ⟨b, rfl, hb, h9, ?_⟩
          rw [hRk]
          repeat walk_at "dl"
          refine ⟨b, rfl, hb, ?_⟩
          repeat walk_at "dl"
          refine ⟨Rs, rfl, hSR, ?_⟩
          rw [hot]
          repeat walk_at "dl"
          refine ⟨Hs, rfl, hSH, by omega, ?_⟩
          rw [hupD]
          repeat walk_at "dl"
          refine ⟨freeB b, rfl, hbf, by omega, ?_⟩
          rw [hfl, hotf]
          repeat walk_at "dl"
          refine ⟨by simp, ?_⟩
          repeat walk_at "dl"
          refine ev_frz (en_lst ?_)
          repeat walk_at "dl"
          refine ev_tup ?_
          repeat walk_at "dl"
          refine ⟨by simp, ?_⟩
          repeat walk_at "dl"
          refine ev_frz (en_revL ?_)
          repeat walk_at "dl"
          refine ⟨Hs.map .int, .of (.lst _), ?_⟩
          rw [← List.map_reverse]
          repeat walk_at "dl"
          refine ⟨by simp, ?_⟩
          repeat walk_at "dl"
          refine ⟨_, rfl, .inr (.inr (.inr (.inl ⟨_, rfl, by simp, fun x hx => ?_⟩))), ?_⟩
          · simp only [List.mem_cons, List.not_mem_nil, or_false] at hx
            rcases hx with rfl | rfl | rfl | rfl | rfl | rfl | rfl
            · exact .inr (.inl ⟨true, rfl⟩)
            · exact sameD_LI (by omega)
            · exact sameD_LI (by omega)
            · exact sameD_LL (by omega) fun row hrow => (hbf.2.2 row hrow).1
            · exact sameD_LI (by omega)
            · exact sameD_yes (by omega)
            · exact sameD_LI (by rw [List.length_reverse]; omega)
          · repeat walk_at "dl"
            refine rc_own (u_list (ds := Hs.map .int) _ rfl (.l (.of (.lst _))) fun pb => ?_)
            repeat walk_at "dl"
            refine zs_augL (ev_var rfl (ev_callF ?_))
            repeat walk_at "dl"
            refine ⟨[(pb, .lst (Hs.map .int))], M', rfl, a, (b.length : Int) + 1, _, M, rfl, by omega, by omega, by omega, hs, fun r M2 hr0 hr1 hs2 => ?_⟩
            obtain ⟨k, rfl⟩ : ∃ k : Nat, r = (k : Int) := ⟨r.toNat, by omega⟩
            have hk : k < Hs.length := by omega
            have hHk := getD_at hk
            have hHk2 := hbd _ (List.mem_of_getElem? hHk)
            refine ⟨0, k, pb, Hs.map .int, Hs.getD k 0, rfl, rfl, rfl, by omega, by rw [List.getElem?_map, hHk]; rfl, ?_⟩
            refine ev_op (ev_int (ev_callF ?_))
            repeat walk_at "dl"
            refine ⟨[(pb, .lst (Hs.map .int))], M2, rfl, a, 5, _, M, rfl, by omega, by omega, by omega, hs2, fun r2 M3 hr20 hr21 hs3 => ?_⟩
            repeat walk_at "dl"
            refine ⟨_, Hs.map .int, rfl, rfl, by rw [List.length_map]; exact hk, ?_⟩
            have hs3 := hs3.mono (show _ ≤ 200 * (t : Int) + 110 by omega)
            clear hs hs2
            refine es_letgo 14 0 rfl rfl ?_
            have hBm : (Hs.map D.int).set k (.int (Hs.getD k 0 + (1 + r2))) = (Hs.set k (Hs.getD k 0 + (1 + r2))).map D.int := by rw [List.map_set]
            have hBb : ∀ x ∈ Hs.set k (Hs.getD k 0 + (1 + r2)), -1000000 ≤ x ∧ x ≤ 400000000 := fun x hx => by
              rcases List.mem_or_eq_of_mem_set hx with h | h
              · have := hbd x h; omega
              · omega
            have hBl : (Hs.set k (Hs.getD k 0 + (1 + r2))).length = b.length + 1 := by rw [List.length_set, hHl]
            rw [hBm]
            generalize Hs.set k (Hs.getD k 0 + (1 + r2)) = B at hBb hBl
            clear hBm
            repeat walk_at "dl"
            refine ev_frz (en_flt (ei_rng1 ?_))
            repeat walk_at "dl"
            refine ⟨by omega, by omega, by rw [rngD_length]; omega, badD B, fun j d hk => eg_name' ?_, ?_⟩
            · obtain ⟨hj1, rfl⟩ := rngD_get hk
              have hj : j ≤ b.length := by omega
              rw [show (0 : Int) + (j : Int) = (j : Int) by omega]
              have hfb := facI_bd (n := b.length - j) (by omega)
              repeat walk_at "dl"
              refine ev_frz (en_map (ei_rng1 ?_))
              repeat walk_at "dl"
              refine ⟨by omega, by omega, by rw [rngD_length]; omega, ((List.range (b.length + 1)).map fun k => ch k j * B.getD k 0).map .int, by rw [rngD_length, List.length_map, List.length_map, List.length_range]; omega, fun k3 d hk3 => eg_name' ?_, ?_⟩
              · obtain ⟨hk1, rfl⟩ := rngD_get hk3
                have hk2 : k3 < b.length + 1 := by omega
                rw [show (0 : Int) + (k3 : Int) = (k3 : Int) by omega]
                repeat walk_at "dl"
                refine ⟨k3, j, rfl, by omega, by omega, ?_⟩
                repeat walk_at "dl"
                have hBk := getD_at (a := B) (k := k3) (by omega)
                have hBk2 := hBb _ (List.mem_of_getElem? hBk)
                refine u_ixL _ (.of (.lst _)) rfl (atI_ints hBk) ?_
                refine r2_mul _ _ rfl rfl (.inr ⟨by omega, by omega⟩) ?_
                refine ⟨?_, rfl⟩
                rw [List.getElem?_map, List.getElem?_map, List.getElem?_range hk2]
                rfl
              repeat walk_at "dl"
              refine rc_sum _ _ rfl (.of (.lst _)) ?_
              rw [tIn_sum hBl (by omega)]
              repeat walk_at "dl"
              refine rc_intI _ rfl ?_
              repeat walk_at "dl"
              refine ev_frz (en_listRg2 ?_)
              repeat walk_at "dl"
              refine ⟨1, _, rfl, rfl, ⟨by omega, by omega, by omega, by omega⟩, ?_⟩
              rw [show ((b.length : Int) - (j : Int) + 1 - 1).toNat = b.length - j by omega, rngD_Z]
              repeat walk_at "dl"
              refine ⟨rangeZ 1 (b.length - j), rfl, by rw [rangeZ_length]; omega, fun x hx => by have := rangeZ_mem.mp hx; omega, ?_⟩
              rw [prod_fac]
              refine r2_mod _ _ rfl rfl hfb.1 ?_
              repeat walk_at "dl"
              refine r2_neI _ _ rfl rfl ?_
              repeat walk_at "dl"
              have hub : upBad B j = !decide ((tIn B).getD j 0 % facI (b.length - j) = 0) := by
                unfold upBad
                rw [hBl, show b.length + 1 - 1 - j = b.length - j by omega]
              refine ndite_bl (fun hn => ?_) (fun hn => ?_)
              · repeat walk_at "dl"
                refine ⟨?_, rfl⟩
                show (if upBad B (j : Int).toNat = true then _ else _) = _
                rw [Int.toNat_natCast, if_pos (by rw [hub, decide_eq_false hn]; rfl)]
              · refine ⟨?_, rfl⟩
                show (if upBad B (j : Int).toNat = true then _ else _) = _
                rw [Int.toNat_natCast, if_neg (by rw [hub, decide_eq_true hn]; exact Bool.false_ne_true)]
            · rw [bad_map]
              have hup2 := upR_head B
              rw [hBl] at hup2
              rw [show ((b.length : Int) + 1).toNat = b.length + 1 by omega]
              generalize hF : (List.range (b.length + 1)).filter (upBad B) = F at hup2 ⊢
              repeat walk_at "dl"
              refine ⟨B, rfl, ⟨by omega, by omega, fun x hx => by have := hBb x hx; omega⟩, by omega, ?_⟩
              repeat walk_at "dl"
              refine ev_frz (en_map (ei_rng1 ?_))
              repeat walk_at "dl"
              refine ⟨by omega, by omega, by rw [rngD_length]; omega, ((List.range B.length).map (upQ B)).map .int, by rw [rngD_length, List.length_map, List.length_map, List.length_range]; omega, fun j d hk => eg_name' ?_, ?_⟩
              · obtain ⟨hj1, rfl⟩ := rngD_get hk
                have hj : j ≤ b.length := by omega
                rw [show (0 : Int) + (j : Int) = (j : Int) by omega]
                have hfb := facI_bd (n := b.length - j) (by omega)
                repeat walk_at "dl"
                refine ev_frz (en_map (ei_rng1 ?_))
                repeat walk_at "dl"
                refine ⟨by omega, by omega, by rw [rngD_length]; omega, ((List.range (b.length + 1)).map fun k => ch k j * B.getD k 0).map .int, by rw [rngD_length, List.length_map, List.length_map, List.length_range]; omega, fun k3 d hk3 => eg_name' ?_, ?_⟩
                · obtain ⟨hk1, rfl⟩ := rngD_get hk3
                  have hk2 : k3 < b.length + 1 := by omega
                  rw [show (0 : Int) + (k3 : Int) = (k3 : Int) by omega]
                  repeat walk_at "dl"
                  refine ⟨k3, j, rfl, by omega, by omega, ?_⟩
                  repeat walk_at "dl"
                  have hBk := getD_at (a := B) (k := k3) (by omega)
                  have hBk2 := hBb _ (List.mem_of_getElem? hBk)
                  refine u_ixL _ (.of (.lst _)) rfl (atI_ints hBk) ?_
                  refine r2_mul _ _ rfl rfl (.inr ⟨by omega, by omega⟩) ?_
                  refine ⟨?_, rfl⟩
                  rw [List.getElem?_map, List.getElem?_map, List.getElem?_range hk2]
                  rfl
                repeat walk_at "dl"
                refine rc_sum _ _ rfl (.of (.lst _)) ?_
                rw [tIn_sum hBl (by omega)]
                repeat walk_at "dl"
                refine ev_frz (en_listRg2 ?_)
                repeat walk_at "dl"
                refine ⟨1, _, rfl, rfl, ⟨by omega, by omega, by omega, by omega⟩, ?_⟩
                rw [show ((b.length : Int) - (j : Int) + 1 - 1).toNat = b.length - j by omega, rngD_Z]
                repeat walk_at "dl"
                refine ⟨rangeZ 1 (b.length - j), rfl, by rw [rangeZ_length]; omega, fun x hx => by have := rangeZ_mem.mp hx; omega, ?_⟩
                rw [prod_fac]
                refine r2_fdiv _ _ rfl rfl hfb ?_
                refine ⟨?_, rfl⟩
                rw [List.getElem?_map, List.getElem?_map, List.getElem?_range (by omega)]
                show some (D.int (upQ B j)) = _
                unfold upQ
                rw [hBl, show b.length + 1 - 1 - j = b.length - j by omega]
              · repeat walk_at "dl"
                refine ev_frz (en_lst ?_)
                repeat walk_at "dl"
                refine ⟨by simp, ?_⟩
                refine r2_neLI (F.map fun j : Nat => (j : Int)) [] (.lst _) .nil ?_
                refine ⟨_, rfl, ite_cut (Φ1 := fun d M1 => d = upD B ∧ SameD 6 (upD B) ∧ M1 = M3) ?_ fun d M1 hd => ?_⟩
                · cases F with
                  | nil =>
                    refine ndite_bl (fun hn => absurd rfl hn) (fun _ => ?_)
                    refine ev_tup ?_
                    repeat walk_at "dl"
                    refine ⟨by simp, ?_⟩
                    rw [upD_none hup2]
                    exact ⟨rfl, sameD_yes (by rw [List.length_map, List.length_range]; omega), rfl⟩
                  | cons j F =>
                    refine ndite_bl (fun _ => ?_) (fun hn => nomatch hn)
                    refine ev_tup ?_
                    repeat walk_at "dl"
                    refine u_ixL 0 (.of (.lst _)) rfl (atI_of (k := 0) rfl (show (((j :: F).map fun j : Nat => (j : Int)).map D.int)[0]? = some (.int (j : Int)) from rfl)) ?_
                    repeat walk_at "dl"
                    refine ⟨by simp, ?_⟩
                    rw [upD_some hup2]
                    exact ⟨rfl, sameD_no, rfl⟩
                · obtain ⟨rfl, hsd, rfl⟩ := hd
                  repeat walk_at "dl"
                  refine ⟨_, rfl, hsd, ?_⟩
                  repeat walk_at "dl"
                  refine ⟨b, rfl, hb, fun d hd => ?_⟩
                  have hH0 : (Hs.map D.int)[0]? = some (.int (Hs.getD 0 0)) := by rw [List.getElem?_map, getD_at (by omega)]; rfl
                  cases hd with
                  | @yes ps hp =>
                    repeat walk_at "dl"
                    refine u_ixT 0 rfl rfl rfl ?_
                    repeat walk_at "dl"
                    refine r2_eqS _ _ rfl rfl ?_
                    rw [decide_eq_true rfl]
                    repeat walk_at "dl"
                    refine u_ixT 1 rfl rfl rfl ?_
                    repeat walk_at "dl"
                    refine rc_frz (rc_inl (rc_inl (rc_sortedI (ns := ps) _ rfl (.of (.lst _)) fun ms hmp hms => ?_)))
                    have hme : ms = rangeZ 0 b.length := sort_all hmp hms (pl_perm hp rfl)
                    subst hme
                    repeat walk_at "dl"
                    refine ev_frz (en_listRg1 ?_)
                    repeat walk_at "dl"
                    refine ⟨by omega, by omega, ?_⟩
                    rw [Int.toNat_natCast, rngD_Z]
                    refine r2_neLI (rangeZ 0 b.length) (rangeZ 0 b.length) (.lst _) (.lst _) ?_
                    rw [decide_eq_true rfl]
                    repeat walk_at "dl"
                    refine ev_frz (en_flt (ei_zipL ?_))
                    repeat walk_at "dl"
                    refine u_ixT 1 rfl rfl rfl ?_
                    repeat walk_at "dl"
                    refine ⟨_, _, b.map LI, ps.map .int, rfl, .inl rfl, .inl rfl, by rw [zipD_length, List.length_map]; omega, fun _ => none, fun k3 d hk3 => ?_, ?_⟩
                    · obtain ⟨x, y, hx1, hx2, rfl⟩ := zipD_get hk3
                      obtain ⟨row, hx3, rfl⟩ := mem_at hx1
                      obtain ⟨pl, hx4, rfl⟩ := mem_at hx2
                      refine eg_tup rfl rfl (egs_cons (eg_name (by simp) (egs_cons (eg_name (by simp) (egs_nil ?_)))))
                      repeat walk_at "dl"
                      refine u_inI _ rfl (.l (.of (.lst _))) ?_
                      repeat walk_at "dl"
                      refine dite_bl (fun z => absurd z ((pl_iff.mp hp).2.2.2 k3 row pl hx3 hx4)) (fun _ => ?_)
                      exact ⟨rfl, rfl⟩
                    · rw [show List.filterMap (fun _ => none) (zipD (b.map LI) (ps.map D.int)) = ([] : List D) from by simp]
                      repeat walk_at "dl"
                      refine ev_frz (en_lst ?_)
                      repeat walk_at "dl"
                      refine ⟨by simp, ?_⟩
                      refine r2_neLI [] [] .nil .nil ?_
                      rw [decide_eq_true rfl]
                      repeat walk_at "dl"
                      refine u_ixL 0 (.of (.lst _)) rfl (atI_of (k := 0) rfl hH0) ?_
                      repeat walk_at "dl"
                      refine r2_eqI _ _ rfl rfl ?_
                      rw [decide_eq_false (hz0.mpr ⟨ps, hp⟩)]
                      repeat walk_at "dl"
                      exact ⟨_, by walk_at "gle", rfl, hs3.mono (by omega)⟩
                  | @no rs hpw hrs hS =>
                    obtain ⟨S, hSl, hSF⟩ := hS
                    have hrnd : rs.Nodup := hpw.imp fun h => by omega
                    have hrl := nd_short hrnd hrs
                    have hnoP : Hs.getD 0 0 = 0 := Decidable.byContradiction fun hne => by
                      obtain ⟨ps, hp⟩ := hz0.mp hne
                      have := pl_no hp hrnd hrs (S := S) fun r hr p row h1 h2 h3 h4 => hSF r hr p ⟨row, h1, (hrs r hr).1, freeRow_mem.mpr ⟨⟨h2, h3⟩, h4⟩⟩
                      omega
                    rw [hnoP] at hH0
                    repeat walk_at "dl"
                    refine u_ixT 0 rfl rfl rfl ?_
                    repeat walk_at "dl"
                    refine r2_eqS _ _ rfl rfl ?_
                    rw [decide_eq_false (by decide)]
                    repeat walk_at "dl"
                    refine ev_own (en_dk fun pf => ?_)
                    repeat walk_at "dl"
                    refine zs_for [11] (ei_srcL ?_)
                    repeat walk_at "dl"
                    refine u_ixT 1 rfl rfl rfl ?_
                    refine ⟨rs.map .int, .inl rfl, fun i Γ' M' => Γ' = [none, some (.ptr a), none, none, none, some (LL b), some (.tup [.str "no", LI rs]), none, none, none, some (.ptr pf), none, some (LL (freeB b)), none, none, none, none, none, none, none, some (LI Hs), none, none, none, none] ∧ ∃ fr : List (Key × D), KeysIn S fr ∧ M' = (pf, .dK fr) :: M1, ⟨_, by walk_at "gle", rfl, [], keysIn_nil S, rfl⟩, fun i d Γ' M' hx hC => ?_, ?_⟩
                    · obtain ⟨rfl, fr, hfr, rfl⟩ := hC
                      obtain ⟨r, hx2, rfl⟩ := mem_at hx
                      have hrm := List.mem_of_getElem? hx2
                      have hrr := hrs r hrm
                      obtain ⟨brow, hbr⟩ : ∃ brow, b[r.toNat]? = some brow := ⟨_, List.getElem?_eq_getElem (by omega)⟩
                      have hfrl := keysIn_len hfr
                      have hfll : (freeRow b.length brow).length ≤ 9 := by
                        have := nd_short (n := b.length) (l := freeRow b.length brow) ((rangeZ_nd 0 b.length).sublist List.filter_sublist) fun x hx => (freeRow_mem.mp hx).1
                        omega
                      refine eg_name (by simp) ?_
                      refine zs_drop (ev_bm (ev_var rfl ⟨dty_ownK (.head _), ?_⟩))
                      repeat walk_at "dl"
                      refine ev_frz (en_map (ei_srcL ?_))
                      repeat walk_at "dl"
                      refine u_ixL _ (.of (.lst _)) rfl (atI_of (k := r.toNat) (by omega) (show ((freeB b).map LI)[r.toNat]? = some (LI (freeRow b.length brow)) by unfold freeB; rw [List.getElem?_map, List.getElem?_map, hbr]; rfl)) ?_
                      refine ⟨(freeRow b.length brow).map .int, .inl rfl, by rw [List.length_map]; omega, pairK ((freeRow b.length brow).map fun x => ((Sum.inl x : Key), D.int 0)), by unfold pairK; simp, fun k d hk => eg_name' ?_, ?_⟩
                      · obtain ⟨x, hx3, rfl⟩ := mem_at hk
                        refine ev_tup ?_
                        repeat walk_at "dl"
                        refine ⟨by simp, ?_, rfl⟩
                        unfold pairK
                        rw [List.map_map, List.getElem?_map, hx3]
                        rfl
                      · repeat walk_at "dl"
                        refine rc_inl (rc_inl (rc_frz (rc_dictP (kvs := (freeRow b.length brow).map fun x => ((Sum.inl x : Key), D.int 0)) _ rfl (.of (.lst _)) ?_)))
                        repeat walk_at "dl"
                        have hml := mergeD_len ((freeRow b.length brow).map fun x => ((Sum.inl x : Key), D.int 0)) []
                        rw [List.length_map, List.length_nil] at hml
                        refine rm_dupd 0 rfl rfl rfl (by omega) ?_
                        exact ⟨_, by walk_at "gle", rfl, _, keysIn_add hfr fun x hx => hSF r hrm x ⟨brow, hbr, hrr.1, hx⟩, rfl⟩
                    · rintro Γ' M' ⟨rfl, fr, hfr, rfl⟩
                      have hfrl := keysIn_len hfr
                      refine es_letgo 10 0 rfl rfl ?_
                      repeat walk_at "dl"
                      refine u_ixT 0 rfl rfl rfl ?_
                      repeat walk_at "dl"
                      refine r2_neS _ _ rfl rfl ?_
                      rw [decide_eq_true rfl]
                      repeat walk_at "dl"
                      refine u_ixL 0 (.of (.lst _)) rfl (atI_of (k := 0) rfl hH0) ?_
                      repeat walk_at "dl"
                      refine r2_neI _ _ rfl rfl ?_
                      rw [decide_eq_true rfl]
                      repeat walk_at "dl"
                      refine u_ixT 1 rfl rfl rfl ?_
                      repeat walk_at "dl"
                      refine rc_frz (rc_inl (rc_inl (rc_sortedI (ns := rs) _ rfl (.of (.lst _)) fun ms hmp hms => ?_)))
                      have hme : ms = rs := sort_same hmp hms hpw
                      subst hme
                      repeat walk_at "dl"
                      refine u_ixT 1 rfl rfl rfl ?_
                      refine r2_neLI ms ms (.lst _) (.lst _) ?_
                      rw [decide_eq_true rfl]
                      repeat walk_at "dl"
                      refine u_lenD _ rfl (.dat _) ?_
                      repeat walk_at "dl"
                      refine u_ixT 1 rfl rfl rfl ?_
                      repeat walk_at "dl"
                      refine u_len (LI ms) ms.length rfl (ln_of (.l (.of (.lst _))) (by rw [List.length_map])) ?_
                      repeat walk_at "dl"
                      refine dite_bl (fun z => absurd z (by omega)) (fun _ => ?_)
                      repeat walk_at "dl"
                      refine ev_frz (en_map (ei_srcL ?_))
                      repeat walk_at "dl"
                      refine u_ixT 1 rfl rfl rfl ?_
                      refine ⟨ms.map .int, .inl rfl, by rw [List.length_map]; omega, pairK (ms.map fun x => ((Sum.inl x : Key), D.int 0)), by unfold pairK; simp, fun k d hk => eg_name' ?_, ?_⟩
                      · obtain ⟨x, hx3, rfl⟩ := mem_at hk
                        refine ev_tup ?_
                        repeat walk_at "dl"
                        refine ⟨by simp, ?_, rfl⟩
                        unfold pairK
                        rw [List.map_map, List.getElem?_map, hx3]
                        rfl
                      · repeat walk_at "dl"
                        refine rc_inl (rc_inl (rc_frz (rc_dictP (kvs := ms.map fun x => ((Sum.inl x : Key), D.int 0)) _ rfl (.of (.lst _)) ?_)))
                        rw [mergeD_nil _ (by rw [List.map_map]; exact nodup_map hrnd fun a _ b _ e => Sum.inl.inj e)]
                        repeat walk_at "dl"
                        refine u_lenD _ rfl (.dat _) ?_
                        repeat walk_at "dl"
                        refine u_ixT 1 rfl rfl rfl ?_
                        repeat walk_at "dl"
                        refine u_len (LI ms) ms.length rfl (ln_of (.l (.of (.lst _))) (by rw [List.length_map])) ?_
                        refine r2_neI _ _ rfl rfl ?_
                        rw [List.length_map, decide_eq_true rfl]
                        repeat walk_at "dl"
                        exact ⟨_, by walk_at "gle", rfl, hs3.mono (by omega)⟩
  · obtain ⟨rfl, hs⟩ := hC
    have hs := hs.mono (show _ ≤ (800 : Int) by rw [rngD_length]; decide)
    repeat walk_at "dl"
    refine ⟨a, 45, _, M, rfl, by decide, by decide, by omega, hs, fun r M2 hr0 hr1 hs2 => ?_⟩
    obtain ⟨n, hn⟩ : ∃ n : Nat, 20 + r = (n : Int) := ⟨(20 + r).toNat, by omega⟩
    have hn1 : 20 ≤ n ∧ n ≤ 64 := by omega
    repeat walk_at "dl"
    rw [hn]
    repeat walk_at "dl"
    refine ev_frz (en_listRg1 ?_)
    repeat walk_at "dl"
    refine ⟨by omega, by omega, ?_⟩
    repeat walk_at "dl"
    refine ⟨a, rngD 0 (n : Int).toNat, _, M, rfl, by rw [rngD_length]; omega, by omega, by omega, hs2, fun ys M3 hys hs3 => ?_⟩
    rw [rngD_length, Int.toNat_natCast] at hs3
    rw [Int.toNat_natCast, rngD_Z] at hys
    obtain ⟨pl, hpl, rfl⟩ := perm_ints hys
    have hpl : pl.Perm (rangeZ 0 n) := hpl
    have hs3 := hs3.mono (show _ ≤ (900 : Int) by omega)
    clear hs hs2 hys
    have hpll : pl.length = n := by rw [hpl.length_eq, rangeZ_length]
    have hplr : ∀ x ∈ pl, 0 ≤ x ∧ x < (n : Int) := fun x hx => by have := rangeZ_mem.mp (hpl.mem_iff.mp hx); omega
    have hpln : pl.Nodup := hpl.nodup_iff.mpr (rangeZ_nd 0 n)
    repeat walk_at "dl"
    refine ev_frz (en_lc (ei_rng1 ?_))
    repeat walk_at "dl"
    refine ⟨by omega, by omega, by rw [rngD_length]; omega, fun i acc M' => ∃ bs : List (List Int), acc = bs.map LI ∧ bs.length = i ∧ (∀ (k : Nat) (row : List Int), bs[k]? = some row → RowOk n row ∧ ∀ p, pl[k]? = some p → p ∉ row) ∧ Strm a (900 + 100 * (i : Int)) M M', ⟨[], rfl, rfl, fun k row h => by simp at h, by simpa using hs3⟩, ?_, ?_⟩
    · rintro i d acc M' hx ⟨bs, rfl, hbl, hbr, hs⟩
      obtain ⟨hi, rfl⟩ := rngD_get hx
      rw [Int.toNat_natCast] at hi
      have hpk : pl[i]? = some (pl.getD i 0) := getD_at (by omega)
      generalize pl.getD i 0 = pk at hpk
      refine eg_name' ?_
      repeat walk_at "dl"
      refine ev_frz (en_flt (ei_rng1 ?_))
      repeat walk_at "dl"
      refine ⟨by omega, by omega, by rw [rngD_length]; omega, neD pk, fun k2 d hk => eg_name' ?_, ?_⟩
      · obtain ⟨hk1, rfl⟩ := rngD_get hk
        repeat walk_at "dl"
        refine u_ixL _ (.of (.lst _)) rfl (atI_of (k := i) (by omega) (by rw [List.getElem?_map, hpk]; rfl)) ?_
        refine r2_neI _ _ rfl rfl ?_
        repeat walk_at "dl"
        refine ndite_bl (fun hn => ?_) (fun hn => ?_)
        · repeat walk_at "dl"
          exact ⟨if_neg hn, rfl⟩
        · exact ⟨if_pos hn, rfl⟩
      · rw [Int.toNat_natCast, ne_map]
        repeat walk_at "dl"
        have hfl : ((rangeZ 0 n).filter fun x => !decide (x = pk)).length ≤ 64 := by
          have := List.length_filter_le (fun x => !decide (x = pk)) (rangeZ 0 n)
          rw [rangeZ_length] at this
          omega
        refine ⟨a, ((rangeZ 0 n).filter fun x => !decide (x = pk)).map .int, 2, _, M, rfl, by omega, by omega, by rw [List.length_map]; omega, by omega, by omega, hs, fun ys M3 hsub hs3 => ?_⟩
        obtain ⟨l, hl, rfl⟩ := List.sublist_map_iff.mp hsub
        rw [List.length_map] at hs3
        have hs3 := hs3.mono (show _ ≤ 900 + 100 * ((i + 1 : Nat) : Int) by omega)
        repeat walk_at "dl"
        refine rc_frz (rc_inl (rc_inl (rc_sortedI (ns := l) _ rfl (.of (.lst _)) fun ms hmp hms => ?_)))
        have hlm : ∀ x ∈ l, (0 ≤ x ∧ x < (n : Int)) ∧ x ≠ pk := fun x hx => by
          have h1 := List.mem_filter.mp (hl.subset hx)
          have h2 := rangeZ_mem.mp h1.1
          exact ⟨by omega, by simpa using h1.2⟩
        refine ⟨bs ++ [ms], by rw [List.map_append]; rfl, by rw [List.length_append, hbl]; rfl, fun k row hk => ?_, hs3⟩
        by_cases hki : k < bs.length
        · rw [List.getElem?_append_left hki] at hk
          exact hbr k row hk
        · have hk3 := (List.getElem?_eq_some_iff.mp hk).1
          rw [List.length_append, List.length_singleton] at hk3
          have e : k = bs.length := by omega
          subst e
          rw [List.getElem?_append_right (Nat.le_refl _), Nat.sub_self] at hk
          have e : ms = row := Option.some.inj hk
          subst e
          refine ⟨rowOk_sort (by omega) hmp hms (((rangeZ_nd 0 n).sublist List.filter_sublist).sublist hl) fun x hx => (hlm x hx).1, fun p hp hpm => ?_⟩
          rw [hbl, hpk] at hp
          have e : pk = p := Option.some.inj hp
          exact (hlm p (hmp.mem_iff.mp hpm)).2 e.symm
    · rintro acc M' ⟨bs, rfl, hbl, hbr, hs⟩
      rw [rngD_length, Int.toNat_natCast] at hbl hs
      subst hbl
      have hs := hs.mono (show _ ≤ (8000 : Int) by omega)
      have hb : BoardOk bs := ⟨by omega, by omega, fun row hr => by
        obtain ⟨k, hk⟩ := List.getElem?_of_mem hr
        exact (hbr k row hk).1⟩
      have hPl : Pl bs.length bs [] pl := pl_iff.mpr ⟨hpll, hpln, fun x hx => ⟨(hplr x hx).1, (hplr x hx).2, List.not_mem_nil⟩, fun i row x h1 h2 => (hbr i row h1).2 x h2⟩
      repeat walk_at "dl"
      refine ⟨bs, rfl, hb, fun d hd => ?_⟩
      cases hd with
      | @no rs hpw hrs hS =>
        obtain ⟨S, hSl, hSF⟩ := hS
        have := pl_no hPl (hpw.imp fun h => by omega) hrs (S := S) fun r hr p row h1 h2 h3 h4 => hSF r hr p ⟨row, h1, (hrs r hr).1, freeRow_mem.mpr ⟨⟨h2, h3⟩, h4⟩⟩
        omega
      | @yes ps hp =>
        repeat walk_at "dl"
        refine u_ixT 0 rfl rfl rfl ?_
        repeat walk_at "dl"
        refine r2_neS _ _ rfl rfl ?_
        rw [decide_eq_true rfl]
        repeat walk_at "dl"
        refine u_ixT 1 rfl rfl rfl ?_
        repeat walk_at "dl"
        refine rc_frz (rc_inl (rc_inl (rc_sortedI (ns := ps) _ rfl (.of (.lst _)) fun ms hmp hms => ?_)))
        have hme : ms = rangeZ 0 bs.length := sort_all hmp hms (pl_perm hp rfl)
        subst hme
        repeat walk_at "dl"
        refine ev_frz (en_listRg1 ?_)
        repeat walk_at "dl"
        refine ⟨by omega, by omega, ?_⟩
        rw [Int.toNat_natCast, rngD_Z]
        refine r2_neLI (rangeZ 0 bs.length) (rangeZ 0 bs.length) (.lst _) (.lst _) ?_
        rw [decide_eq_true rfl]
        repeat walk_at "dl"
        refine ev_frz (en_flt (ei_zipL ?_))
        repeat walk_at "dl"
        refine u_ixT 1 rfl rfl rfl ?_
        repeat walk_at "dl"
        refine ⟨_, _, bs.map LI, ps.map .int, rfl, .inl rfl, .inl rfl, by rw [zipD_length, List.length_map]; omega, fun _ => none, fun k3 d hk3 => ?_, ?_⟩
        · obtain ⟨x, y, hx1, hx2, rfl⟩ := zipD_get hk3
          obtain ⟨row, hx3, rfl⟩ := mem_at hx1
          obtain ⟨pl, hx4, rfl⟩ := mem_at hx2
          refine eg_tup rfl rfl (egs_cons (eg_name (by simp) (egs_cons (eg_name (by simp) (egs_nil ?_)))))
          repeat walk_at "dl"
          refine u_inI _ rfl (.l (.of (.lst _))) ?_
          repeat walk_at "dl"
          refine dite_bl (fun z => absurd z ((pl_iff.mp hp).2.2.2 k3 row pl hx3 hx4)) (fun _ => ?_)
          exact ⟨rfl, rfl⟩
        · rw [show List.filterMap (fun _ => none) (zipD (bs.map LI) (ps.map D.int)) = ([] : List D) from by simp]
          repeat walk_at "dl"
          refine ev_frz (en_lst ?_)
          repeat walk_at "dl"
          refine ⟨by simp, ?_⟩
          refine r2_neLI [] [] .nil .nil ?_
          rw [decide_eq_true rfl]
          repeat walk_at "dl"
          refine ev_frz (en_listRg1 ?_)
          repeat walk_at "dl"
          refine ⟨by omega, by omega, ?_⟩
          repeat walk_at "dl"
          refine ⟨a, rngD 0 (bs.length : Int).toNat, _, M, rfl, by rw [rngD_length]; omega, by omega, by omega, hs, fun ys M4 hys hs4 => ?_⟩
          rw [rngD_length, Int.toNat_natCast] at hs4
          rw [Int.toNat_natCast, rngD_Z] at hys
          obtain ⟨p2, hp2, rfl⟩ := perm_ints hys
          have hp2 : p2.Perm (rangeZ 0 bs.length) := hp2
          clear hys
          have hp2l : p2.length = bs.length := by rw [hp2.length_eq, rangeZ_length]
          have hp2r : ∀ x ∈ p2, 0 ≤ x ∧ x < (bs.length : Int) := fun x hx => by have := rangeZ_mem.mp (hp2.mem_iff.mp hx); omega
          have hp2n : p2.Nodup := hp2.nodup_iff.mpr (rangeZ_nd 0 bs.length)
          repeat walk_at "dl"
          refine ⟨a, (bs.length : Int) - 2, _, M, rfl, by omega, by omega, by omega, hs4, fun r3 M5 hr30 hr31 hs5 => ?_⟩
          obtain ⟨m, hm⟩ : ∃ m : Nat, 2 + r3 = (m : Int) := ⟨(2 + r3).toNat, by omega⟩
          have hm1 : 2 ≤ m ∧ m < bs.length := by omega
          repeat walk_at "dl"
          rw [hm]
          refine rs_frz (rs_list (.of (.lst _)) ?_)
          rw [cutD_to (by rw [List.length_map]; omega), ← List.map_take]
          repeat walk_at "dl"
          refine rc_frz (rc_inl (rc_inl (rc_sortedI (ns := p2.take m) _ rfl (.of (.lst _)) fun few hfp hfs => ?_)))
          have hfl : few.length = m := by rw [hfp.length_eq, List.length_take]; omega
          have hfr : ∀ x ∈ few, 0 ≤ x ∧ x < (bs.length : Int) := fun x hx => hp2r x (List.mem_of_mem_take (hfp.mem_iff.mp hx))
          have hfn : few.Nodup := hfp.nodup_iff.mpr (hp2n.sublist (List.take_sublist _ _))
          have hs5 := hs5.mono (show _ ≤ (9000 : Int) by omega)
          clear hs hs4
          repeat walk_at "dl"
          refine ev_frz (en_listRg1 ?_)
          repeat walk_at "dl"
          refine ⟨by omega, by omega, ?_⟩
          repeat walk_at "dl"
          refine ⟨a, rngD 0 (bs.length : Int).toNat, _, M, rfl, by rw [rngD_length]; omega, by omega, by omega, hs5, fun ys M6 hys hs6 => ?_⟩
          rw [rngD_length, Int.toNat_natCast] at hs6
          rw [Int.toNat_natCast, rngD_Z] at hys
          obtain ⟨p3, hp3, rfl⟩ := perm_ints hys
          have hp3 : p3.Perm (rangeZ 0 bs.length) := hp3
          clear hys
          have hp3l : p3.length = bs.length := by rw [hp3.length_eq, rangeZ_length]
          have hp3r : ∀ x ∈ p3, 0 ≤ x ∧ x < (bs.length : Int) := fun x hx => by have := rangeZ_mem.mp (hp3.mem_iff.mp hx); omega
          have hp3n : p3.Nodup := hp3.nodup_iff.mpr (rangeZ_nd 0 bs.length)
          repeat walk_at "dl"
          refine u_len (LI few) few.length rfl (ln_of (.l (.of (.lst _))) (by rw [List.length_map])) ?_
          repeat walk_at "dl"
          refine rs_frz (rs_list (.of (.lst _)) ?_)
          rw [show (few.length : Int) - 1 = ((few.length - 1 : Nat) : Int) by omega, cutD_to (by rw [List.length_map]; omega), ← List.map_take]
          have hkl : (p3.take (few.length - 1)).length = few.length - 1 := by rw [List.length_take]; omega
          have hkr : ∀ x ∈ p3.take (few.length - 1), 0 ≤ x ∧ x < (bs.length : Int) := fun x hx => hp3r x (List.mem_of_mem_take hx)
          generalize p3.take (few.length - 1) = keep at hkl hkr ⊢
          have hbt : BoardOk (tightB bs few keep) := tightB_ok hb
          have htl := tightB_len bs few keep
          repeat walk_at "dl"
          refine ev_frz (en_map (ei_rng1 ?_))
          repeat walk_at "dl"
          refine ⟨by omega, by omega, by rw [rngD_length]; omega, (tightB bs few keep).map LI, by rw [rngD_length, List.length_map, htl]; omega, fun k d hk => eg_name' ?_, ?_⟩
          · obtain ⟨hk1, rfl⟩ := rngD_get hk
            rw [Int.toNat_natCast] at hk1
            rw [show (0 : Int) + (k : Int) = (k : Int) by omega]
            have htg := tightB_get (few := few) (keep := keep) hk1
            repeat walk_at "dl"
            refine u_inI _ rfl (.l (.of (.lst _))) ?_
            repeat walk_at "dl"
            refine dite_bl (fun hin => ?_) (fun hin => ?_)
            · rw [if_pos hin] at htg
              refine ev_frz (en_flt (ei_rng1 ?_))
              repeat walk_at "dl"
              refine ⟨by omega, by omega, by rw [rngD_length]; omega, frD keep, fun k2 d hk => eg_name' ?_, ?_⟩
              · obtain ⟨hk1, rfl⟩ := rngD_get hk
                repeat walk_at "dl"
                refine u_niI _ rfl (.l (.of (.lst _))) ?_
                repeat walk_at "dl"
                refine ndite_bl (fun hn => ?_) (fun hn => ?_)
                · repeat walk_at "dl"
                  exact ⟨if_neg hn, rfl⟩
                · exact ⟨if_pos hn, rfl⟩
              · rw [Int.toNat_natCast, filterMap_fr]
                refine ⟨?_, rfl⟩
                rw [List.getElem?_map, htg]
                rfl
            · rw [if_neg hin] at htg
              repeat walk_at "dl"
              refine u_ixL _ (.of (.lst _)) rfl (atI_of (k := k) rfl (show (bs.map LI)[k]? = some (LI (bs.getD k [])) by rw [List.getElem?_map, getD_row hk1]; rfl)) ?_
              refine ⟨?_, rfl⟩
              rw [List.getElem?_map, htg]
              rfl
          · repeat walk_at "dl"
            refine ⟨tightB bs few keep, rfl, hbt, fun d hd => ?_⟩
            cases hd with
            | @yes ps hp =>
              have := pl_no (S := keep) hp hfn (by rw [htl]; exact hfr) fun r hr p row h1 h2 h3 h4 => by
                have hrr := hfr r hr
                rw [tightB_get (by omega), if_pos (by rw [show ((r.toNat : Nat) : Int) = r by omega]; exact hr)] at h1
                have e := Option.some.inj h1
                rw [htl] at h3
                rw [← e] at h4
                refine Decidable.byContradiction fun hn => h4 (freeRow_mem.mpr ⟨⟨h2, h3⟩, hn⟩)
              omega
            | @no rs hpw hrs hS =>
              obtain ⟨S, hSl, hSF⟩ := hS
              have hrnd : rs.Nodup := hpw.imp fun h => by omega
              have hrl := nd_short hrnd hrs
              repeat walk_at "dl"
              refine ev_own (en_dk fun pf => ?_)
              repeat walk_at "dl"
              refine zs_for [11] (ei_srcL ?_)
              repeat walk_at "dl"
              refine u_ixT 1 rfl rfl rfl ?_
              refine ⟨rs.map .int, .inl rfl, fun i Γ' M' => Γ' = [none, none, none, some (.int bs.length), none, none, some (.tup [.str "no", LI rs]), none, none, some (LL (tightB bs few keep)), some (.ptr pf), none, none, none, none, none, none, none, none, none, none, none, none, none, none] ∧ ∃ fr : List (Key × D), KeysIn S fr ∧ M' = (pf, .dK fr) :: M6, ⟨_, by walk_at "gle", rfl, [], keysIn_nil S, rfl⟩, fun i d Γ' M' hx hC => ?_, ?_⟩
              · obtain ⟨rfl, fr, hfr, rfl⟩ := hC
                obtain ⟨r, hx2, rfl⟩ := mem_at hx
                have hrm := List.mem_of_getElem? hx2
                have hrr := hrs r hrm
                obtain ⟨brow, hbr⟩ : ∃ brow, (tightB bs few keep)[r.toNat]? = some brow := ⟨_, List.getElem?_eq_getElem (by omega)⟩
                have hfrl := keysIn_len hfr
                have hfll : (freeRow bs.length brow).length ≤ 64 := by
                  have := nd_short (n := bs.length) (l := freeRow bs.length brow) ((rangeZ_nd 0 bs.length).sublist List.filter_sublist) fun x hx => (freeRow_mem.mp hx).1
                  omega
                refine eg_name (by simp) ?_
                refine zs_drop (ev_bm (ev_var rfl ⟨dty_ownK (.head _), ?_⟩))
                repeat walk_at "dl"
                refine ev_frz (en_flt (ei_rng1 ?_))
                repeat walk_at "dl"
                refine ⟨by omega, by omega, by rw [rngD_length]; omega, prD brow, fun k2 d hk => eg_name' ?_, ?_⟩
                · obtain ⟨hk1, rfl⟩ := rngD_get hk
                  repeat walk_at "dl"
                  refine u_ixL _ (.of (.lst _)) rfl (atI_of (k := r.toNat) (by omega) (show ((tightB bs few keep).map LI)[r.toNat]? = some (LI brow) by rw [List.getElem?_map, hbr]; rfl)) ?_
                  refine u_niI _ rfl (.l (.of (.lst _))) ?_
                  repeat walk_at "dl"
                  refine ndite_bl (fun hn => ?_) (fun hn => ?_)
                  · repeat walk_at "dl"
                    refine ev_tup ?_
                    repeat walk_at "dl"
                    exact ⟨by simp, if_neg hn, rfl⟩
                  · exact ⟨if_pos hn, rfl⟩
                · rw [Int.toNat_natCast, pr_map]
                  repeat walk_at "dl"
                  refine rc_inl (rc_inl (rc_frz (rc_dictP (kvs := (freeRow bs.length brow).map fun x => ((Sum.inl x : Key), D.int 0)) _ rfl (.of (.lst _)) ?_)))
                  repeat walk_at "dl"
                  have hml := mergeD_len ((freeRow bs.length brow).map fun x => ((Sum.inl x : Key), D.int 0)) []
                  rw [List.length_map, List.length_nil] at hml
                  refine rm_dupd 0 rfl rfl rfl (by omega) ?_
                  exact ⟨_, by walk_at "gle", rfl, _, keysIn_add hfr fun x hx => hSF r hrm x ⟨brow, hbr, hrr.1, by rw [htl]; exact hx⟩, rfl⟩
              · rintro Γ' M' ⟨rfl, fr, hfr, rfl⟩
                have hfrl := keysIn_len hfr
                repeat walk_at "dl"
                refine u_ixT 0 rfl rfl rfl ?_
                repeat walk_at "dl"
                refine r2_eqS _ _ rfl rfl ?_
                rw [decide_eq_true rfl]
                repeat walk_at "dl"
                refine u_ixT 1 rfl rfl rfl ?_
                repeat walk_at "dl"
                refine rc_frz (rc_inl (rc_inl (rc_sortedI (ns := rs) _ rfl (.of (.lst _)) fun ms hmp hms => ?_)))
                have hme : ms = rs := sort_same hmp hms hpw
                subst hme
                repeat walk_at "dl"
                refine u_ixT 1 rfl rfl rfl ?_
                refine r2_eqLI ms ms (.lst _) (.lst _) ?_
                rw [decide_eq_true rfl]
                repeat walk_at "dl"
                refine u_lenD _ rfl (.own (.head _)) ?_
                repeat walk_at "dl"
                refine u_ixT 1 rfl rfl rfl ?_
                repeat walk_at "dl"
                refine u_len (LI ms) ms.length rfl (ln_of (.l (.of (.lst _))) (by rw [List.length_map])) ?_
                repeat walk_at "dl"
                rw [decide_eq_true (by omega)]
                exact q _
end
end K16


set_option Elab.async false
set_option linter.all false
set_option maxRecDepth 100000
set_option maxHeartbeats 4000000
namespace K16
open PySem PySem.Spec PyProof.Rows L2 StX DL
/-! ### what the top has left; the law's own end -/
theorem sp_end {K : PySem.W.Frag} {H : Hp} {a : Addr} {ns : List Int} (hl : ns.length ≤ 63) (_ : L2.Only H) (hS : SqL K H a (ns.map V.int)) : spOf K S_law [.ref a] H (fun v _ => v = .bl true) fun _ _ _ => False :=
  ⟨H, [], [.rol (ns.map .int)], fun d _ => d = .bl true, ⟨Gr.refl H, List.nodup_nil, fun _ h => absurd h List.not_mem_nil⟩, .cons (.rol hS (isl_ints ns)) .nil, ⟨ns, rfl, hl, fun _ => rfl⟩, fun v F' H' d M' x r i e => by
    subst e
    cases i
    rfl⟩
theorem all_mk {l : PySem.W.OpenLaw} {w : World} {K : PySem.W.Frag} {h : Heap} {mg : Str → Option Value} {fa : Addr} (X : K.In h) (G : h.Ns mainGlobals mg) (hfa : mg "law" = some (.ref fa))
    {f_is_integer f_is_between f_is_list f_are_sums f_choices_row f_orderings f_told_out f_told_in f_hits_of f_rooks_up f_is_row f_is_board f_check_board f_rook_counts f_hit_counts f_free_places f_other_board f__law_start f__law_below f__law_mixed f__law_lot f__law_same f__law_wways f__law_wproduct f__law_wtaken f__law_wrooks f_avoid_up f_law : Addr}
    {od_is_integer an_is_integer od_is_between an_is_between od_is_list an_is_list od_are_sums an_are_sums od_choices_row an_choices_row od_orderings an_orderings od_told_out an_told_out od_told_in an_told_in od_hits_of an_hits_of od_rooks_up an_rooks_up od_is_row an_is_row od_is_board an_is_board od_check_board an_check_board od_rook_counts an_rook_counts od_hit_counts an_hit_counts od_free_places an_free_places od_other_board an_other_board od__law_start an__law_start od__law_below an__law_below od__law_mixed an__law_mixed od__law_lot an__law_lot od__law_same an__law_same od__law_wways an__law_wways od__law_wproduct an__law_wproduct od__law_wtaken an__law_wtaken od__law_wrooks an__law_wrooks od_avoid_up an_avoid_up od_law an_law : Option Addr}
    {sl_is_integer sl_is_between sl_is_list sl_are_sums sl_choices_row sl_orderings sl_told_out sl_told_in sl_hits_of sl_rooks_up sl_is_row sl_is_board sl_check_board sl_rook_counts sl_hit_counts sl_free_places sl_other_board sl__law_start sl__law_below sl__law_mixed sl__law_lot sl__law_same sl__law_wways sl__law_wproduct sl__law_wtaken sl__law_wrooks sl_avoid_up sl_law : Array (Option Value)}
    {oc_is_integer kV_is_integer dc_is_integer pm_is_integer cd_is_integer ct_is_integer oc_is_between kV_is_between dc_is_between pm_is_between cd_is_between ct_is_between oc_is_list kV_is_list dc_is_list pm_is_list cd_is_list ct_is_list oc_are_sums kV_are_sums dc_are_sums pm_are_sums cd_are_sums ct_are_sums oc_choices_row kV_choices_row dc_choices_row pm_choices_row cd_choices_row ct_choices_row oc_orderings kV_orderings dc_orderings pm_orderings cd_orderings ct_orderings oc_told_out kV_told_out dc_told_out pm_told_out cd_told_out ct_told_out oc_told_in kV_told_in dc_told_in pm_told_in cd_told_in ct_told_in oc_hits_of kV_hits_of dc_hits_of pm_hits_of cd_hits_of ct_hits_of oc_rooks_up kV_rooks_up dc_rooks_up pm_rooks_up cd_rooks_up ct_rooks_up oc_is_row kV_is_row dc_is_row pm_is_row cd_is_row ct_is_row oc_is_board kV_is_board dc_is_board pm_is_board cd_is_board ct_is_board oc_check_board kV_check_board dc_check_board pm_check_board cd_check_board ct_check_board oc_rook_counts kV_rook_counts dc_rook_counts pm_rook_counts cd_rook_counts ct_rook_counts oc_hit_counts kV_hit_counts dc_hit_counts pm_hit_counts cd_hit_counts ct_hit_counts oc_free_places kV_free_places dc_free_places pm_free_places cd_free_places ct_free_places oc_other_board kV_other_board dc_other_board pm_other_board cd_other_board ct_other_board oc__law_start kV__law_start dc__law_start pm__law_start cd__law_start ct__law_start oc__law_below kV__law_below dc__law_below pm__law_below cd__law_below ct__law_below oc__law_mixed kV__law_mixed dc__law_mixed pm__law_mixed cd__law_mixed ct__law_mixed oc__law_lot kV__law_lot dc__law_lot pm__law_lot cd__law_lot ct__law_lot oc__law_same kV__law_same dc__law_same pm__law_same cd__law_same ct__law_same oc__law_wways kV__law_wways dc__law_wways pm__law_wways cd__law_wways ct__law_wways oc__law_wproduct kV__law_wproduct dc__law_wproduct pm__law_wproduct cd__law_wproduct ct__law_wproduct oc__law_wtaken kV__law_wtaken dc__law_wtaken pm__law_wtaken cd__law_wtaken ct__law_wtaken oc__law_wrooks kV__law_wrooks dc__law_wrooks pm__law_wrooks cd__law_wrooks ct__law_wrooks oc_avoid_up kV_avoid_up dc_avoid_up pm_avoid_up cd_avoid_up ct_avoid_up oc_law kV_law dc_law pm_law cd_law ct_law : Value}
    {t_FORTY_ONE t_MOST t_SIXTY_FOUR t_TEN : Tok}
    (a_is_integer : PySem.W.nsIn K mainGlobals "is_integer" = some (some (.ref f_is_integer))) (l_is_integer : K.lookup f_is_integer = some ⟨oc_is_integer, od_is_integer, .func (PySem.W.fnOf "is_integer" "is_integer" (defArgs s_is_integer) (defBody s_is_integer) (defScope s_is_integer) .none kV_is_integer dc_is_integer pm_is_integer an_is_integer cd_is_integer ct_is_integer), sl_is_integer⟩) (c_is_integer : PySem.W.codeIn K cd_is_integer "is_integer" = true) (k_is_integer : PySem.W.keepIn K (.ref f_is_integer) = true)
    (a_is_between : PySem.W.nsIn K mainGlobals "is_between" = some (some (.ref f_is_between))) (l_is_between : K.lookup f_is_between = some ⟨oc_is_between, od_is_between, .func (PySem.W.fnOf "is_between" "is_between" (defArgs s_is_between) (defBody s_is_between) (defScope s_is_between) .none kV_is_between dc_is_between pm_is_between an_is_between cd_is_between ct_is_between), sl_is_between⟩) (c_is_between : PySem.W.codeIn K cd_is_between "is_between" = true) (k_is_between : PySem.W.keepIn K (.ref f_is_between) = true)
    (a_is_list : PySem.W.nsIn K mainGlobals "is_list" = some (some (.ref f_is_list))) (l_is_list : K.lookup f_is_list = some ⟨oc_is_list, od_is_list, .func (PySem.W.fnOf "is_list" "is_list" (defArgs s_is_list) (defBody s_is_list) (defScope s_is_list) .none kV_is_list dc_is_list pm_is_list an_is_list cd_is_list ct_is_list), sl_is_list⟩) (c_is_list : PySem.W.codeIn K cd_is_list "is_list" = true) (k_is_list : PySem.W.keepIn K (.ref f_is_list) = true)
    (a_are_sums : PySem.W.nsIn K mainGlobals "are_sums" = some (some (.ref f_are_sums))) (l_are_sums : K.lookup f_are_sums = some ⟨oc_are_sums, od_are_sums, .func (PySem.W.fnOf "are_sums" "are_sums" (defArgs s_are_sums) (defBody s_are_sums) (defScope s_are_sums) .none kV_are_sums dc_are_sums pm_are_sums an_are_sums cd_are_sums ct_are_sums), sl_are_sums⟩) (c_are_sums : PySem.W.codeIn K cd_are_sums "are_sums" = true) (k_are_sums : PySem.W.keepIn K (.ref f_are_sums) = true)
    (a_choices_row : PySem.W.nsIn K mainGlobals "choices_row" = some (some (.ref f_choices_row))) (l_choices_row : K.lookup f_choices_row = some ⟨oc_choices_row, od_choices_row, .func (PySem.W.fnOf "choices_row" "choices_row" (defArgs s_choices_row) (defBody s_choices_row) (defScope s_choices_row) .none kV_choices_row dc_choices_row pm_choices_row an_choices_row cd_choices_row ct_choices_row), sl_choices_row⟩) (c_choices_row : PySem.W.codeIn K cd_choices_row "choices_row" = true) (k_choices_row : PySem.W.keepIn K (.ref f_choices_row) = true)
    (a_orderings : PySem.W.nsIn K mainGlobals "orderings" = some (some (.ref f_orderings))) (l_orderings : K.lookup f_orderings = some ⟨oc_orderings, od_orderings, .func (PySem.W.fnOf "orderings" "orderings" (defArgs s_orderings) (defBody s_orderings) (defScope s_orderings) .none kV_orderings dc_orderings pm_orderings an_orderings cd_orderings ct_orderings), sl_orderings⟩) (c_orderings : PySem.W.codeIn K cd_orderings "orderings" = true) (k_orderings : PySem.W.keepIn K (.ref f_orderings) = true)
    (a_told_out : PySem.W.nsIn K mainGlobals "told_out" = some (some (.ref f_told_out))) (l_told_out : K.lookup f_told_out = some ⟨oc_told_out, od_told_out, .func (PySem.W.fnOf "told_out" "told_out" (defArgs s_told_out) (defBody s_told_out) (defScope s_told_out) .none kV_told_out dc_told_out pm_told_out an_told_out cd_told_out ct_told_out), sl_told_out⟩) (c_told_out : PySem.W.codeIn K cd_told_out "told_out" = true) (k_told_out : PySem.W.keepIn K (.ref f_told_out) = true)
    (a_told_in : PySem.W.nsIn K mainGlobals "told_in" = some (some (.ref f_told_in))) (l_told_in : K.lookup f_told_in = some ⟨oc_told_in, od_told_in, .func (PySem.W.fnOf "told_in" "told_in" (defArgs s_told_in) (defBody s_told_in) (defScope s_told_in) .none kV_told_in dc_told_in pm_told_in an_told_in cd_told_in ct_told_in), sl_told_in⟩) (c_told_in : PySem.W.codeIn K cd_told_in "told_in" = true) (k_told_in : PySem.W.keepIn K (.ref f_told_in) = true)
    (a_hits_of : PySem.W.nsIn K mainGlobals "hits_of" = some (some (.ref f_hits_of))) (l_hits_of : K.lookup f_hits_of = some ⟨oc_hits_of, od_hits_of, .func (PySem.W.fnOf "hits_of" "hits_of" (defArgs s_hits_of) (defBody s_hits_of) (defScope s_hits_of) .none kV_hits_of dc_hits_of pm_hits_of an_hits_of cd_hits_of ct_hits_of), sl_hits_of⟩) (c_hits_of : PySem.W.codeIn K cd_hits_of "hits_of" = true) (k_hits_of : PySem.W.keepIn K (.ref f_hits_of) = true)
    (a_rooks_up : PySem.W.nsIn K mainGlobals "rooks_up" = some (some (.ref f_rooks_up))) (l_rooks_up : K.lookup f_rooks_up = some ⟨oc_rooks_up, od_rooks_up, .func (PySem.W.fnOf "rooks_up" "rooks_up" (defArgs s_rooks_up) (defBody s_rooks_up) (defScope s_rooks_up) .none kV_rooks_up dc_rooks_up pm_rooks_up an_rooks_up cd_rooks_up ct_rooks_up), sl_rooks_up⟩) (c_rooks_up : PySem.W.codeIn K cd_rooks_up "rooks_up" = true) (k_rooks_up : PySem.W.keepIn K (.ref f_rooks_up) = true)
    (a_is_row : PySem.W.nsIn K mainGlobals "is_row" = some (some (.ref f_is_row))) (l_is_row : K.lookup f_is_row = some ⟨oc_is_row, od_is_row, .func (PySem.W.fnOf "is_row" "is_row" (defArgs s_is_row) (defBody s_is_row) (defScope s_is_row) .none kV_is_row dc_is_row pm_is_row an_is_row cd_is_row ct_is_row), sl_is_row⟩) (c_is_row : PySem.W.codeIn K cd_is_row "is_row" = true) (k_is_row : PySem.W.keepIn K (.ref f_is_row) = true)
    (a_is_board : PySem.W.nsIn K mainGlobals "is_board" = some (some (.ref f_is_board))) (l_is_board : K.lookup f_is_board = some ⟨oc_is_board, od_is_board, .func (PySem.W.fnOf "is_board" "is_board" (defArgs s_is_board) (defBody s_is_board) (defScope s_is_board) .none kV_is_board dc_is_board pm_is_board an_is_board cd_is_board ct_is_board), sl_is_board⟩) (c_is_board : PySem.W.codeIn K cd_is_board "is_board" = true) (k_is_board : PySem.W.keepIn K (.ref f_is_board) = true)
    (a_check_board : PySem.W.nsIn K mainGlobals "check_board" = some (some (.ref f_check_board))) (l_check_board : K.lookup f_check_board = some ⟨oc_check_board, od_check_board, .func (PySem.W.fnOf "check_board" "check_board" (defArgs s_check_board) (defBody s_check_board) (defScope s_check_board) .none kV_check_board dc_check_board pm_check_board an_check_board cd_check_board ct_check_board), sl_check_board⟩) (c_check_board : PySem.W.codeIn K cd_check_board "check_board" = true) (k_check_board : PySem.W.keepIn K (.ref f_check_board) = true)
    (a_rook_counts : PySem.W.nsIn K mainGlobals "rook_counts" = some (some (.ref f_rook_counts))) (l_rook_counts : K.lookup f_rook_counts = some ⟨oc_rook_counts, od_rook_counts, .func (PySem.W.fnOf "rook_counts" "rook_counts" (defArgs s_rook_counts) (defBody s_rook_counts) (defScope s_rook_counts) .none kV_rook_counts dc_rook_counts pm_rook_counts an_rook_counts cd_rook_counts ct_rook_counts), sl_rook_counts⟩) (c_rook_counts : PySem.W.codeIn K cd_rook_counts "rook_counts" = true) (k_rook_counts : PySem.W.keepIn K (.ref f_rook_counts) = true)
    (a_hit_counts : PySem.W.nsIn K mainGlobals "hit_counts" = some (some (.ref f_hit_counts))) (l_hit_counts : K.lookup f_hit_counts = some ⟨oc_hit_counts, od_hit_counts, .func (PySem.W.fnOf "hit_counts" "hit_counts" (defArgs s_hit_counts) (defBody s_hit_counts) (defScope s_hit_counts) .none kV_hit_counts dc_hit_counts pm_hit_counts an_hit_counts cd_hit_counts ct_hit_counts), sl_hit_counts⟩) (c_hit_counts : PySem.W.codeIn K cd_hit_counts "hit_counts" = true) (k_hit_counts : PySem.W.keepIn K (.ref f_hit_counts) = true)
    (a_free_places : PySem.W.nsIn K mainGlobals "free_places" = some (some (.ref f_free_places))) (l_free_places : K.lookup f_free_places = some ⟨oc_free_places, od_free_places, .func (PySem.W.fnOf "free_places" "free_places" (defArgs s_free_places) (defBody s_free_places) (defScope s_free_places) .none kV_free_places dc_free_places pm_free_places an_free_places cd_free_places ct_free_places), sl_free_places⟩) (c_free_places : PySem.W.codeIn K cd_free_places "free_places" = true) (k_free_places : PySem.W.keepIn K (.ref f_free_places) = true)
    (a_other_board : PySem.W.nsIn K mainGlobals "other_board" = some (some (.ref f_other_board))) (l_other_board : K.lookup f_other_board = some ⟨oc_other_board, od_other_board, .func (PySem.W.fnOf "other_board" "other_board" (defArgs s_other_board) (defBody s_other_board) (defScope s_other_board) .none kV_other_board dc_other_board pm_other_board an_other_board cd_other_board ct_other_board), sl_other_board⟩) (c_other_board : PySem.W.codeIn K cd_other_board "other_board" = true) (k_other_board : PySem.W.keepIn K (.ref f_other_board) = true)
    (a__law_start : PySem.W.nsIn K mainGlobals "_law_start" = some (some (.ref f__law_start))) (l__law_start : K.lookup f__law_start = some ⟨oc__law_start, od__law_start, .func (PySem.W.fnOf "_law_start" "_law_start" (defArgs s__law_start) (defBody s__law_start) (defScope s__law_start) .none kV__law_start dc__law_start pm__law_start an__law_start cd__law_start ct__law_start), sl__law_start⟩) (c__law_start : PySem.W.codeIn K cd__law_start "_law_start" = true) (k__law_start : PySem.W.keepIn K (.ref f__law_start) = true)
    (a__law_below : PySem.W.nsIn K mainGlobals "_law_below" = some (some (.ref f__law_below))) (l__law_below : K.lookup f__law_below = some ⟨oc__law_below, od__law_below, .func (PySem.W.fnOf "_law_below" "_law_below" (defArgs s__law_below) (defBody s__law_below) (defScope s__law_below) .none kV__law_below dc__law_below pm__law_below an__law_below cd__law_below ct__law_below), sl__law_below⟩) (c__law_below : PySem.W.codeIn K cd__law_below "_law_below" = true) (k__law_below : PySem.W.keepIn K (.ref f__law_below) = true)
    (a__law_mixed : PySem.W.nsIn K mainGlobals "_law_mixed" = some (some (.ref f__law_mixed))) (l__law_mixed : K.lookup f__law_mixed = some ⟨oc__law_mixed, od__law_mixed, .func (PySem.W.fnOf "_law_mixed" "_law_mixed" (defArgs s__law_mixed) (defBody s__law_mixed) (defScope s__law_mixed) .none kV__law_mixed dc__law_mixed pm__law_mixed an__law_mixed cd__law_mixed ct__law_mixed), sl__law_mixed⟩) (c__law_mixed : PySem.W.codeIn K cd__law_mixed "_law_mixed" = true) (k__law_mixed : PySem.W.keepIn K (.ref f__law_mixed) = true)
    (a__law_lot : PySem.W.nsIn K mainGlobals "_law_lot" = some (some (.ref f__law_lot))) (l__law_lot : K.lookup f__law_lot = some ⟨oc__law_lot, od__law_lot, .func (PySem.W.fnOf "_law_lot" "_law_lot" (defArgs s__law_lot) (defBody s__law_lot) (defScope s__law_lot) .none kV__law_lot dc__law_lot pm__law_lot an__law_lot cd__law_lot ct__law_lot), sl__law_lot⟩) (c__law_lot : PySem.W.codeIn K cd__law_lot "_law_lot" = true) (k__law_lot : PySem.W.keepIn K (.ref f__law_lot) = true)
    (a__law_same : PySem.W.nsIn K mainGlobals "_law_same" = some (some (.ref f__law_same))) (l__law_same : K.lookup f__law_same = some ⟨oc__law_same, od__law_same, .func (PySem.W.fnOf "_law_same" "_law_same" (defArgs s__law_same) (defBody s__law_same) (defScope s__law_same) .none kV__law_same dc__law_same pm__law_same an__law_same cd__law_same ct__law_same), sl__law_same⟩) (c__law_same : PySem.W.codeIn K cd__law_same "_law_same" = true) (k__law_same : PySem.W.keepIn K (.ref f__law_same) = true)
    (a__law_wways : PySem.W.nsIn K mainGlobals "_law_wways" = some (some (.ref f__law_wways))) (l__law_wways : K.lookup f__law_wways = some ⟨oc__law_wways, od__law_wways, .func (PySem.W.fnOf "_law_wways" "_law_wways" (defArgs s__law_wways) (defBody s__law_wways) (defScope s__law_wways) .none kV__law_wways dc__law_wways pm__law_wways an__law_wways cd__law_wways ct__law_wways), sl__law_wways⟩) (c__law_wways : PySem.W.codeIn K cd__law_wways "_law_wways" = true) (k__law_wways : PySem.W.keepIn K (.ref f__law_wways) = true)
    (a__law_wproduct : PySem.W.nsIn K mainGlobals "_law_wproduct" = some (some (.ref f__law_wproduct))) (l__law_wproduct : K.lookup f__law_wproduct = some ⟨oc__law_wproduct, od__law_wproduct, .func (PySem.W.fnOf "_law_wproduct" "_law_wproduct" (defArgs s__law_wproduct) (defBody s__law_wproduct) (defScope s__law_wproduct) .none kV__law_wproduct dc__law_wproduct pm__law_wproduct an__law_wproduct cd__law_wproduct ct__law_wproduct), sl__law_wproduct⟩) (c__law_wproduct : PySem.W.codeIn K cd__law_wproduct "_law_wproduct" = true) (k__law_wproduct : PySem.W.keepIn K (.ref f__law_wproduct) = true)
    (a__law_wtaken : PySem.W.nsIn K mainGlobals "_law_wtaken" = some (some (.ref f__law_wtaken))) (l__law_wtaken : K.lookup f__law_wtaken = some ⟨oc__law_wtaken, od__law_wtaken, .func (PySem.W.fnOf "_law_wtaken" "_law_wtaken" (defArgs s__law_wtaken) (defBody s__law_wtaken) (defScope s__law_wtaken) .none kV__law_wtaken dc__law_wtaken pm__law_wtaken an__law_wtaken cd__law_wtaken ct__law_wtaken), sl__law_wtaken⟩) (c__law_wtaken : PySem.W.codeIn K cd__law_wtaken "_law_wtaken" = true) (k__law_wtaken : PySem.W.keepIn K (.ref f__law_wtaken) = true)
    (a__law_wrooks : PySem.W.nsIn K mainGlobals "_law_wrooks" = some (some (.ref f__law_wrooks))) (l__law_wrooks : K.lookup f__law_wrooks = some ⟨oc__law_wrooks, od__law_wrooks, .func (PySem.W.fnOf "_law_wrooks" "_law_wrooks" (defArgs s__law_wrooks) (defBody s__law_wrooks) (defScope s__law_wrooks) .none kV__law_wrooks dc__law_wrooks pm__law_wrooks an__law_wrooks cd__law_wrooks ct__law_wrooks), sl__law_wrooks⟩) (c__law_wrooks : PySem.W.codeIn K cd__law_wrooks "_law_wrooks" = true) (k__law_wrooks : PySem.W.keepIn K (.ref f__law_wrooks) = true)
    (a_avoid_up : PySem.W.nsIn K mainGlobals "avoid_up" = some (some (.ref f_avoid_up))) (l_avoid_up : K.lookup f_avoid_up = some ⟨oc_avoid_up, od_avoid_up, .func (PySem.W.fnOf "avoid_up" "avoid_up" (defArgs s_avoid_up) (defBody s_avoid_up) (defScope s_avoid_up) .none kV_avoid_up dc_avoid_up pm_avoid_up an_avoid_up cd_avoid_up ct_avoid_up), sl_avoid_up⟩) (c_avoid_up : PySem.W.codeIn K cd_avoid_up "avoid_up" = true) (k_avoid_up : PySem.W.keepIn K (.ref f_avoid_up) = true)
    (a_law : PySem.W.nsIn K mainGlobals "law" = some (some (.ref f_law))) (l_law : K.lookup f_law = some ⟨oc_law, od_law, .func (PySem.W.fnOf "law" "law" (defArgs s_law) (defBody s_law) (defScope s_law) .none kV_law dc_law pm_law an_law cd_law ct_law), sl_law⟩) (c_law : PySem.W.codeIn K cd_law "law" = true) (k_law : PySem.W.keepIn K (.ref f_law) = true)
    (z_FORTY_ONE : PySem.W.nsIn K mainGlobals "FORTY_ONE" = some (some (.int 41 t_FORTY_ONE)))
    (z_MOST : PySem.W.nsIn K mainGlobals "MOST" = some (some (.int 1000000000 t_MOST)))
    (z_SIXTY_FOUR : PySem.W.nsIn K mainGlobals "SIXTY_FOUR" = some (some (.int 64 t_SIXTY_FOUR)))
    (z_TEN : PySem.W.nsIn K mainGlobals "TEN" = some (some (.int 10 t_TEN)))
    (z_all : PySem.W.nsIn K mainGlobals "all" = some none)
    (z_bool : PySem.W.nsIn K mainGlobals "bool" = some none)
    (z_dict : PySem.W.nsIn K mainGlobals "dict" = some none)
    (z_enumerate : PySem.W.nsIn K mainGlobals "enumerate" = some none)
    (z_int : PySem.W.nsIn K mainGlobals "int" = some none)
    (z_isinstance : PySem.W.nsIn K mainGlobals "isinstance" = some none)
    (z_len : PySem.W.nsIn K mainGlobals "len" = some none)
    (z_list : PySem.W.nsIn K mainGlobals "list" = some none)
    (z_range : PySem.W.nsIn K mainGlobals "range" = some none)
    (z_sorted : PySem.W.nsIn K mainGlobals "sorted" = some none)
    (z_str : PySem.W.nsIn K mainGlobals "str" = some none)
    (z_sum : PySem.W.nsIn K mainGlobals "sum" = some none)
    (z_tuple : PySem.W.nsIn K mainGlobals "tuple" = some none)
    (z_zip : PySem.W.nsIn K mainGlobals "zip" = some none) :
    ∃ fd : FuncData, (∀ (s : Shared) (v : Value), BindsTo s fd ⟨[v], []⟩ [("script", v)]) ∧ ∀ base : Heap, K.In base → base.Ns mainGlobals mg → FnOk l.prog w K mg base CX0 8 fa fd ["script"] (spOf K S_law) := by
  have e := hfa.symm.trans (PySem.W.mg_of X G a_law)
  cases e
  have F_is_integer := fun_mk (st := s_is_integer) l_is_integer c_is_integer k_is_integer
  have B_is_integer := F_is_integer.binds (ps := ["thing"]) fun _ _ _ _ _ _ us hl => match us, hl with | [_], _ => rfl
  have F_is_between := fun_mk (st := s_is_between) l_is_between c_is_between k_is_between
  have B_is_between := F_is_between.binds (ps := ["thing", "low", "high"]) fun _ _ _ _ _ _ us hl => match us, hl with | [_, _, _], _ => rfl
  have F_is_list := fun_mk (st := s_is_list) l_is_list c_is_list k_is_list
  have B_is_list := F_is_list.binds (ps := ["thing"]) fun _ _ _ _ _ _ us hl => match us, hl with | [_], _ => rfl
  have F_are_sums := fun_mk (st := s_are_sums) l_are_sums c_are_sums k_are_sums
  have B_are_sums := F_are_sums.binds (ps := ["thing"]) fun _ _ _ _ _ _ us hl => match us, hl with | [_], _ => rfl
  have F_choices_row := fun_mk (st := s_choices_row) l_choices_row c_choices_row k_choices_row
  have B_choices_row := F_choices_row.binds (ps := ["many"]) fun _ _ _ _ _ _ us hl => match us, hl with | [_], _ => rfl
  have F_orderings := fun_mk (st := s_orderings) l_orderings c_orderings k_orderings
  have B_orderings := F_orderings.binds (ps := ["many"]) fun _ _ _ _ _ _ us hl => match us, hl with | [_], _ => rfl
  have F_told_out := fun_mk (st := s_told_out) l_told_out c_told_out k_told_out
  have B_told_out := F_told_out.binds (ps := ["numbers"]) fun _ _ _ _ _ _ us hl => match us, hl with | [_], _ => rfl
  have F_told_in := fun_mk (st := s_told_in) l_told_in c_told_in k_told_in
  have B_told_in := F_told_in.binds (ps := ["numbers"]) fun _ _ _ _ _ _ us hl => match us, hl with | [_], _ => rfl
  have F_hits_of := fun_mk (st := s_hits_of) l_hits_of c_hits_of k_hits_of
  have B_hits_of := F_hits_of.binds (ps := ["rooks"]) fun _ _ _ _ _ _ us hl => match us, hl with | [_], _ => rfl
  have F_rooks_up := fun_mk (st := s_rooks_up) l_rooks_up c_rooks_up k_rooks_up
  have B_rooks_up := F_rooks_up.binds (ps := ["hits"]) fun _ _ _ _ _ _ us hl => match us, hl with | [_], _ => rfl
  have F_is_row := fun_mk (st := s_is_row) l_is_row c_is_row k_is_row
  have B_is_row := F_is_row.binds (ps := ["many", "thing"]) fun _ _ _ _ _ _ us hl => match us, hl with | [_, _], _ => rfl
  have F_is_board := fun_mk (st := s_is_board) l_is_board c_is_board k_is_board
  have B_is_board := F_is_board.binds (ps := ["thing"]) fun _ _ _ _ _ _ us hl => match us, hl with | [_], _ => rfl
  have F_check_board := fun_mk (st := s_check_board) l_check_board c_check_board k_check_board
  have B_check_board := F_check_board.binds (ps := ["board"]) fun _ _ _ _ _ _ us hl => match us, hl with | [_], _ => rfl
  have F_rook_counts := fun_mk (st := s_rook_counts) l_rook_counts c_rook_counts k_rook_counts
  have B_rook_counts := F_rook_counts.binds (ps := ["board"]) fun _ _ _ _ _ _ us hl => match us, hl with | [_], _ => rfl
  have F_hit_counts := fun_mk (st := s_hit_counts) l_hit_counts c_hit_counts k_hit_counts
  have B_hit_counts := F_hit_counts.binds (ps := ["board"]) fun _ _ _ _ _ _ us hl => match us, hl with | [_], _ => rfl
  have F_free_places := fun_mk (st := s_free_places) l_free_places c_free_places k_free_places
  have B_free_places := F_free_places.binds (ps := ["board"]) fun _ _ _ _ _ _ us hl => match us, hl with | [_], _ => rfl
  have F_other_board := fun_mk (st := s_other_board) l_other_board c_other_board k_other_board
  have B_other_board := F_other_board.binds (ps := ["board"]) fun _ _ _ _ _ _ us hl => match us, hl with | [_], _ => rfl
  have F__law_start := fun_mk (st := s__law_start) l__law_start c__law_start k__law_start
  have B__law_start := F__law_start.binds (ps := ["script"]) fun _ _ _ _ _ _ us hl => match us, hl with | [_], _ => rfl
  have F__law_below := fun_mk (st := s__law_below) l__law_below c__law_below k__law_below
  have B__law_below := F__law_below.binds (ps := ["stream", "many"]) fun _ _ _ _ _ _ us hl => match us, hl with | [_, _], _ => rfl
  have F__law_mixed := fun_mk (st := s__law_mixed) l__law_mixed c__law_mixed k__law_mixed
  have B__law_mixed := F__law_mixed.binds (ps := ["stream", "some"]) fun _ _ _ _ _ _ us hl => match us, hl with | [_, _], _ => rfl
  have F__law_lot := fun_mk (st := s__law_lot) l__law_lot c__law_lot k__law_lot
  have B__law_lot := F__law_lot.binds (ps := ["stream", "some", "odds"]) fun _ _ _ _ _ _ us hl => match us, hl with | [_, _, _], _ => rfl
  have F__law_same := fun_mk (st := s__law_same) l__law_same c__law_same k__law_same
  have B__law_same := F__law_same.binds (ps := ["found", "due"]) fun _ _ _ _ _ _ us hl => match us, hl with | [_, _], _ => rfl
  have F__law_wways := fun_mk (st := s__law_wways) l__law_wways c__law_wways k__law_wways
  have B__law_wways := F__law_wways.binds (ps := ["many", "some"]) fun _ _ _ _ _ _ us hl => match us, hl with | [_, _], _ => rfl
  have F__law_wproduct := fun_mk (st := s__law_wproduct) l__law_wproduct c__law_wproduct k__law_wproduct
  have B__law_wproduct := F__law_wproduct.binds (ps := ["numbers"]) fun _ _ _ _ _ _ us hl => match us, hl with | [_], _ => rfl
  have F__law_wtaken := fun_mk (st := s__law_wtaken) l__law_wtaken c__law_wtaken k__law_wtaken
  have B__law_wtaken := F__law_wtaken.binds (ps := ["board"]) fun _ _ _ _ _ _ us hl => match us, hl with | [_], _ => rfl
  have F__law_wrooks := fun_mk (st := s__law_wrooks) l__law_wrooks c__law_wrooks k__law_wrooks
  have B__law_wrooks := F__law_wrooks.binds (ps := ["board"]) fun _ _ _ _ _ _ us hl => match us, hl with | [_], _ => rfl
  have F_avoid_up := fun_mk (st := s_avoid_up) l_avoid_up c_avoid_up k_avoid_up
  have B_avoid_up := F_avoid_up.binds (ps := ["board"]) fun _ _ _ _ _ _ us hl => match us, hl with | [_], _ => rfl
  have F_law := fun_mk (st := s_law) l_law c_law k_law
  have B_law := F_law.binds (ps := ["script"]) fun _ _ _ _ _ _ us hl => match us, hl with | [_], _ => rfl
  exact ⟨PySem.W.fnOf "law" "law" (defArgs s_law) (defBody s_law) (defScope s_law) .none kV_law dc_law pm_law an_law cd_law ct_law, fun s v => .of_eq rfl, fun base _ _ => ok_law (mg := mg) (K := K) {b_all := PySem.W.mg_none_of X G z_all, b_bool := PySem.W.mg_none_of X G z_bool, b_dict := PySem.W.mg_none_of X G z_dict, b_enumerate := PySem.W.mg_none_of X G z_enumerate, b_int := PySem.W.mg_none_of X G z_int, b_isinstance := PySem.W.mg_none_of X G z_isinstance, b_len := PySem.W.mg_none_of X G z_len, b_list := PySem.W.mg_none_of X G z_list, b_range := PySem.W.mg_none_of X G z_range, b_sorted := PySem.W.mg_none_of X G z_sorted, b_str := PySem.W.mg_none_of X G z_str, b_sum := PySem.W.mg_none_of X G z_sum, b_tuple := PySem.W.mg_none_of X G z_tuple, b_zip := PySem.W.mg_none_of X G z_zip, t_FORTY_ONE := t_FORTY_ONE, c_FORTY_ONE := PySem.W.mg_of X G z_FORTY_ONE, t_MOST := t_MOST, c_MOST := PySem.W.mg_of X G z_MOST, t_SIXTY_FOUR := t_SIXTY_FOUR, c_SIXTY_FOUR := PySem.W.mg_of X G z_SIXTY_FOUR, t_TEN := t_TEN, c_TEN := PySem.W.mg_of X G z_TEN, f_is_integer := f_is_integer, d_is_integer := PySem.W.fnOf "is_integer" "is_integer" (defArgs s_is_integer) (defBody s_is_integer) (defScope s_is_integer) .none kV_is_integer dc_is_integer pm_is_integer an_is_integer cd_is_integer ct_is_integer, F_is_integer := F_is_integer, g_is_integer := PySem.W.mg_of X G a_is_integer, B_is_integer := B_is_integer, f_is_between := f_is_between, d_is_between := PySem.W.fnOf "is_between" "is_between" (defArgs s_is_between) (defBody s_is_between) (defScope s_is_between) .none kV_is_between dc_is_between pm_is_between an_is_between cd_is_between ct_is_between, F_is_between := F_is_between, g_is_between := PySem.W.mg_of X G a_is_between, B_is_between := B_is_between, f_is_list := f_is_list, d_is_list := PySem.W.fnOf "is_list" "is_list" (defArgs s_is_list) (defBody s_is_list) (defScope s_is_list) .none kV_is_list dc_is_list pm_is_list an_is_list cd_is_list ct_is_list, F_is_list := F_is_list, g_is_list := PySem.W.mg_of X G a_is_list, B_is_list := B_is_list, f_are_sums := f_are_sums, d_are_sums := PySem.W.fnOf "are_sums" "are_sums" (defArgs s_are_sums) (defBody s_are_sums) (defScope s_are_sums) .none kV_are_sums dc_are_sums pm_are_sums an_are_sums cd_are_sums ct_are_sums, F_are_sums := F_are_sums, g_are_sums := PySem.W.mg_of X G a_are_sums, B_are_sums := B_are_sums, f_choices_row := f_choices_row, d_choices_row := PySem.W.fnOf "choices_row" "choices_row" (defArgs s_choices_row) (defBody s_choices_row) (defScope s_choices_row) .none kV_choices_row dc_choices_row pm_choices_row an_choices_row cd_choices_row ct_choices_row, F_choices_row := F_choices_row, g_choices_row := PySem.W.mg_of X G a_choices_row, B_choices_row := B_choices_row, f_orderings := f_orderings, d_orderings := PySem.W.fnOf "orderings" "orderings" (defArgs s_orderings) (defBody s_orderings) (defScope s_orderings) .none kV_orderings dc_orderings pm_orderings an_orderings cd_orderings ct_orderings, F_orderings := F_orderings, g_orderings := PySem.W.mg_of X G a_orderings, B_orderings := B_orderings, f_told_out := f_told_out, d_told_out := PySem.W.fnOf "told_out" "told_out" (defArgs s_told_out) (defBody s_told_out) (defScope s_told_out) .none kV_told_out dc_told_out pm_told_out an_told_out cd_told_out ct_told_out, F_told_out := F_told_out, g_told_out := PySem.W.mg_of X G a_told_out, B_told_out := B_told_out, f_told_in := f_told_in, d_told_in := PySem.W.fnOf "told_in" "told_in" (defArgs s_told_in) (defBody s_told_in) (defScope s_told_in) .none kV_told_in dc_told_in pm_told_in an_told_in cd_told_in ct_told_in, F_told_in := F_told_in, g_told_in := PySem.W.mg_of X G a_told_in, B_told_in := B_told_in, f_hits_of := f_hits_of, d_hits_of := PySem.W.fnOf "hits_of" "hits_of" (defArgs s_hits_of) (defBody s_hits_of) (defScope s_hits_of) .none kV_hits_of dc_hits_of pm_hits_of an_hits_of cd_hits_of ct_hits_of, F_hits_of := F_hits_of, g_hits_of := PySem.W.mg_of X G a_hits_of, B_hits_of := B_hits_of, f_rooks_up := f_rooks_up, d_rooks_up := PySem.W.fnOf "rooks_up" "rooks_up" (defArgs s_rooks_up) (defBody s_rooks_up) (defScope s_rooks_up) .none kV_rooks_up dc_rooks_up pm_rooks_up an_rooks_up cd_rooks_up ct_rooks_up, F_rooks_up := F_rooks_up, g_rooks_up := PySem.W.mg_of X G a_rooks_up, B_rooks_up := B_rooks_up, f_is_row := f_is_row, d_is_row := PySem.W.fnOf "is_row" "is_row" (defArgs s_is_row) (defBody s_is_row) (defScope s_is_row) .none kV_is_row dc_is_row pm_is_row an_is_row cd_is_row ct_is_row, F_is_row := F_is_row, g_is_row := PySem.W.mg_of X G a_is_row, B_is_row := B_is_row, f_is_board := f_is_board, d_is_board := PySem.W.fnOf "is_board" "is_board" (defArgs s_is_board) (defBody s_is_board) (defScope s_is_board) .none kV_is_board dc_is_board pm_is_board an_is_board cd_is_board ct_is_board, F_is_board := F_is_board, g_is_board := PySem.W.mg_of X G a_is_board, B_is_board := B_is_board, f_check_board := f_check_board, d_check_board := PySem.W.fnOf "check_board" "check_board" (defArgs s_check_board) (defBody s_check_board) (defScope s_check_board) .none kV_check_board dc_check_board pm_check_board an_check_board cd_check_board ct_check_board, F_check_board := F_check_board, g_check_board := PySem.W.mg_of X G a_check_board, B_check_board := B_check_board, f_rook_counts := f_rook_counts, d_rook_counts := PySem.W.fnOf "rook_counts" "rook_counts" (defArgs s_rook_counts) (defBody s_rook_counts) (defScope s_rook_counts) .none kV_rook_counts dc_rook_counts pm_rook_counts an_rook_counts cd_rook_counts ct_rook_counts, F_rook_counts := F_rook_counts, g_rook_counts := PySem.W.mg_of X G a_rook_counts, B_rook_counts := B_rook_counts, f_hit_counts := f_hit_counts, d_hit_counts := PySem.W.fnOf "hit_counts" "hit_counts" (defArgs s_hit_counts) (defBody s_hit_counts) (defScope s_hit_counts) .none kV_hit_counts dc_hit_counts pm_hit_counts an_hit_counts cd_hit_counts ct_hit_counts, F_hit_counts := F_hit_counts, g_hit_counts := PySem.W.mg_of X G a_hit_counts, B_hit_counts := B_hit_counts, f_free_places := f_free_places, d_free_places := PySem.W.fnOf "free_places" "free_places" (defArgs s_free_places) (defBody s_free_places) (defScope s_free_places) .none kV_free_places dc_free_places pm_free_places an_free_places cd_free_places ct_free_places, F_free_places := F_free_places, g_free_places := PySem.W.mg_of X G a_free_places, B_free_places := B_free_places, f_other_board := f_other_board, d_other_board := PySem.W.fnOf "other_board" "other_board" (defArgs s_other_board) (defBody s_other_board) (defScope s_other_board) .none kV_other_board dc_other_board pm_other_board an_other_board cd_other_board ct_other_board, F_other_board := F_other_board, g_other_board := PySem.W.mg_of X G a_other_board, B_other_board := B_other_board, f__law_start := f__law_start, d__law_start := PySem.W.fnOf "_law_start" "_law_start" (defArgs s__law_start) (defBody s__law_start) (defScope s__law_start) .none kV__law_start dc__law_start pm__law_start an__law_start cd__law_start ct__law_start, F__law_start := F__law_start, g__law_start := PySem.W.mg_of X G a__law_start, B__law_start := B__law_start, f__law_below := f__law_below, d__law_below := PySem.W.fnOf "_law_below" "_law_below" (defArgs s__law_below) (defBody s__law_below) (defScope s__law_below) .none kV__law_below dc__law_below pm__law_below an__law_below cd__law_below ct__law_below, F__law_below := F__law_below, g__law_below := PySem.W.mg_of X G a__law_below, B__law_below := B__law_below, f__law_mixed := f__law_mixed, d__law_mixed := PySem.W.fnOf "_law_mixed" "_law_mixed" (defArgs s__law_mixed) (defBody s__law_mixed) (defScope s__law_mixed) .none kV__law_mixed dc__law_mixed pm__law_mixed an__law_mixed cd__law_mixed ct__law_mixed, F__law_mixed := F__law_mixed, g__law_mixed := PySem.W.mg_of X G a__law_mixed, B__law_mixed := B__law_mixed, f__law_lot := f__law_lot, d__law_lot := PySem.W.fnOf "_law_lot" "_law_lot" (defArgs s__law_lot) (defBody s__law_lot) (defScope s__law_lot) .none kV__law_lot dc__law_lot pm__law_lot an__law_lot cd__law_lot ct__law_lot, F__law_lot := F__law_lot, g__law_lot := PySem.W.mg_of X G a__law_lot, B__law_lot := B__law_lot, f__law_same := f__law_same, d__law_same := PySem.W.fnOf "_law_same" "_law_same" (defArgs s__law_same) (defBody s__law_same) (defScope s__law_same) .none kV__law_same dc__law_same pm__law_same an__law_same cd__law_same ct__law_same, F__law_same := F__law_same, g__law_same := PySem.W.mg_of X G a__law_same, B__law_same := B__law_same, f__law_wways := f__law_wways, d__law_wways := PySem.W.fnOf "_law_wways" "_law_wways" (defArgs s__law_wways) (defBody s__law_wways) (defScope s__law_wways) .none kV__law_wways dc__law_wways pm__law_wways an__law_wways cd__law_wways ct__law_wways, F__law_wways := F__law_wways, g__law_wways := PySem.W.mg_of X G a__law_wways, B__law_wways := B__law_wways, f__law_wproduct := f__law_wproduct, d__law_wproduct := PySem.W.fnOf "_law_wproduct" "_law_wproduct" (defArgs s__law_wproduct) (defBody s__law_wproduct) (defScope s__law_wproduct) .none kV__law_wproduct dc__law_wproduct pm__law_wproduct an__law_wproduct cd__law_wproduct ct__law_wproduct, F__law_wproduct := F__law_wproduct, g__law_wproduct := PySem.W.mg_of X G a__law_wproduct, B__law_wproduct := B__law_wproduct, f__law_wtaken := f__law_wtaken, d__law_wtaken := PySem.W.fnOf "_law_wtaken" "_law_wtaken" (defArgs s__law_wtaken) (defBody s__law_wtaken) (defScope s__law_wtaken) .none kV__law_wtaken dc__law_wtaken pm__law_wtaken an__law_wtaken cd__law_wtaken ct__law_wtaken, F__law_wtaken := F__law_wtaken, g__law_wtaken := PySem.W.mg_of X G a__law_wtaken, B__law_wtaken := B__law_wtaken, f__law_wrooks := f__law_wrooks, d__law_wrooks := PySem.W.fnOf "_law_wrooks" "_law_wrooks" (defArgs s__law_wrooks) (defBody s__law_wrooks) (defScope s__law_wrooks) .none kV__law_wrooks dc__law_wrooks pm__law_wrooks an__law_wrooks cd__law_wrooks ct__law_wrooks, F__law_wrooks := F__law_wrooks, g__law_wrooks := PySem.W.mg_of X G a__law_wrooks, B__law_wrooks := B__law_wrooks, f_avoid_up := f_avoid_up, d_avoid_up := PySem.W.fnOf "avoid_up" "avoid_up" (defArgs s_avoid_up) (defBody s_avoid_up) (defScope s_avoid_up) .none kV_avoid_up dc_avoid_up pm_avoid_up an_avoid_up cd_avoid_up ct_avoid_up, F_avoid_up := F_avoid_up, g_avoid_up := PySem.W.mg_of X G a_avoid_up, B_avoid_up := B_avoid_up, f_law := _, d_law := PySem.W.fnOf "law" "law" (defArgs s_law) (defBody s_law) (defScope s_law) .none kV_law dc_law pm_law an_law cd_law ct_law, F_law := F_law, g_law := PySem.W.mg_of X G a_law, B_law := B_law}⟩
end K16
open PySem PySem.W PyProof.Rows
set_option maxHeartbeats 0 in
theorem PySem.Challenge.cw_undersums_k16_whole_hits_rooks_and_rows_holds : PySem.Challenge.rw_undersums_k16_whole_hits_rooks_and_rows.Holds := by
  w_on; o_law; k_head; (case hw => w_witness2)
  k_fill
  refine L2.walk_of (l := PySem.Challenge.rw_undersums_k16_whole_hits_rooks_and_rows) (n := 63) (k := 8) (x := "script") (CX := fun _ => L2.CX0) (sp := fun w => DL.spOf _ K16.S_law) rfl (by decide) rfl ⟨rfl, by decide, by decide⟩ (fun w h Y => PySem.W.kIn_of Y) ?F (fun _ _ a ns hl ho hS => K16.sp_end hl ho hS) (fun _ _ _ _ _ h => h)
  case F =>
    intro w mg fa h KX G hmg
    refine' K16.all_mk KX G hmg ?a_is_integer ?l_is_integer ?c_is_integer ?k_is_integer ?a_is_between ?l_is_between ?c_is_between ?k_is_between ?a_is_list ?l_is_list ?c_is_list ?k_is_list ?a_are_sums ?l_are_sums ?c_are_sums ?k_are_sums ?a_choices_row ?l_choices_row ?c_choices_row ?k_choices_row ?a_orderings ?l_orderings ?c_orderings ?k_orderings ?a_told_out ?l_told_out ?c_told_out ?k_told_out ?a_told_in ?l_told_in ?c_told_in ?k_told_in ?a_hits_of ?l_hits_of ?c_hits_of ?k_hits_of ?a_rooks_up ?l_rooks_up ?c_rooks_up ?k_rooks_up ?a_is_row ?l_is_row ?c_is_row ?k_is_row ?a_is_board ?l_is_board ?c_is_board ?k_is_board ?a_check_board ?l_check_board ?c_check_board ?k_check_board ?a_rook_counts ?l_rook_counts ?c_rook_counts ?k_rook_counts ?a_hit_counts ?l_hit_counts ?c_hit_counts ?k_hit_counts ?a_free_places ?l_free_places ?c_free_places ?k_free_places ?a_other_board ?l_other_board ?c_other_board ?k_other_board ?a__law_start ?l__law_start ?c__law_start ?k__law_start ?a__law_below ?l__law_below ?c__law_below ?k__law_below ?a__law_mixed ?l__law_mixed ?c__law_mixed ?k__law_mixed ?a__law_lot ?l__law_lot ?c__law_lot ?k__law_lot ?a__law_same ?l__law_same ?c__law_same ?k__law_same ?a__law_wways ?l__law_wways ?c__law_wways ?k__law_wways ?a__law_wproduct ?l__law_wproduct ?c__law_wproduct ?k__law_wproduct ?a__law_wtaken ?l__law_wtaken ?c__law_wtaken ?k__law_wtaken ?a__law_wrooks ?l__law_wrooks ?c__law_wrooks ?k__law_wrooks ?a_avoid_up ?l_avoid_up ?c_avoid_up ?k_avoid_up ?a_law ?l_law ?c_law ?k_law ?z_FORTY_ONE ?z_MOST ?z_SIXTY_FOUR ?z_TEN ?z_all ?z_bool ?z_dict ?z_enumerate ?z_int ?z_isinstance ?z_len ?z_list ?z_range ?z_sorted ?z_str ?z_sum ?z_tuple ?z_zip
    (case a_is_integer => k_is); (case l_is_integer => k_is); (case c_is_integer => k_is); (case k_is_integer => k_is); (case a_is_between => k_is); (case l_is_between => k_is); (case c_is_between => k_is); (case k_is_between => k_is); (case a_is_list => k_is); (case l_is_list => k_is); (case c_is_list => k_is); (case k_is_list => k_is); (case a_are_sums => k_is); (case l_are_sums => k_is); (case c_are_sums => k_is); (case k_are_sums => k_is); (case a_choices_row => k_is); (case l_choices_row => k_is); (case c_choices_row => k_is); (case k_choices_row => k_is); (case a_orderings => k_is); (case l_orderings => k_is); (case c_orderings => k_is); (case k_orderings => k_is); (case a_told_out => k_is); (case l_told_out => k_is); (case c_told_out => k_is); (case k_told_out => k_is); (case a_told_in => k_is); (case l_told_in => k_is); (case c_told_in => k_is); (case k_told_in => k_is); (case a_hits_of => k_is); (case l_hits_of => k_is); (case c_hits_of => k_is); (case k_hits_of => k_is); (case a_rooks_up => k_is); (case l_rooks_up => k_is); (case c_rooks_up => k_is); (case k_rooks_up => k_is); (case a_is_row => k_is); (case l_is_row => k_is); (case c_is_row => k_is); (case k_is_row => k_is); (case a_is_board => k_is); (case l_is_board => k_is); (case c_is_board => k_is); (case k_is_board => k_is); (case a_check_board => k_is); (case l_check_board => k_is); (case c_check_board => k_is); (case k_check_board => k_is); (case a_rook_counts => k_is); (case l_rook_counts => k_is); (case c_rook_counts => k_is); (case k_rook_counts => k_is); (case a_hit_counts => k_is); (case l_hit_counts => k_is); (case c_hit_counts => k_is); (case k_hit_counts => k_is); (case a_free_places => k_is); (case l_free_places => k_is); (case c_free_places => k_is); (case k_free_places => k_is); (case a_other_board => k_is); (case l_other_board => k_is); (case c_other_board => k_is); (case k_other_board => k_is); (case a__law_start => k_is); (case l__law_start => k_is); (case c__law_start => k_is); (case k__law_start => k_is); (case a__law_below => k_is); (case l__law_below => k_is); (case c__law_below => k_is); (case k__law_below => k_is); (case a__law_mixed => k_is); (case l__law_mixed => k_is); (case c__law_mixed => k_is); (case k__law_mixed => k_is); (case a__law_lot => k_is); (case l__law_lot => k_is); (case c__law_lot => k_is); (case k__law_lot => k_is); (case a__law_same => k_is); (case l__law_same => k_is); (case c__law_same => k_is); (case k__law_same => k_is); (case a__law_wways => k_is); (case l__law_wways => k_is); (case c__law_wways => k_is); (case k__law_wways => k_is); (case a__law_wproduct => k_is); (case l__law_wproduct => k_is); (case c__law_wproduct => k_is); (case k__law_wproduct => k_is); (case a__law_wtaken => k_is); (case l__law_wtaken => k_is); (case c__law_wtaken => k_is); (case k__law_wtaken => k_is); (case a__law_wrooks => k_is); (case l__law_wrooks => k_is); (case c__law_wrooks => k_is); (case k__law_wrooks => k_is); (case a_avoid_up => k_is); (case l_avoid_up => k_is); (case c_avoid_up => k_is); (case k_avoid_up => k_is); (case a_law => k_is); (case l_law => k_is); (case c_law => k_is); (case k_law => k_is); (case z_FORTY_ONE => k_is); (case z_MOST => k_is); (case z_SIXTY_FOUR => k_is); (case z_TEN => k_is); (case z_all => k_is); (case z_bool => k_is); (case z_dict => k_is); (case z_enumerate => k_is); (case z_int => k_is); (case z_isinstance => k_is); (case z_len => k_is); (case z_list => k_is); (case z_range => k_is); (case z_sorted => k_is); (case z_str => k_is); (case z_sum => k_is); (case z_tuple => k_is); (case z_zip => k_is)

