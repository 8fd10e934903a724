import PyProof.Rows.All
import Wide.All
import OpenK.AllK
import Wide.FinOn
import HandS.ForMost
import HandS.Lambda
import HandS.TupAny
import HandS.StrMore
import HandS.Wide
import HandS.TupLe
import HandS.Deep
import KE.DataCmp
import HandS.Dict
import HandS.IsInst
import HandS.Replace
import HandS.Style
import HandS.More
import HandS.Zip
import HandS.ReplaceLit
import HandS.ReplaceList
import PyProof.Rows.StrRev
import PyProof.ListStr
import KE.SortData
import PyProof.ReprLen
import HandS.TupLen
import HandS.TupSets
import HandS.Conv
import KE.GoesEnum
import HandS.WrittenGet
import HandS.WordsDict
import KE.DataMinMax
import KE.DatumOrd
import PyProof.TupleOfStr
import HandS.TupMul
import HandS.SortKw
import HandS.Nested
import HandS.ClsMeth
import HandS.ExcInit
import KE.KExcSuper
import KE.KExcMake
import HandS.ExcField
import HandS.ExcIs
import HandS.ExcOwn
import KE.KExcIs
import HandS.Gcd
import KE.KUnpack
import HandS.SetTxt0
import PyProof.CollectStr
import HandS.ExcValue
import KE.KDictList
import HandS.EndOwn
import HandS.NestedK
import PySem.Challenge.RW_wordstems_k62_whole_sorted_turnings
set_option Elab.async false
set_option linter.all false
set_option autoImplicit false
set_option maxRecDepth 100000
set_option maxHeartbeats 4000000
/-! A plain layer over the hand layer: data without addresses. -/
namespace Pl
open PySem PySem.Spec PyProof.Rows L2

abbrev Fg0 := PySem.W.Frag
/-- plain data: texts are lists of code points -/
inductive D where
  | non | bl (b : Bool) | int (i : Int) | str (x : List Nat) | tup (xs : List D) | lst (xs : List D) | dk (kvs : List (Key × D)) | ml (kind : Nat) | scr (ns : List Int)
/-- a mill: where it stands, its two objects -/
inductive Ml where
  | no
  | at (μ δ : Addr) (kind : Nat) (tb : List (Addr × Str))
structure MlNames where
  kd : Str
  k1 : Str
  k2 : Str
def mlNames : Nat → MlNames
  | 0 => ⟨"deep", "seal", "turn"⟩
  | 1 => ⟨"great", "blend", "turn"⟩
  | 2 => ⟨"far", "flow", "turn"⟩
  | _ => ⟨"deep", "mix", "drawn"⟩
/-- the bounds of the two numbers -/
def mlIn (kind : Nat) (i j : Int) : Prop := 0 ≤ i ∧ i < 4294967400 ∧ 0 ≤ j
def Ml.w : Ml → Addr → Prop
  | .no, _ => False
  | .at μ δ _ tb, b => b = μ ∨ b = δ ∨ ∃ q, (b, q) ∈ tb
def Ml.ok : Ml → Hp → Prop
  | .no, _ => True
  | .at μ δ k tb, H => LamX.Tabs tb H ∧ μ ≠ δ ∧ ∃ (ns : List Int) (i j : Int), H μ = some (.dK [(.inr (mlNames k).kd, .ref δ), (.inr (mlNames k).k1, .int i), (.inr (mlNames k).k2, .int j)]) ∧ H δ = some (.lst (ns.map V.int)) ∧ (∀ n ∈ ns, 0 ≤ n) ∧ ns.length ≤ 1000 ∧ mlIn k i j
/-- what the module holds, and of which runs a reading speaks -/
structure Fg where
  fr : Fg0
  st : Ml → Hp → (Addr → Prop) → Prop
instance : Coe Fg Fg0 := ⟨Fg.fr⟩
/-- of all runs -/
abbrev Fg.of (K : Fg0) : Fg := ⟨K, fun _ _ _ => True⟩
/-- a text as the model has it -/
def S (x : List Nat) : Str := ⟨x.toArray⟩
theorem S_len (x : List Nat) : (S x).length = x.length := by simp [S, Str.length]
theorem S_list (x : List Nat) : (S x).cps.toList = x := by simp [S]
theorem S_of (x : Str) : S x.cps.toList = x := by simp [S]
theorem S_inj {x y : List Nat} : S x = S y ↔ x = y := by
  constructor
  · intro h
    have := congrArg (fun s : Str => s.cps.toList) h
    simpa [S] using this
  · rintro rfl; rfl

mutual
/-- v is the data d in the heap H -/
inductive Is (K : Fg0) (M : Ml) (H : Hp) : V → D → Prop
  | non : Is K M H .non .non
  | bl (b : Bool) : Is K M H (.bl b) (.bl b)
  | int (i : Int) : Is K M H (.int i) (.int i)
  | str (x : List Nat) : x.length ≤ sizeLine → Is K M H (.str (S x)) (.str x)
  | tup {a : Addr} {xs : List V} {ds : List D} : SqT K H a xs → IsA K M H xs ds → ds.length ≤ sizeLine → Is K M H (.ref a) (.tup ds)
  | lst {a : Addr} {xs : List V} {ds : List D} : H a = some (.lst xs) → IsA K M H xs ds → ds.length ≤ sizeLine → Is K M H (.ref a) (.lst ds)
  | dk {a : Addr} {vs : List (Key × V)} {ds : List (Key × D)} : Rd H a (.dK vs) → IsK K M H vs ds → Is K M H (.ref a) (.dk ds)
  | ml {μ δ : Addr} {k : Nat} {tb : List (Addr × Str)} : M = .at μ δ k tb → Is K M H (.ref μ) (.ml k)
  | scr {a : Addr} {ns : List Int} : SqL K H a (ns.map V.int) → ns.length ≤ 63 → Is K M H (.ref a) (.scr ns)
inductive IsA (K : Fg0) (M : Ml) (H : Hp) : List V → List D → Prop
  | nil : IsA K M H [] []
  | cons {v : V} {vs : List V} {d : D} {ds : List D} : Is K M H v d → IsA K M H vs ds → IsA K M H (v :: vs) (d :: ds)
inductive IsK (K : Fg0) (M : Ml) (H : Hp) : List (Key × V) → List (Key × D) → Prop
  | nil : IsK K M H [] []
  | cons {k : Key} {v : V} {vs : List (Key × V)} {d : D} {ds : List (Key × D)} : Is K M H v d → IsK K M H vs ds → IsK K M H ((k, v) :: vs) ((k, d) :: ds)
end
section
variable {K : Fg0} {M : Ml} {H H' : Hp}
theorem same_rd {a : Addr} {o : HO} (s : Same H H') (r : Rd H a o) : Rd H' a o := by
  rcases r with r | ⟨u, r⟩
  · exact .inl (s _ _ r)
  · exact .inr ⟨u, s _ _ r⟩
theorem same_sqL {a : Addr} {xs : List V} (s : Same H H') (r : SqL K H a xs) : SqL K H' a xs := by
  rcases r with r | r
  · exact .inl (same_rd s r)
  · exact .inr r
theorem same_sqT {a : Addr} {xs : List V} (s : Same H H') (r : SqT K H a xs) : SqT K H' a xs := by
  rcases r with r | r
  · exact .inl (same_rd s r)
  · exact .inr r
mutual
theorem Is.mono (s : Same H H') : ∀ {v : V} {d : D}, Is K M H v d → Is K M H' v d
  | _, _, .non => .non
  | _, _, .bl b => .bl b
  | _, _, .int i => .int i
  | _, _, .str x h => .str x h
  | _, _, .tup h a z => .tup (same_sqT s h) (IsA.mono s a) z
  | _, _, .lst h a z => .lst (s _ _ h) (IsA.mono s a) z
  | _, _, .dk h a => .dk (same_rd s h) (IsK.mono s a)
  | _, _, .ml h => .ml h
  | _, _, .scr h z => .scr (same_sqL s h) z
theorem IsA.mono (s : Same H H') : ∀ {v : List V} {d : List D}, IsA K M H v d → IsA K M H' v d
  | _, _, .nil => .nil
  | _, _, .cons h t => .cons (Is.mono s h) (IsA.mono s t)
theorem IsK.mono (s : Same H H') : ∀ {v : List (Key × V)} {d : List (Key × D)}, IsK K M H v d → IsK K M H' v d
  | _, _, .nil => .nil
  | _, _, .cons h t => .cons (Is.mono s h) (IsK.mono s t)
end
theorem IsA.length : ∀ {v : List V} {d : List D}, IsA K M H v d → v.length = d.length
  | _, _, .nil => rfl
  | _, _, .cons _ t => by rw [List.length_cons, List.length_cons, IsA.length t]
theorem IsA.append : ∀ {v w : List V} {d e : List D}, IsA K M H v d → IsA K M H w e → IsA K M H (v ++ w) (d ++ e)
  | _, _, _, _, .nil, h => h
  | _, _, _, _, .cons h t, q => .cons h (IsA.append t q)
theorem IsA.one {v : V} {d : D} (h : Is K M H v d) : IsA K M H [v] [d] := .cons h .nil
theorem IsA.get : ∀ {v : List V} {d : List D} {i : Nat} {y : D}, IsA K M H v d → d[i]? = some y → ∃ x, v[i]? = some x ∧ Is K M H x y
  | _, _, i, y, .nil, e => by simp at e
  | _, _, 0, y, .cons h _, e => by simp at e; subst e; exact ⟨_, rfl, h⟩
  | _, _, i + 1, y, .cons _ t, e => by
    obtain ⟨x, e1, e2⟩ := IsA.get (i := i) t (by simpa using e)
    exact ⟨x, by simpa using e1, e2⟩
theorem IsA.getV : ∀ {v : List V} {d : List D} {i : Nat} {x : V}, IsA K M H v d → v[i]? = some x → ∃ y, d[i]? = some y ∧ Is K M H x y
  | _, _, i, y, .nil, e => by simp at e
  | _, _, 0, y, .cons h _, e => by simp at e; subst e; exact ⟨_, rfl, h⟩
  | _, _, i + 1, y, .cons _ t, e => by
    obtain ⟨x, e1, e2⟩ := IsA.getV (i := i) t (by simpa using e)
    exact ⟨x, by simpa using e1, e2⟩
theorem IsA.drop : ∀ {v : List V} {d : List D} (n : Nat), IsA K M H v d → IsA K M H (v.drop n) (d.drop n)
  | _, _, 0, h => h
  | _, _, n + 1, .nil => .nil
  | _, _, n + 1, .cons _ t => IsA.drop n t
theorem IsA.take : ∀ {v : List V} {d : List D} (n : Nat), IsA K M H v d → IsA K M H (v.take n) (d.take n)
  | _, _, 0, h => .nil
  | _, _, n + 1, .nil => .nil
  | _, _, n + 1, .cons h t => .cons h (IsA.take n t)
theorem IsA.set {x : V} {y : D} (r : Is K M H x y) : ∀ {v : List V} {d : List D} (n : Nat), IsA K M H v d → IsA K M H (v.set n x) (d.set n y)
  | _, _, _, .nil => .nil
  | _, _, 0, .cons _ t => .cons r t
  | _, _, n + 1, .cons h t => .cons h (IsA.set r n t)
theorem IsA.reverse {v : List V} {d : List D} (h : IsA K M H v d) : IsA K M H v.reverse d.reverse := by
  induction v generalizing d with
  | nil => cases h; exact .nil
  | cons x v ih =>
    cases h with
    | cons h t =>
      rw [List.reverse_cons, List.reverse_cons]
      exact (ih t).append (.one h)
theorem IsA.ints : ∀ {v : List V} {ns : List Int}, IsA K M H v (ns.map D.int) → v = ns.map V.int
  | _, [], .nil => rfl
  | _, n :: ns, .cons h t => by
    cases h
    rw [List.map_cons, IsA.ints t]
theorem IsA.bls : ∀ {v : List V} {ns : List Bool}, IsA K M H v (ns.map D.bl) → v = ns.map V.bl
  | _, [], .nil => rfl
  | _, n :: ns, .cons h t => by
    cases h
    rw [List.map_cons, IsA.bls t]
theorem IsA.strs : ∀ {v : List V} {ns : List (List Nat)}, IsA K M H v (ns.map D.str) → v = (ns.map S).map V.str ∧ ∀ n ∈ ns, n.length ≤ sizeLine
  | _, [], .nil => ⟨rfl, fun _ h => by cases h⟩
  | _, n :: ns, .cons h t => by
    cases h with
    | str _ hl =>
      obtain ⟨e, q⟩ := IsA.strs t
      refine ⟨by rw [List.map_cons, List.map_cons, ← e], fun y hy => ?_⟩
      rcases List.mem_cons.mp hy with z | z
      · rw [z]; exact hl
      · exact q y z
theorem IsA.ofInts : ∀ {ns : List Int}, IsA K M H (ns.map V.int) (ns.map D.int)
  | [] => .nil
  | n :: ns => .cons (.int n) IsA.ofInts
theorem IsA.ofStrs : ∀ {ns : List (List Nat)}, (∀ n ∈ ns, n.length ≤ sizeLine) → IsA K M H ((ns.map S).map V.str) (ns.map D.str)
  | [], _ => .nil
  | n :: ns, h => .cons (.str n (h n List.mem_cons_self)) (IsA.ofStrs fun y hy => h y (List.mem_cons_of_mem _ hy))
end

/-! ### heaps in part -/
open Classical in
/-- the heap without what m tells -/
noncomputable def hid (m : Addr → Prop) (H : Hp) : Hp := fun b => if m b then none else H b
section
variable {m m' : Addr → Prop} {H H' : Hp} {K : Fg0} {M : Ml}
theorem hid_in {b : Addr} (h : ¬ m b) : hid m H b = H b := if_neg h
theorem hid_out {b : Addr} (h : m b) : hid m H b = none := if_pos h
theorem hid_some {b : Addr} {o : HO} (e : hid m H b = some o) : ¬ m b ∧ H b = some o := by
  unfold hid at e
  by_cases h : m b
  · rw [if_pos h] at e; cases e
  · rw [if_neg h] at e; exact ⟨h, e⟩
theorem hid_same (s : ∀ b o, ¬ m b → H b = some o → H' b = some o) : Same (hid m H) (hid m H') := fun b o e => by
  obtain ⟨h, e⟩ := hid_some e
  rw [hid_in h]
  exact s b o h e
theorem hid_less (s : ∀ b, m' b → m b) : Same (hid m H) (hid m' H) := fun b o e => by
  obtain ⟨h, e⟩ := hid_some e
  rw [hid_in fun z => h (s b z)]
  exact e
theorem hid_all : Same (hid m H) H := fun b o e => (hid_some e).2
/-- what avoids m avoids a new place too -/
theorem hid_more {p : Addr} (n : H p = none) : Same (hid m H) (hid (fun b => m b ∨ b = p) H) := fun b o e => by
  obtain ⟨h, e⟩ := hid_some e
  rw [hid_in (by
    rintro (z | z)
    · exact h z
    · subst z; rw [n] at e; cases e)]
  exact e
theorem Rd.hid {a : Addr} {o : HO} (n : ¬ m a) (r : Rd H a o) : Rd (hid m H) a o := by
  rcases r with r | ⟨u, r⟩
  · exact .inl (by rw [hid_in n]; exact r)
  · exact .inr ⟨u, by rw [hid_in n]; exact r⟩
end

/-! ### a step: what a mill does not hold stays -/
structure Stp (M : Ml) (H H' : Hp) : Prop where
  keep : ∀ b o, ¬ M.w b → H b = some o → H' b = some o
  there : ∀ b, H b ≠ none → H' b ≠ none
  ok : M.ok H'
theorem Stp.refl {M : Ml} {H : Hp} (h : M.ok H) : Stp M H H := ⟨fun _ _ _ e => e, fun _ e => e, h⟩
theorem Stp.trans {M : Ml} {H H1 H2 : Hp} (a : Stp M H H1) (b : Stp M H1 H2) : Stp M H H2 :=
  ⟨fun c o h e => b.keep c o h (a.keep c o h e), fun c e => b.there c (a.there c e), b.ok⟩
/-- Ml.ok leans on its own objects alone -/
theorem ml_ok_of {M : Ml} {H H' : Hp} (h : M.ok H) (k : ∀ b, M.w b → H' b = H b) (kc : ∀ b q, H b = some (LamX.CodeO b q) → H' b = some (LamX.CodeO b q)) : M.ok H' := by
  cases M with
  | no => trivial
  | «at» μ δ kk tb =>
    obtain ⟨t, ne, ns, i, j, h1, h2, r⟩ := h
    refine ⟨fun p hp => ?_, ne, ns, i, j, (k μ (.inl rfl)).trans h1, (k δ (.inr (.inl rfl))).trans h2, r⟩
    obtain ⟨ps, e1, e2, e3⟩ := t p hp
    refine ⟨ps, (k p.1 (.inr (.inr ⟨p.2, hp⟩))).trans e1, e2, fun pos cv hc => ?_⟩
    obtain ⟨c, a1, a2⟩ := e3 pos cv hc
    exact ⟨c, a1, kc _ _ a2⟩
theorem Ml.tr {M : Ml} {H : Hp} (h : M.ok H) : ∀ b, M.w b → H b ≠ none := by
  cases M with
  | no => intro b z; exact z.elim
  | «at» μ δ kk tb =>
    obtain ⟨t, ne, ns, i, j, h1, h2, r⟩ := h
    rintro b (z | z | ⟨q, z⟩)
    · rw [z, h1]; exact fun q => nomatch q
    · rw [z, h2]; exact fun q => nomatch q
    · obtain ⟨ps, e1, _⟩ := t _ z
      rw [e1]; exact fun q => nomatch q
theorem nc_of {H : Hp} {p : Addr} {o : HO} (e : H p = some o) (h : ∀ f, o ≠ .ext f) : ∀ q, H p ≠ some (LamX.CodeO p q) := fun q z => by rw [e] at z; exact h _ (Option.some.inj z)
/-- a new object -/
theorem Stp.new {M : Ml} {H : Hp} {p : Addr} {o : HO} (h : M.ok H) (n : H p = none) : Stp M H (upd H p o) := by
  refine ⟨fun b u _ e => ?_, fun b e => ?_, ml_ok_of h (fun b z => ?_) fun b q e => by rw [upd_ne (ne_of_none e n)]; exact e⟩
  · rw [upd_ne (ne_of_none e n)]; exact e
  · by_cases q : b = p
    · subst q; exact absurd n e
    · rw [upd_ne q]; exact e
  · refine upd_ne fun q => ?_
    subst q; exact Ml.tr h b z n

/-! ### frames -/
inductive Sl where
  | un | d (x : D) | ol (xs : List D) | od (kvs : List (Key × D)) | ot (kvs : List (List Key × D)) | ex (a : Addr) (d : Option Addr) (fs : List (Str × D))
abbrev En := List Sl
def Own : Sl → Prop
  | .ol _ => True
  | .od _ => True
  | .ot _ => True
  | _ => False
/-- the fields of an exception, in its dict -/
def XFs (K : Fg0) (M : Ml) (G : Hp) (d : Option Addr) (fs : List (Str × D)) : Prop :=
  (fs = [] ∧ d = none) ∨ ∃ (dd : Addr) (f : Str) (v : V) (y : D), fs = [(f, y)] ∧ d = some dd ∧ G dd = some (.xd [(f, v)]) ∧ Is K M G v y
theorem XFs.mono {K : Fg0} {M : Ml} {G G' : Hp} {d : Option Addr} {fs : List (Str × D)} (s : Same G G') (h : XFs K M G d fs) : XFs K M G' d fs := by
  rcases h with h | ⟨dd, f, v, y, e1, e2, e3, i⟩
  · exact .inl h
  · exact .inr ⟨dd, f, v, y, e1, e2, s _ _ e3, i.mono s⟩
/-- a slot: H the heap, m what plain data may not lean on -/
def SlOk (K : Fg0) (M : Ml) (H0 : Hp) (m : Addr → Prop) (H : Hp) (o : Option (Option V)) : Sl → Prop
  | .un => True
  | .ex a d fs => o = some (some (.ref a)) ∧ XFs K M (hid m H) d fs
  | .d x => ∃ v, o = some (some v) ∧ Is K M (hid m H) v x
  | .ol xs => ∃ p vs, o = some (some (.ref p)) ∧ H p = some (.lst vs) ∧ IsA K M (hid m H) vs xs ∧ m p ∧ ¬ M.w p ∧ H0 p = none ∧ xs.length ≤ sizeLine
  | .od ks => ∃ p vs, o = some (some (.ref p)) ∧ H p = some (.dK vs) ∧ IsK K M (hid m H) vs ks ∧ m p ∧ ¬ M.w p ∧ H0 p = none
  | .ot ks => ∃ p vs, o = some (some (.ref p)) ∧ H p = some (.dT vs) ∧ IsA K M (hid m H) (vs.map (·.2)) (ks.map (·.2)) ∧ m p ∧ ¬ M.w p ∧ H0 p = none ∧ vs.map (·.1) = ks.map (·.1)
structure EnOk (K : Fg) (M : Ml) (H0 : Hp) (z m : Addr → Prop) (H : Hp) (σ : L2.St) (ρ : En) : Prop where
  st : K.st M H0 z
  stp : Stp M H0 H
  zw : ∀ b, M.w b → z b
  zm : ∀ b, z b → m b
  zt : ∀ b, z b → H0 b ≠ none
  tr : ∀ b, m b → H b ≠ none
  len : σ.length = ρ.length
  slot : ∀ (i : Nat) s, ρ[i]? = some s → SlOk K M H0 m H σ[i]? s
  apart : ∀ (i j : Nat) (p : Addr) s t, ρ[i]? = some s → ρ[j]? = some t → Own s → Own t → σ[i]? = some (some (.ref p)) → σ[j]? = some (some (.ref p)) → i = j
section
variable {K : Fg} {M : Ml} {H0 H H' : Hp} {z m m' : Addr → Prop} {σ : L2.St} {ρ : En} {o : Option (Option V)}
theorem EnOk.mw (I : EnOk K M H0 z m H σ ρ) : ∀ b, M.w b → m b := fun b h => I.zm b (I.zw b h)
theorem EnOk.ok (I : EnOk K M H0 z m H σ ρ) : M.ok H := I.stp.ok
/-- plain data over a step -/
theorem EnOk.same (I : EnOk K M H0 z m H σ ρ) (s : Stp M H H') : Same (hid m H) (hid m H') := hid_same fun b o h e => s.keep b o (fun q => h (I.mw b q)) e
theorem EnOk.is (I : EnOk K M H0 z m H σ ρ) (s : Stp M H H') {v : V} {d : D} (h : Is K M (hid m H) v d) : Is K M (hid m H') v d := h.mono (I.same s)
theorem SlOk.step {s : Sl} (hs : SlOk K M H0 m H o s) (sm : Same (hid m H) (hid m' H')) (keep : ∀ b u, ¬ M.w b → m b → H b = some u → H' b = some u) (up : ∀ p, o = some (some (.ref p)) → m p → m' p) : SlOk K M H0 m' H' o s := by
  cases s with
  | un => trivial
  | ex a d fs => obtain ⟨e, h⟩ := hs; exact ⟨e, h.mono sm⟩
  | d x => obtain ⟨v, e, h⟩ := hs; exact ⟨v, e, h.mono sm⟩
  | ol xs => obtain ⟨p, vs, e, h, hi, h1, h2, h3⟩ := hs; exact ⟨p, vs, e, keep _ _ h2 h1 h, hi.mono sm, up p e h1, h2, h3⟩
  | od xs => obtain ⟨p, vs, e, h, hi, h1, h2, h3⟩ := hs; exact ⟨p, vs, e, keep _ _ h2 h1 h, hi.mono sm, up p e h1, h2, h3⟩
  | ot xs => obtain ⟨p, vs, e, h, hi, h1, h2, h3⟩ := hs; exact ⟨p, vs, e, keep _ _ h2 h1 h, hi.mono sm, up p e h1, h2, h3⟩
/-- behind an expression -/
theorem EnOk.step (I : EnOk K M H0 z m H σ ρ) (s : Stp M H H') : EnOk K M H0 z m H' σ ρ :=
  ⟨I.st, I.stp.trans s, I.zw, I.zm, I.zt, fun b h => s.there b (I.tr b h), I.len, fun i sl e => (I.slot i sl e).step (I.same s) (fun b u h _ e => s.keep b u h e) (fun _ _ h => h), I.apart⟩
/-- one place more that plain data does not lean on -/
theorem EnOk.more (I : EnOk K M H0 z m H σ ρ) {p : Addr} (n : H p = none) {o : HO} : EnOk K M H0 z (fun b => m b ∨ b = p) (upd H p o) σ ρ := by
  have s : Stp M H (upd H p o) := .new I.ok n
  have sm : Same (hid m H) (hid (fun b => m b ∨ b = p) (upd H p o)) := (hid_more n).trans (hid_same fun b u h e => by rw [upd_ne (ne_of_none e n)]; exact e)
  refine ⟨I.st, I.stp.trans s, I.zw, fun b h => .inl (I.zm b h), I.zt, fun b h => ?_, I.len, fun i sl e => (I.slot i sl e).step sm (fun b u h _ e => s.keep b u h e) (fun _ _ h => .inl h), I.apart⟩
  rcases h with h | h
  · exact s.there b (I.tr b h)
  · rw [h, upd_same]; exact fun q => nomatch q
end
end Pl

namespace Pl
open PySem PySem.Spec PyProof.Rows L2

/-! ### values by plain data -/
/-- what a rule by values may use -/
structure Hx (M : Ml) (m : Addr → Prop) (H : Hp) : Prop where
  ok : M.ok H
  tr : ∀ b, m b → H b ≠ none
  mw : ∀ b, M.w b → m b
/-- as Is, but the outermost list or dict may be one that m hides -/
def IsT (K : Fg0) (M : Ml) (m : Addr → Prop) (H : Hp) (v : V) (d : D) : Prop :=
  Is K M (hid m H) v d ∨ (∃ p vs ds, v = .ref p ∧ d = .lst ds ∧ H p = some (.lst vs) ∧ ¬ M.w p ∧ IsA K M (hid m H) vs ds ∧ ds.length ≤ sizeLine) ∨
    ∃ p vs ds, v = .ref p ∧ d = .dk ds ∧ H p = some (.dK vs) ∧ ¬ M.w p ∧ IsK K M (hid m H) vs ds
/-- what is wanted of a result -/
def Wn (K : Fg0) (M : Ml) (m : Addr → Prop) (H : Hp) (Q : VK) (d : D) : Prop := ∀ v H', Stp M H H' → Is K M (hid m H') v d → Q v H'
section
variable {K : Fg} {M : Ml} {m : Addr → Prop} {H H' : Hp} {Q : VK} {v : V} {d : D}
theorem Hx.same (h : Hx M m H) (s : Stp M H H') : Same (hid m H) (hid m H') := hid_same fun b o z e => s.keep b o (fun q => z (h.mw b q)) e
theorem Hx.step (h : Hx M m H) (s : Stp M H H') : Hx M m H' := ⟨s.ok, fun b z => s.there b (h.tr b z), h.mw⟩
theorem Hx.rfl (h : Hx M m H) : Stp M H H := .refl h.ok
theorem Hx.fresh (h : Hx M m H) {p : Addr} (n : H p = none) : ¬ m p := fun z => h.tr p z n
theorem IsT.of {K : Fg0} (h : Is K M (hid m H) v d) : IsT K M m H v d := .inl h
theorem IsT.step {K : Fg0} (h : Hx M m H) (s : Stp M H H') (q : IsT K M m H v d) : IsT K M m H' v d := by
  rcases q with q | ⟨p, vs, ds, e1, e2, e3, n, a, z⟩ | ⟨p, vs, ds, e1, e2, e3, n, a⟩
  · exact .inl (q.mono (h.same s))
  · exact .inr (.inl ⟨p, vs, ds, e1, e2, s.keep p _ n e3, n, a.mono (h.same s), z⟩)
  · exact .inr (.inr ⟨p, vs, ds, e1, e2, s.keep p _ n e3, n, a.mono (h.same s)⟩)
theorem IsT.int {K : Fg0} {i : Int} (q : IsT K M m H v (.int i)) : v = .int i := by
  rcases q with q | ⟨p, vs, ds, e1, e2, _⟩ | ⟨p, vs, ds, e1, e2, _⟩
  · cases q; rfl
  · cases e2
  · cases e2
theorem IsT.bl {K : Fg0} {i : Bool} (q : IsT K M m H v (.bl i)) : v = .bl i := by
  rcases q with q | ⟨p, vs, ds, e1, e2, _⟩ | ⟨p, vs, ds, e1, e2, _⟩
  · cases q; rfl
  · cases e2
  · cases e2
theorem IsT.non {K : Fg0} (q : IsT K M m H v .non) : v = .non := by
  rcases q with q | ⟨p, vs, ds, e1, e2, _⟩ | ⟨p, vs, ds, e1, e2, _⟩
  · cases q; rfl
  · cases e2
  · cases e2
theorem IsT.str {K : Fg0} {x : List Nat} (q : IsT K M m H v (.str x)) : v = .str (S x) ∧ x.length ≤ sizeLine := by
  rcases q with q | ⟨p, vs, ds, e1, e2, _⟩ | ⟨p, vs, ds, e1, e2, _⟩
  · cases q with | str _ h => exact ⟨rfl, h⟩
  · cases e2
  · cases e2
theorem IsT.tup {K : Fg0} {ds : List D} (q : IsT K M m H v (.tup ds)) : ∃ a vs, v = .ref a ∧ SqT K H a vs ∧ IsA K M (hid m H) vs ds ∧ SqT K (hid m H) a vs ∧ ds.length ≤ sizeLine := by
  rcases q with q | ⟨p, vs, ds, e1, e2, _⟩ | ⟨p, vs, ds, e1, e2, _⟩
  · cases q with | tup h a z => exact ⟨_, _, rfl, same_sqT hid_all h, a, h, z⟩
  · cases e2
  · cases e2
theorem IsT.lst {K : Fg0} {ds : List D} (q : IsT K M m H v (.lst ds)) : ∃ a vs, v = .ref a ∧ H a = some (.lst vs) ∧ IsA K M (hid m H) vs ds ∧ ds.length ≤ sizeLine := by
  rcases q with q | ⟨p, vs, ds', e1, e2, h, _, a, z⟩ | ⟨p, vs, ds, e1, e2, _⟩
  · cases q with | lst h a z => exact ⟨_, _, rfl, hid_all _ _ h, a, z⟩
  · cases e2; exact ⟨_, _, e1, h, a, z⟩
  · cases e2
theorem IsT.scr {K : Fg0} {ns : List Int} (q : IsT K M m H v (.scr ns)) : ∃ a, v = .ref a ∧ SqL K H a (ns.map V.int) ∧ SqL K (hid m H) a (ns.map V.int) := by
  rcases q with q | ⟨p, vs, ds, e1, e2, _⟩ | ⟨p, vs, ds, e1, e2, _⟩
  · cases q with | scr h z => exact ⟨_, rfl, same_sqL hid_all h, h⟩
  · cases e2
  · cases e2
theorem IsT.dk {K : Fg0} {ds : List (Key × D)} (q : IsT K M m H v (.dk ds)) : ∃ a vs, v = .ref a ∧ Rd H a (.dK vs) ∧ IsK K M (hid m H) vs ds := by
  rcases q with q | ⟨p, vs, ds', e1, e2, h, _, a⟩ | ⟨p, vs, ds, e1, e2, h, _, a⟩
  · cases q with | dk h a => exact ⟨_, _, rfl, same_rd hid_all h, a⟩
  · cases e2
  · cases e2; exact ⟨_, _, e1, .of h, a⟩
/-- ends -/
theorem Wn.flat {K : Fg0} (h : Hx M m H) (q : Wn K M m H Q d) (r : Is K M (hid m H) v d) : Q v H := q v H h.rfl r
theorem Wn.int {K : Fg0} {i : Int} (h : Hx M m H) (q : Wn K M m H Q (.int i)) : Q (.int i) H := q.flat h (.int i)
theorem Wn.bl {K : Fg0} {i : Bool} (h : Hx M m H) (q : Wn K M m H Q (.bl i)) : Q (.bl i) H := q.flat h (.bl i)
theorem Wn.non {K : Fg0} (h : Hx M m H) (q : Wn K M m H Q .non) : Q .non H := q.flat h .non
theorem Wn.str {K : Fg0} {x : List Nat} (h : Hx M m H) (q : Wn K M m H Q (.str x)) (z : x.length ≤ sizeLine) : Q (.str (S x)) H := q.flat h (.str x z)
theorem Wn.lst {K : Fg0} {p : Addr} {vs : List V} {ds : List D} (h : Hx M m H) (q : Wn K M m H Q (.lst ds)) (n : H p = none) (a : IsA K M (hid m H) vs ds) (z : ds.length ≤ sizeLine) : Q (.ref p) (upd H p (.lst vs)) := by
  have s : Stp M H (upd H p (.lst vs)) := .new h.ok n
  exact q _ _ s (.lst (by rw [hid_in (h.fresh n)]; exact upd_same) (a.mono (h.same s)) z)
theorem Wn.tup {K : Fg0} {p : Addr} {vs : List V} {ds : List D} (h : Hx M m H) (q : Wn K M m H Q (.tup ds)) (n : H p = none) (a : IsA K M (hid m H) vs ds) (z : ds.length ≤ sizeLine) : Q (.ref p) (upd H p (.tup vs)) := by
  have s : Stp M H (upd H p (.tup vs)) := .new h.ok n
  exact q _ _ s (.tup (.inl (.inl (by rw [hid_in (h.fresh n)]; exact upd_same))) (a.mono (h.same s)) z)
end

/-- what hangs on a and holds nothing: a is then left alone by simp -/
inductive Dep {α : Sort _} (a : α) : Type
  | mk
/-- a value that is there -/
def exS {α : Type} (o : Option α) (Q : α → Prop) (_ : Dep Q := .mk) : Prop := ∃ d, o = some d ∧ Q d
theorem exS_some {α : Type} {x : α} {Q : α → Prop} {h : Dep Q} : exS (some x) Q h = Q x := propext ⟨fun ⟨d, e, q⟩ => by cases e; exact q, fun q => ⟨x, rfl, q⟩⟩
theorem exS_mo {α : Type} {o : Option α} {Q Q' : α → Prop} (h : ∀ x, Q x → Q' x) (q : exS o Q) : exS o Q' := let ⟨d, e, q⟩ := q; ⟨d, e, h _ q⟩
/-- a call -/
def Cal (g : List D → (D → Prop) → Prop) (ds : List D) (Q : D → Prop) (_ : Dep Q := .mk) : Prop := g ds Q
/-- a choice -/
def ifB (b : Bool) (A B : Prop) (_ : Dep A := .mk) (_ : Dep B := .mk) : Prop := if b = true then A else B
theorem ifB_true {A B : Prop} {h : Dep A} {h' : Dep B} : ifB true A B h h' = A := rfl
theorem ifB_false {A B : Prop} {h : Dep A} {h' : Dep B} : ifB false A B h h' = B := rfl
theorem ifB_pos {b : Bool} {A B : Prop} {k : Dep A} {k' : Dep B} (h : b = true) (q : A) : ifB b A B k k' := by subst h; exact q
theorem ifB_neg {b : Bool} {A B : Prop} {k : Dep A} {k' : Dep B} (h : b = false) (q : B) : ifB b A B k k' := by subst h; exact q
theorem ifB_of {b : Bool} {A B : Prop} {k : Dep A} {k' : Dep B} (h1 : b = true → A) (h2 : b = false → B) : ifB b A B k k' := by
  cases b
  · exact h2 rfl
  · exact h1 rfl

/-! ### the judgement of expressions -/
abbrev FE := En → (D → Prop) → Prop
def RdE (K : Fg) (t : TE) (f : FE) : Prop := ∀ (M : Ml) H0 z m H σ ρ (Q : VK), EnOk K M H0 z m H σ ρ → f ρ (Wn K M m H Q) → t σ H Q
def RdT (K : Fg) (t : TE) (f : FE) : Prop := ∀ (M : Ml) H0 z m H σ ρ (Q : VK), EnOk K M H0 z m H σ ρ → f ρ (fun d => ∀ v H', Stp M H H' → IsT K M m H' v d → Q v H') → t σ H Q
/-- monotone -/
def MoE (f : FE) : Prop := ∀ ρ (Q Q' : D → Prop), (∀ d, Q d → Q' d) → f ρ Q → f ρ Q'
structure DE (K : Fg) (X : Cx) (e : Expr) (t : TE) (f : FE) : Prop where
  pe : PE X e t
  rd : RdE K t f
  mo : MoE f
structure DT (K : Fg) (X : Cx) (e : Expr) (t : TE) (f : FE) : Prop where
  pe : PE X e t
  rd : RdT K t f
  mo : MoE f
theorem EnOk.hx {K : Fg} {M : Ml} {H0 H : Hp} {z m : Addr → Prop} {σ : L2.St} {ρ : En} (I : EnOk K M H0 z m H σ ρ) : Hx M m H := ⟨I.ok, I.tr, I.mw⟩
section
variable {K : Fg} {X : Cx} {e : Expr} {t : TE} {f : FE}
theorem DE.top (h : DE K X e t f) : DT K X e t f := ⟨h.pe, fun M H0 z m H σ ρ Q I q => h.rd M H0 z m H σ ρ Q I (h.mo _ _ _ (fun d q v H' s i => q v H' s (.of i)) q), h.mo⟩
end
theorem Wn.mono {K : Fg0} {M : Ml} {m : Addr → Prop} {H H' : Hp} {Q : VK} {d : D} (s : Stp M H H') (q : Wn K M m H Q d) : Wn K M m H' Q d := fun v H2 s2 i => q v H2 (s.trans s2) i

/-! ### names, constants -/
def fC (d : D) : FE := fun _ Q => Q d
def Sl.pd : Sl → Option D
  | .d x => some x
  | _ => none
def Sl.pp : Sl → Option D
  | .d x => some x
  | .ol xs => some (.lst xs)
  | .od ks => some (.dk ks)
  | .ot _ => none
  | .un => none
  | .ex .. => none
def Sl.pl : Sl → Option (List D)
  | .ol xs => some xs
  | _ => none
def Sl.pk : Sl → Option (List (Key × D))
  | .od xs => some xs
  | _ => none
def slD (ρ : En) (i : Nat) : Option D := (ρ[i]?).bind Sl.pd
def slP (ρ : En) (i : Nat) : Option D := (ρ[i]?).bind Sl.pp
def slL (ρ : En) (i : Nat) : Option (List D) := (ρ[i]?).bind Sl.pl
def slK (ρ : En) (i : Nat) : Option (List (Key × D)) := (ρ[i]?).bind Sl.pk
theorem slD_of {ρ : En} {i : Nat} {x : D} (h : slD ρ i = some x) : ρ[i]? = some (.d x) := by
  unfold slD at h
  cases e : ρ[i]? with
  | none => rw [e] at h; cases h
  | some s =>
    rw [e] at h
    cases s with
    | d y => cases h; rfl
    | _ => cases h
theorem slL_of {ρ : En} {i : Nat} {x : List D} (h : slL ρ i = some x) : ρ[i]? = some (.ol x) := by
  unfold slL at h
  cases e : ρ[i]? with
  | none => rw [e] at h; cases h
  | some s =>
    rw [e] at h
    cases s with
    | ol y => cases h; rfl
    | _ => cases h
theorem slK_of {ρ : En} {i : Nat} {x : List (Key × D)} (h : slK ρ i = some x) : ρ[i]? = some (.od x) := by
  unfold slK at h
  cases e : ρ[i]? with
  | none => rw [e] at h; cases h
  | some s =>
    rw [e] at h
    cases s with
    | od y => cases h; rfl
    | _ => cases h
theorem slP_of {ρ : En} {i : Nat} {x : D} (h : slP ρ i = some x) : ρ[i]? = some (.d x) ∨ (∃ xs, ρ[i]? = some (.ol xs) ∧ x = .lst xs) ∨ ∃ xs, ρ[i]? = some (.od xs) ∧ x = .dk xs := by
  unfold slP at h
  cases e : ρ[i]? with
  | none => rw [e] at h; cases h
  | some s =>
    rw [e] at h
    cases s with
    | d y => cases h; exact .inl rfl
    | ol y => cases h; exact .inr (.inl ⟨_, rfl, rfl⟩)
    | od y => cases h; exact .inr (.inr ⟨_, rfl, rfl⟩)
    | ot y => cases h
    | un => cases h
    | ex _ _ _ => cases h
def fV (i : Nat) : FE := fun ρ Q => exS (slD ρ i) Q
def fP (i : Nat) : FE := fun ρ Q => exS (slP ρ i) Q
theorem mo_C {d : D} : MoE (fC d) := fun _ _ _ h q => h _ q
theorem mo_V {i : Nat} : MoE (fV i) := fun ρ Q Q' h q => exS_mo h q
theorem mo_P {i : Nat} : MoE (fP i) := fun ρ Q Q' h q => exS_mo h q
section
variable {K : Fg} {X : Cx}
theorem rd_C {v : V} {d : D} (h : ∀ M H, Is K M H v d) : RdE K (tC v) (fC d) := fun M H0 z m H σ ρ Q I q => Wn.flat I.hx q (h _ _)
theorem e_int {i j pos} : DE K X (.Constant (.int i) j pos) (tC (.int i)) (fC (.int i)) := ⟨pe_int, rd_C fun _ _ => .int i, mo_C⟩
theorem e_bl {b j pos} : DE K X (.Constant (.bool b) j pos) (tC (.bl b)) (fC (.bl b)) := ⟨pe_bl, rd_C fun _ _ => .bl b, mo_C⟩
theorem e_non {j pos} : DE K X (.Constant .none j pos) (tC .non) (fC .non) := ⟨pe_non, rd_C fun _ _ => .non, mo_C⟩
theorem e_str {s : Str} (x : List Nat) {j pos} (h : s = S x := by rfl) (z : x.length ≤ sizeLine := by decide) : DE K X (.Constant (.str s) j pos) (tC (.str s)) (fC (.str x)) := by
  subst h
  exact ⟨pe_str, rd_C fun _ _ => .str x z, mo_C⟩
/-- a constant of the module -/
theorem e_glob {x : Str} {v : V} {u : Value} {d : D} {pos : Pos} (hg : Gl X x) (hm : X.mg x = some u) (r : RelV v u) (h : ∀ M H, Is K M H v d) (hd : (x == ("__debug__" : Str)) = false := by decide) : DE K X (.Name x pos) (tC v) (fC d) := ⟨pe_glob hg hm r hd, rd_C h, mo_C⟩
theorem rd_V (i : Nat) : RdE K (tVar i) (fV i) := fun M H0 z m H σ ρ Q I q => by
  obtain ⟨x, e, q⟩ := q
  obtain ⟨v, e1, h⟩ := I.slot i _ (slD_of e)
  exact ⟨v, e1, Wn.flat I.hx q h⟩
theorem rd_P (i : Nat) : RdT K (tVar i) (fP i) := fun M H0 z m H σ ρ Q I q => by
  obtain ⟨x, e, q⟩ := q
  rcases slP_of e with e' | ⟨xs, e', rfl⟩ | ⟨xs, e', rfl⟩
  · obtain ⟨v, e1, h⟩ := I.slot i _ e'
    exact ⟨v, e1, q v H I.hx.rfl (.of h)⟩
  · obtain ⟨p, vs, e1, e2, h, _, n, _, z⟩ := I.slot i _ e'
    exact ⟨_, e1, q _ H I.hx.rfl (.inr (.inl ⟨p, vs, _, rfl, rfl, e2, n, h, z⟩))⟩
  · obtain ⟨p, vs, e1, e2, h, _, n, _⟩ := I.slot i _ e'
    exact ⟨_, e1, q _ H I.hx.rfl (.inr (.inr ⟨p, vs, _, rfl, rfl, e2, n, h⟩))⟩
theorem e_v (i : Nat) {x : Str} {pos : Pos} (hN : X.N[i]? = some x := by rfl) (hv : Vis X.env.scope x := by first | exact Or.inl rfl | exact Or.inr (Or.inl rfl) | exact Or.inr (Or.inr rfl)) (hd : (x == ("__debug__" : Str)) = false := by decide)
    (hcd : (x == ("__classdict__" : Str)) = false := by decide) : DE K X (.Name x pos) (tVar i) (fV i) := ⟨pe_var hN hv hd hcd, rd_V i, mo_V⟩
theorem e_p (i : Nat) {x : Str} {pos : Pos} (hN : X.N[i]? = some x := by rfl) (hv : Vis X.env.scope x := by first | exact Or.inl rfl | exact Or.inr (Or.inl rfl) | exact Or.inr (Or.inr rfl)) (hd : (x == ("__debug__" : Str)) = false := by decide)
    (hcd : (x == ("__classdict__" : Str)) = false := by decide) : DT K X (.Name x pos) (tVar i) (fP i) := ⟨pe_var hN hv hd hcd, rd_P i, mo_P⟩
end

/-! ### operators by values -/
abbrev F1 := D → (D → Prop) → Prop
abbrev F2 := D → D → (D → Prop) → Prop
def Mo1 (g : F1) : Prop := ∀ a (Q Q' : D → Prop), (∀ d, Q d → Q' d) → g a Q → g a Q'
def Mo2 (g : F2) : Prop := ∀ a b (Q Q' : D → Prop), (∀ d, Q d → Q' d) → g a b Q → g a b Q'
def R1d (K : Fg0) (r : V → Hp → VK → Prop) (g : F1) : Prop := ∀ (M : Ml) m H x a Q, Hx M m H → IsT K M m H x a → g a (Wn K M m H Q) → r x H Q
def R2d (K : Fg0) (r : R2) (g : F2) : Prop := ∀ (M : Ml) m H x y a b Q, Hx M m H → IsT K M m H x a → IsT K M m H y b → g a b (Wn K M m H Q) → r x y H Q
def f1 (g : F1) (fa : FE) : FE := fun ρ Q => fa ρ fun x => g x Q
def f2 (g : F2) (fa fb : FE) : FE := fun ρ Q => fa ρ fun x => fb ρ fun y => g x y Q
section
variable {K : Fg} {X : Cx} {a b : Expr} {ta tb : TE} {fa fb : FE} {pos : Pos}
theorem mo_f1 {g : F1} (hg : Mo1 g) (ha : MoE fa) : MoE (f1 g fa) := fun ρ Q Q' h q => ha ρ _ _ (fun x q => hg x _ _ h q) q
theorem mo_f2 {g : F2} (hg : Mo2 g) (ha : MoE fa) (hb : MoE fb) : MoE (f2 g fa fb) := fun ρ Q Q' h q => ha ρ _ _ (fun x q => hb ρ _ _ (fun y q => hg x y _ _ h q) q) q
theorem rd_1 {r : V → Hp → VK → Prop} {g : F1} (hr : R1d K r g) (hg : Mo1 g) (ha : RdT K ta fa) (ma : MoE fa) : RdE K (tUn r ta) (f1 g fa) := fun M H0 z m H σ ρ Q I q =>
  ha M H0 z m H σ ρ _ I (ma ρ _ _ (fun x q v H1 s1 i1 => hr M m H1 v x Q (I.hx.step s1) i1 (hg _ _ _ (fun d q => q.mono s1) q)) q)
theorem rd_2 {r : R2} {g : F2} (hr : R2d K r g) (hg : Mo2 g) (ha : RdT K ta fa) (hb : RdT K tb fb) (ma : MoE fa) (mb : MoE fb) : RdE K (tOp r ta tb) (f2 g fa fb) := fun M H0 z m H σ ρ Q I q =>
  ha M H0 z m H σ ρ _ I (ma ρ _ _ (fun x q v H1 s1 i1 => hb M H0 z m H1 σ ρ _ (I.step s1) (mb ρ _ _ (fun y q u H2 s2 i2 =>
    hr M m H2 v u x y Q (I.hx.step (s1.trans s2)) (i1.step (I.hx.step s1) s2) i2 (hg _ _ _ _ (fun d q => q.mono (s1.trans s2)) q)) q)) q)
theorem e_bin {op : Operator} {r : R2} {g : F2} (ho : OpR X (binaryOp op) r) (hr : R2d K r g) (hg : Mo2 g) (ha : DT K X a ta fa) (hb : DT K X b tb fb) : DE K X (.BinOp a op b pos) (tOp r ta tb) (f2 g fa fb) :=
  ⟨pe_op ho ha.pe hb.pe, rd_2 hr hg ha.rd hb.rd ha.mo hb.mo, mo_f2 hg ha.mo hb.mo⟩
theorem e_un {op : UnaryOp} {r : V → Hp → VK → Prop} {g : F1} (ho : UnR X (unaryOp op) r) (hr : R1d K r g) (hg : Mo1 g) (ha : DT K X a ta fa) : DE K X (.UnaryOp op a pos) (tUn r ta) (f1 g fa) :=
  ⟨pe_un ho ha.pe, rd_1 hr hg ha.rd ha.mo, mo_f1 hg ha.mo⟩
theorem e_cmp {op : CmpOp} {r : R2} {g : F2} (ho : OpR X (compareOp op) r) (hr : R2d K r g) (hg : Mo2 g) (ha : DT K X a ta fa) (hb : DT K X b tb fb) (hm : behindInMarks op b = false) : DE K X (.Compare a [op] [b] pos) (tOp r ta tb) (f2 g fa fb) :=
  ⟨pe_cmpR ho ha.pe hb.pe hm, rd_2 hr hg ha.rd hb.rd ha.mo hb.mo, mo_f2 hg ha.mo hb.mo⟩
end

/-! ### the operators -/
/-- two ints -/
def gI (C : Int → Int → Prop) (g : Int → Int → D) : F2 := fun a b Q => match a, b with
  | .int i, .int j => C i j ∧ Q (g i j)
  | _, _ => False
theorem mo_gI {C : Int → Int → Prop} {g : Int → Int → D} : Mo2 (gI C g) := fun a b Q Q' h q => by
  unfold gI at q ⊢
  split at q
  · exact ⟨q.1, h _ q.2⟩
  · exact q
theorem rd_gI {K : Fg0} {C : Int → Int → Prop} {g : Int → Int → V} {g' : Int → Int → D} (hg : ∀ M H i j, Is K M H (g i j) (g' i j)) : R2d K (rI C g) (gI C g') := fun M m H x y a b Q h ia ib q => by
  unfold gI at q
  split at q
  · exact ⟨_, _, ia.int, ib.int, q.1, Wn.flat h q.2 (hg _ _ _ _)⟩
  · exact q.elim
theorem rd_gI0 {K : Fg0} {g : Int → Int → V} {g' : Int → Int → D} (hg : ∀ M H i j, Is K M H (g i j) (g' i j)) : R2d K (rI0 g) (gI (fun _ _ => True) g') := fun M m H x y a b Q h ia ib q => by
  unfold gI at q
  split at q
  · exact ⟨_, _, ia.int, ib.int, Wn.flat h q.2 (hg _ _ _ _)⟩
  · exact q.elim
theorem S_app (x y : List Nat) : S x ++ S y = S (x ++ y) := by
  show (⟨(S x).cps ++ (S y).cps⟩ : Str) = _
  simp [S]
/-- a + b -/
def gAdd : F2 := fun a b Q => match a, b with
  | .int i, .int j => Q (.int (i + j))
  | .str x, .str y => x.length + y.length ≤ sizeLine ∧ Q (.str (x ++ y))
  | .lst x, .lst y => x.length + y.length ≤ sizeLine ∧ Q (.lst (x ++ y))
  | .tup x, .tup y => x.length + y.length ≤ sizeLine ∧ Q (.tup (x ++ y))
  | _, _ => False
theorem mo_gAdd : Mo2 gAdd := fun a b Q Q' h q => by
  unfold gAdd at q ⊢
  split at q
  · exact h _ q
  · exact ⟨q.1, h _ q.2⟩
  · exact ⟨q.1, h _ q.2⟩
  · exact ⟨q.1, h _ q.2⟩
  · exact q
end Pl

namespace Pl
open PySem PySem.Spec PyProof.Rows L2

/-! ### + -/
section
variable {X : Cx}
def rAddS (K : Fg0) : R2 := fun x y H Q => (rI0 (fun i j => .int (i + j)) x y H Q ∨ (∃ i j, x = .str i ∧ y = .str j ∧ i.length + j.length ≤ sizeLine ∧ Q (.str (i ++ j)) H)) ∨ (rCat x y H Q ∨ rCatA K x y H Q)
theorem op_addS : OpR X (binaryOp .Add) (rAddS X.K) := (op_add.or op_add_str).or (op_cat.or op_catA)
theorem iop_addS : OpR X (inplaceOp .Add) (fun x y H Q => rI0 (fun i j => .int (i + j)) x y H Q ∨ (∃ i j, x = .str i ∧ y = .str j ∧ i.length + j.length ≤ sizeLine ∧ Q (.str (i ++ j)) H)) := iop_add.or iop_add_str
end
theorem rd_addS {K : Fg0} : R2d K (rAddS K) gAdd := fun M m H x y a b Q h ia ib q => by
  unfold gAdd at q
  split at q
  · exact .inl (.inl ⟨_, _, ia.int, ib.int, Wn.int h q⟩)
  · obtain ⟨e1, z1⟩ := ia.str
    obtain ⟨e2, z2⟩ := ib.str
    refine .inl (.inr ⟨_, _, e1, e2, by rw [S_len, S_len]; exact q.1, ?_⟩)
    rw [S_app]
    exact Wn.str h q.2 (by rw [List.length_append]; exact q.1)
  · obtain ⟨p1, v1, e1, r1, a1, _⟩ := ia.lst
    obtain ⟨p2, v2, e2, r2, a2, _⟩ := ib.lst
    exact .inr (.inl ⟨_, _, _, _, e1, e2, r1, r2, by rw [a1.length, a2.length]; exact q.1, fun p n => Wn.lst h q.2 n (a1.append a2) (by rw [List.length_append]; exact q.1)⟩)
  · obtain ⟨p1, v1, e1, r1, a1, t1, z1⟩ := ia.tup
    obtain ⟨p2, v2, e2, r2, a2, t2, z2⟩ := ib.tup
    refine .inr (.inr ⟨_, _, _, _, e1, e2, r1, r2, by rw [a1.length, a2.length]; exact q.1, fun z => ?_, fun _ z => ?_, fun _ _ p n => Wn.tup h q.2 n (a1.append a2) (by rw [List.length_append]; exact q.1)⟩)
    · subst z; cases a1; exact Wn.flat h q.2 (.tup t2 a2 z2)
    · subst z; cases a2; rw [List.append_nil] at q; exact Wn.flat h q.2 (.tup t1 a1 z1)
  · exact q.elim

/-! ### - * // % ** -/
def gSub : F2 := gI (fun _ _ => True) fun i j => .int (i - j)
def gMod : F2 := gI (fun _ j => j ≠ 0) fun i j => .int (i.fmod j)
def gPow : F2 := gI CPow fun i j => .int (i ^ j.toNat)
def gDiv : F2 := gI (fun i j => CDivN i j ∨ CDivW i j) fun i j => .int (i.fdiv j)
def gMul : F2 := fun a b Q => match a, b with
  | .int i, .int j => (CMul i j ∨ CMulW i j) ∧ Q (.int (i * j))
  | .str x, .int k => (-(2 ^ 63) ≤ k ∧ k ≤ 16777216 ∧ x.length * k.toNat ≤ 16777216) ∧ Q (.str (List.replicate k.toNat x).flatten)
  | .lst x, .int k => (-(2 ^ 63) ≤ k ∧ k < 2 ^ 63 ∧ x.length * k.toNat ≤ sizeLine) ∧ Q (.lst (List.replicate k.toNat x).flatten)
  | _, _ => False
theorem mo_gMul : Mo2 gMul := fun a b Q Q' h q => by
  unfold gMul at q ⊢
  split at q
  · exact ⟨q.1, h _ q.2⟩
  · exact ⟨q.1, h _ q.2⟩
  · exact ⟨q.1, h _ q.2⟩
  · exact q
theorem rd_div {K : Fg0} : R2d K (fun x y H Q => rI CDivN (fun i j => .int (i.fdiv j)) x y H Q ∨ rI CDivW (fun i j => .int (i / j)) x y H Q) gDiv := fun M m H x y a b Q h ia ib q => by
  unfold gDiv gI at q
  split at q
  · obtain ⟨c, q⟩ := q
    rcases c with c | c
    · exact .inl ⟨_, _, ia.int, ib.int, c, Wn.int h q⟩
    · refine .inr ⟨_, _, ia.int, ib.int, c, ?_⟩
      have q' := Wn.int h q
      rw [Int.fdiv_eq_ediv_of_nonneg _ (Int.le_of_lt c.1)] at q'
      exact q'
  · exact q.elim
section
variable {X : Cx}
theorem op_mulStr : OpR X (binaryOp .Mult) (fun x y H Q => ∃ a k, x = .str a ∧ y = .int k ∧ MulOk a k ∧ Q (.str (Txt.mul a k)) H) := by
  intro pins s σ H x y v u Q I rx ry h
  obtain ⟨a, k, rfl, rfl, hk, q⟩ := h
  obtain ⟨t, rfl⟩ := rx
  obtain ⟨t', rfl⟩ := ry
  exact SB.mul hk fun t2 k2 => ⟨.str _, H, I.tok _, ⟨_, rfl⟩, q⟩
theorem mul_S (x : List Nat) (k : Int) : Txt.mul (S x) k = S (List.replicate k.toNat x).flatten := by
  have f0 : ∀ (m : Nat) (acc : List Nat), List.foldl (fun x1 x2 => x1 ++ x2) acc.toArray (List.replicate m x.toArray) = (acc ++ (List.replicate m x).flatten).toArray := by
    intro m
    induction m with
    | zero => intro acc; simp
    | succ m ih =>
      intro acc
      rw [List.replicate_succ, List.foldl_cons, show acc.toArray ++ x.toArray = (acc ++ x).toArray by simp, ih, List.replicate_succ, List.flatten_cons, List.append_assoc]
  unfold Txt.mul
  by_cases h1 : k < 1
  · rw [if_pos h1, show k.toNat = 0 by omega]; rfl
  · rw [if_neg h1]
    by_cases h2 : (k == 1 || (S x).length == 0) = true
    · rw [if_pos h2]
      simp only [Bool.or_eq_true, beq_iff_eq, S_len] at h2
      rcases h2 with h2 | h2
      · subst h2; simp
      · have : x = [] := List.eq_nil_of_length_eq_zero h2
        subst this; simp
    · rw [if_neg h2]
      have := f0 k.toNat []
      rw [List.nil_append] at this
      show (⟨List.foldl _ #[] (List.replicate k.toNat x.toArray)⟩ : Str) = _
      rw [show (#[] : Array Nat) = ([] : List Nat).toArray from rfl, this]
      rfl
end
theorem rd_mul {K : Fg0} : R2d K (fun x y H Q => (rI CMul (fun i j => .int (i * j)) x y H Q ∨ rI CMulW (fun i j => .int (i * j)) x y H Q) ∨ ((∃ a k, x = .str a ∧ y = .int k ∧ MulOk a k ∧ Q (.str (Txt.mul a k)) H) ∨ rRep x y H Q)) gMul := fun M m H x y a b Q h ia ib q => by
  unfold gMul at q
  split at q
  · obtain ⟨c, q⟩ := q
    rcases c with c | c
    · exact .inl (.inl ⟨_, _, ia.int, ib.int, c, Wn.int h q⟩)
    · exact .inl (.inr ⟨_, _, ia.int, ib.int, c, Wn.int h q⟩)
  · rename_i x k
    obtain ⟨⟨h1, h2, h3⟩, q⟩ := q
    obtain ⟨e, z⟩ := ia.str
    refine .inr (.inl ⟨_, _, e, ib.int, PyProof.Rows.mulOk_of x.length k.toNat (by rw [S_len]; exact Nat.le_refl _) (by omega) h1 (by omega) h3, ?_⟩)
    rw [mul_S]
    refine Wn.str h q ?_
    rw [List.length_flatten, List.map_replicate, List.sum_replicate_nat, Nat.mul_comm, sizeLine_eq]
    exact h3
  · obtain ⟨⟨h1, h2, h3⟩, q⟩ := q
    obtain ⟨p, v, e, r, a, _⟩ := ia.lst
    refine .inr (.inr ⟨_, _, _, e, ib.int, r, h1, h2, by rw [a.length]; exact h3, fun p n => Wn.lst h q n ?_ (by rw [List.length_flatten, List.map_replicate, List.sum_replicate_nat, Nat.mul_comm]; exact h3)⟩)
    rename_i k
    have f : ∀ n : Nat, IsA K M (hid m H) (List.replicate n v).flatten (List.replicate n _).flatten := fun n => by
      induction n with
      | zero => exact .nil
      | succ n ih => rw [List.replicate_succ, List.replicate_succ, List.flatten_cons, List.flatten_cons]; exact a.append ih
    exact f _
  · exact q.elim
def gNeg : F1 := fun a Q => match a with
  | .int i => Q (.int (-i))
  | _ => False
theorem mo_gNeg : Mo1 gNeg := fun a Q Q' h q => by
  unfold gNeg at q ⊢
  split at q
  · exact h _ q
  · exact q
theorem rd_neg {K : Fg0} : R1d K (rU fun i => .int (-i)) gNeg := fun M m H x a Q h ia q => by
  unfold gNeg at q
  split at q
  · exact ⟨_, ia.int, Wn.int h q⟩
  · exact q.elim
section
variable {K : Fg} {X : Cx} {a b : Expr} {ta tb : TE} {fa fb : FE} {pos : Pos}
theorem e_add (ha : DT K X a ta fa) (hb : DT K X b tb fb) (hK : X.K = K := by rfl) : DE K X (.BinOp a .Add b pos) (tOp (rAddS K) ta tb) (f2 gAdd fa fb) := by
  obtain ⟨K, stK⟩ := K
  replace hK : X.K = K := hK
  subst hK
  exact e_bin op_addS rd_addS mo_gAdd ha hb
theorem e_sub (ha : DT K X a ta fa) (hb : DT K X b tb fb) : DE K X (.BinOp a .Sub b pos) (tOp (rI0 fun i j => .int (i - j)) ta tb) (f2 gSub fa fb) := e_bin op_sub (rd_gI0 fun _ _ _ _ => .int _) mo_gI ha hb
theorem e_mod (ha : DT K X a ta fa) (hb : DT K X b tb fb) : DE K X (.BinOp a .Mod b pos) (tOp (rI (fun _ j => j ≠ 0) fun i j => .int (i.fmod j)) ta tb) (f2 gMod fa fb) := e_bin op_modN (rd_gI fun _ _ _ _ => .int _) mo_gI ha hb
theorem e_pow (ha : DT K X a ta fa) (hb : DT K X b tb fb) : DE K X (.BinOp a .Pow b pos) (tOp (rI CPow fun i j => .int (i ^ j.toNat)) ta tb) (f2 gPow fa fb) := e_bin op_pow (rd_gI fun _ _ _ _ => .int _) mo_gI ha hb
theorem e_div (ha : DT K X a ta fa) (hb : DT K X b tb fb) : DE K X (.BinOp a .FloorDiv b pos) (tOp (fun x y H Q => rI CDivN (fun i j => .int (i.fdiv j)) x y H Q ∨ rI CDivW (fun i j => .int (i / j)) x y H Q) ta tb) (f2 gDiv fa fb) := e_bin (op_fdivN.or op_fdivW) rd_div mo_gI ha hb
theorem e_mul (ha : DT K X a ta fa) (hb : DT K X b tb fb) : DE K X (.BinOp a .Mult b pos) (tOp (fun x y H Q => (rI CMul (fun i j => .int (i * j)) x y H Q ∨ rI CMulW (fun i j => .int (i * j)) x y H Q) ∨ ((∃ a k, x = .str a ∧ y = .int k ∧ MulOk a k ∧ Q (.str (Txt.mul a k)) H) ∨ rRep x y H Q)) ta tb) (f2 gMul fa fb) :=
  e_bin ((op_mul.or op_mulW).or (op_mulStr.or op_rep)) rd_mul mo_gMul ha hb
theorem e_neg (ha : DT K X a ta fa) : DE K X (.UnaryOp .USub a pos) (tUn (rU fun i => .int (-i)) ta) (f1 gNeg fa) := e_un un_neg rd_neg mo_gNeg ha
end
end Pl

namespace Pl
open PySem PySem.Spec PyProof.Rows L2

/-! ### the model's own data -/
mutual
def toPy : D → PyData
  | .non => .none
  | .bl b => .bool b
  | .int i => .int i
  | .str x => .str (S x)
  | .tup xs => .tuple (toPyA xs)
  | .lst xs => .list (toPyA xs)
  | .dk _ => .none
  | .ml _ => .none
  | .scr _ => .none
def toPyA : List D → List PyData
  | [] => []
  | x :: xs => toPy x :: toPyA xs
end
mutual
def okD : D → Bool
  | .non => true
  | .bl _ => true
  | .int _ => true
  | .str x => x.all (· < 1114112)
  | .tup xs => okA xs
  | .lst xs => okA xs
  | .dk _ => false
  | .ml _ => false
  | .scr _ => false
def okA : List D → Bool
  | [] => true
  | x :: xs => okD x && okA xs
end
mutual
def dep : D → Nat
  | .tup xs => depA xs + 1
  | .lst xs => depA xs + 1
  | .non => 0
  | .bl _ => 0
  | .int _ => 0
  | .str _ => 0
  | .dk _ => 0
  | .ml _ => 0
  | .scr _ => 0
def depA : List D → Nat
  | [] => 0
  | x :: xs => max (dep x) (depA xs)
end
/-- may be compared, shown -/
def sh (d : D) : Bool := okD d && decide (dep d ≤ 40)
mutual
theorem canLay_py : ∀ d : D, okD d = true → (toPy d).canLay0 = true
  | .non, _ => rfl
  | .bl _, _ => rfl
  | .int _, _ => rfl
  | .str x, h => by
    unfold okD at h
    unfold toPy PyData.canLay0 PyData.strOk S
    rw [← Array.all_toList]
    simpa using h
  | .tup xs, h => by
    unfold toPy PyData.canLay0
    exact canLay_pyA xs (by unfold okD at h; exact h)
  | .lst xs, h => by
    unfold toPy PyData.canLay0
    exact canLay_pyA xs (by unfold okD at h; exact h)
  | .dk _, h => by unfold okD at h; cases h
  | .ml _, h => by unfold okD at h; cases h
  | .scr _, h => by unfold okD at h; cases h
theorem canLay_pyA : ∀ d : List D, okA d = true → PyData.canLayAll0 (toPyA d) = true
  | [], _ => rfl
  | x :: xs, h => by
    unfold okA at h
    rw [Bool.and_eq_true] at h
    unfold toPyA PyData.canLayAll0
    rw [canLay_py x h.1, canLay_pyA xs h.2]
    rfl
end
mutual
theorem depth_py : ∀ d : D, (toPy d).depth = dep d
  | .non => rfl
  | .bl _ => rfl
  | .int _ => rfl
  | .str x => rfl
  | .tup xs => by unfold toPy PyData.depth dep; rw [depth_pyA xs]
  | .lst xs => by unfold toPy PyData.depth dep; rw [depth_pyA xs]
  | .dk _ => rfl
  | .ml _ => rfl
  | .scr _ => rfl
theorem depth_pyA : ∀ d : List D, PyData.depthAll (toPyA d) = depA d
  | [] => rfl
  | x :: xs => by unfold toPyA PyData.depthAll depA; rw [depth_py x, depth_pyA xs]
end
theorem shaped_py {d : D} (h : sh d = true) : SeqAt.shaped (toPy d) = true := by
  unfold sh at h
  rw [Bool.and_eq_true] at h
  unfold SeqAt.shaped
  rw [canLay_py d h.1, depth_py, Bool.true_and]
  exact decide_eq_true (Nat.le_trans (of_decide_eq_true h.2) (by decide))
section
variable {K : Fg} {M : Ml} {H : Hp}
mutual
theorem Is.dp {K : Fg0} : ∀ {v : V} {d : D}, Is K M H v d → okD d = true → Dp K H v (toPy d)
  | _, _, .non, _ => .non
  | _, _, .bl b, _ => .bl b
  | _, _, .int i, _ => .int i
  | _, _, .str x _, _ => .str _
  | _, _, .tup h a _, k => .tup h (IsA.dp a (by unfold okD at k; exact k))
  | _, _, .lst h a _, k => .lst (.of h) (IsA.dp a (by unfold okD at k; exact k))
  | _, _, .dk _ _, k => by unfold okD at k; cases k
  | _, _, .ml _, k => by unfold okD at k; cases k
  | _, _, .scr _ _, k => by unfold okD at k; cases k
theorem IsA.dp {K : Fg0} : ∀ {v : List V} {d : List D}, IsA K M H v d → okA d = true → DpAll K H v (toPyA d)
  | _, _, .nil, _ => .nil
  | _, _, .cons h t, k => by
    unfold okA at k
    rw [Bool.and_eq_true] at k
    exact .cons (Is.dp h k.1) (IsA.dp t k.2)
end
end
section
variable {K : Fg} {M : Ml} {m : Addr → Prop} {H : Hp} {v : V} {d : D}
theorem IsT.dp {K : Fg0} (q : IsT K M m H v d) (h : sh d = true) : Dp K H v (toPy d) := by
  unfold sh at h
  rw [Bool.and_eq_true] at h
  rcases q with q | ⟨p, vs, ds, e1, e2, e3, _, a, _⟩ | ⟨p, vs, ds, e1, e2, e3, _, a⟩
  · exact (q.mono hid_all).dp h.1
  · subst e1; subst e2
    exact .lst (.of e3) ((a.mono hid_all).dp (by have := h.1; unfold okD at this; exact this))
  · subst e2; have := h.1; unfold okD at this; cases this
end
/-- == of plain data -/
def eqv (a b : D) : Bool := PyData.eqv (toPy a) (toPy b)

/-! ### == != -/
def gEq (neg : Bool) : F2 := fun a b Q => match a, b with
  | .str x, .str y => Q (.bl (neg ^^ decide (x = y)))
  | a, b => sh a = true ∧ sh b = true ∧ Q (.bl (neg ^^ eqv a b))
theorem mo_gEq {neg : Bool} : Mo2 (gEq neg) := fun a b Q Q' h q => by
  unfold gEq at q ⊢
  split at q
  · exact h _ q
  · exact ⟨q.1, q.2.1, h _ q.2.2⟩
theorem rd_eq {K : Fg0} : R2d K (fun x y H Q => rEq x y H Q ∨ rEqD K x y H Q) (gEq false) := fun M m H x y a b Q h ia ib q => by
  unfold gEq at q
  split at q
  · rename_i s t
    obtain ⟨e1, _⟩ := ia.str
    obtain ⟨e2, _⟩ := ib.str
    subst e1; subst e2
    refine .inl ⟨rfl, ?_⟩
    have e : decide (V.str (S s) = V.str (S t)) = decide (s = t) := by
      by_cases z : s = t
      · subst z; simp
      · rw [decide_eq_false z, decide_eq_false fun q => z (S_inj.mp (V.str.inj q))]
    rw [e]
    simpa using Wn.bl h q
  · exact .inr ⟨_, _, ia.dp q.1, ib.dp q.2.1, shaped_py q.1, shaped_py q.2.1, by have z := Wn.bl h q.2.2; unfold eqv at z; simpa using z⟩
theorem rd_ne {K : Fg0} : R2d K (fun x y H Q => rNe x y H Q ∨ rNeD K x y H Q) (gEq true) := fun M m H x y a b Q h ia ib q => by
  unfold gEq at q
  split at q
  · rename_i s t
    obtain ⟨e1, _⟩ := ia.str
    obtain ⟨e2, _⟩ := ib.str
    subst e1; subst e2
    refine .inl ⟨rfl, ?_⟩
    have e : decide (V.str (S s) = V.str (S t)) = decide (s = t) := by
      by_cases z : s = t
      · subst z; simp
      · rw [decide_eq_false z, decide_eq_false fun q => z (S_inj.mp (V.str.inj q))]
    rw [e]
    simpa using Wn.bl h q
  · exact .inr ⟨_, _, ia.dp q.1, ib.dp q.2.1, shaped_py q.1, shaped_py q.2.1, by have z := Wn.bl h q.2.2; unfold eqv at z; simpa using z⟩

/-! ### < <= > >= -/
/-- may be ordered -/
def cmpOk (a b : D) : Bool := okD a && okD b && PySem.W.alike (toPy a) (toPy b) && decide (dep a ≤ 40)
def ltD (a b : D) : Bool := PySem.W.dataLt (toPy a) (toPy b)
/-- of ints, of texts, of data that are alike -/
def gCmp (ci : Int → Int → Bool) (cs : List Nat → List Nat → Bool) (cd : D → D → Bool) : F2 := fun a b Q => match a, b with
  | .int i, .int j => Q (.bl (ci i j))
  | .str x, .str y => Q (.bl (cs x y))
  | .tup x, .tup y => cmpOk (.tup x) (.tup y) = true ∧ Q (.bl (cd (.tup x) (.tup y)))
  | .lst x, .lst y => cmpOk (.lst x) (.lst y) = true ∧ Q (.bl (cd (.lst x) (.lst y)))
  | _, _ => False
theorem mo_gCmp {ci : Int → Int → Bool} {cs : List Nat → List Nat → Bool} {cd : D → D → Bool} : Mo2 (gCmp ci cs cd) := fun a b Q Q' h q => by
  unfold gCmp at q ⊢
  split at q
  · exact h _ q
  · exact h _ q
  · exact ⟨q.1, h _ q.2⟩
  · exact ⟨q.1, h _ q.2⟩
  · exact q
def rStr2 (c : List Nat → List Nat → Bool) : R2 := fun x y H Q => ∃ i j, x = .str i ∧ y = .str j ∧ Q (.bl (c i.cps.toList j.cps.toList)) H
def rDat (K : Fg0) (c : PyData → PyData → Bool) : R2 := fun x y H Q => ∃ d e, Dp K H x d ∧ Dp K H y e ∧ PySem.W.alike d e = true ∧ d ≠ .none ∧ d.depth ≤ 40 ∧ Q (.bl (c d e)) H
theorem okD_and {a b : D} (h : cmpOk a b = true) : okD a = true ∧ okD b = true ∧ PySem.W.alike (toPy a) (toPy b) = true ∧ dep a ≤ 40 := by
  unfold cmpOk at h
  simp only [Bool.and_eq_true, decide_eq_true_eq] at h
  exact ⟨h.1.1.1, h.1.1.2, h.1.2, h.2⟩
theorem IsT.dpO {K : Fg0} {M : Ml} {m : Addr → Prop} {H : Hp} {v : V} {d : D} (q : IsT K M m H v d) (h : okD d = true) : Dp K H v (toPy d) := by
  rcases q with q | ⟨p, vs, ds, e1, e2, e3, _, a, _⟩ | ⟨p, vs, ds, e1, e2, e3, _, a⟩
  · exact (q.mono hid_all).dp h
  · subst e1; subst e2
    exact .lst (.of e3) ((a.mono hid_all).dp (by unfold okD at h; exact h))
  · subst e2; unfold okD at h; cases h
theorem rd_cmp {K : Fg0} {ci : Int → Int → Bool} {cs : List Nat → List Nat → Bool} {cd : D → D → Bool} {cp : PyData → PyData → Bool} (hc : ∀ a b, cd a b = cp (toPy a) (toPy b)) : R2d K (fun x y H Q => (rI0 (fun i j => .bl (ci i j)) x y H Q ∨ rStr2 cs x y H Q) ∨ rDat K cp x y H Q) (gCmp ci cs cd) := fun M m H x y a b Q h ia ib q => by
  unfold gCmp at q
  split at q
  · exact .inl (.inl ⟨_, _, ia.int, ib.int, Wn.bl h q⟩)
  · exact .inl (.inr ⟨_, _, ia.str.1, ib.str.1, by rw [S_list, S_list]; exact Wn.bl h q⟩)
  · obtain ⟨k, q⟩ := q
    obtain ⟨k1, k2, k3, k4⟩ := okD_and k
    refine .inr ⟨_, _, ia.dpO k1, ib.dpO k2, k3, (by unfold toPy; exact fun z => nomatch z), by rw [depth_py]; exact k4, ?_⟩
    rw [← hc]
    exact Wn.bl h q
  · obtain ⟨k, q⟩ := q
    obtain ⟨k1, k2, k3, k4⟩ := okD_and k
    refine .inr ⟨_, _, ia.dpO k1, ib.dpO k2, k3, (by unfold toPy; exact fun z => nomatch z), by rw [depth_py]; exact k4, ?_⟩
    rw [← hc]
    exact Wn.bl h q
  · exact q.elim
def gLt : F2 := gCmp (fun i j => decide (i < j)) (fun x y => decide (x < y)) ltD
def gLe : F2 := gCmp (fun i j => decide (i ≤ j)) (fun x y => !decide (y < x)) fun a b => !ltD b a
def gGt : F2 := gCmp (fun i j => decide (j < i)) (fun x y => decide (y < x)) fun a b => ltD b a
def gGe : F2 := gCmp (fun i j => decide (j ≤ i)) (fun x y => !decide (x < y)) fun a b => !ltD a b
/-- is None -/
def gIsN (neg : Bool) : F1 := fun a Q => match a with
  | .non => Q (.bl (!neg))
  | _ => Q (.bl neg)
theorem mo_gIsN {neg : Bool} : Mo1 (gIsN neg) := fun a Q Q' h q => by
  unfold gIsN at q ⊢
  split at q <;> exact h _ q
theorem IsT.ne_non {K : Fg0} {M : Ml} {m : Addr → Prop} {H : Hp} {v : V} {d : D} (q : IsT K M m H v d) (n : d ≠ .non) : v ≠ .non := by
  rcases q with q | ⟨p, vs, ds, e1, e2, _⟩ | ⟨p, vs, ds, e1, e2, _⟩
  · cases q with
    | non => exact absurd rfl n
    | bl b => intro z; cases z
    | int i => intro z; cases z
    | str x _ => intro z; cases z
    | tup _ _ _ => intro z; cases z
    | lst _ _ _ => intro z; cases z
    | dk _ _ => intro z; cases z
    | ml _ => intro z; cases z
    | scr _ _ => intro z; cases z
  · rw [e1]; intro z; cases z
  · rw [e1]; intro z; cases z
section
variable {K : Fg} {X : Cx} {a b : Expr} {ta tb : TE} {fa fb : FE} {pos : Pos}
theorem op_le_str' : OpR X (compareOp .LtE) (rStr2 fun x y => !decide (y < x)) := fun pins s σ H x y v u Q I r1 r2 ⟨i, j, e1, e2, q⟩ => op_le_str pins s σ H x y v u Q I r1 r2 ⟨i, j, e1, e2, q⟩
theorem op_gt_str' : OpR X (compareOp .Gt) (rStr2 fun x y => decide (y < x)) := fun pins s σ H x y v u Q I r1 r2 ⟨i, j, e1, e2, q⟩ => op_gt_str pins s σ H x y v u Q I r1 r2 ⟨i, j, e1, e2, q⟩
theorem op_ge_str' : OpR X (compareOp .GtE) (rStr2 fun x y => !decide (x < y)) := fun pins s σ H x y v u Q I r1 r2 ⟨i, j, e1, e2, q⟩ => op_ge_str pins s σ H x y v u Q I r1 r2 ⟨i, j, e1, e2, q⟩
theorem op_lt_str' : OpR X (compareOp .Lt) (rStr2 fun x y => decide (x < y)) := fun pins s σ H x y v u Q I r1 r2 ⟨i, j, e1, e2, q⟩ => op_lt_str pins s σ H x y v u Q I r1 r2 ⟨i, j, e1, e2, q⟩
abbrev dLt : PyData → PyData → Bool := PySem.W.dataLt
abbrev rLtS (K : Fg0) : R2 := fun x y H Q => (rI0 (fun i j => .bl (decide (i < j))) x y H Q ∨ rStr2 (fun x y => decide (x < y)) x y H Q) ∨ rDat K dLt x y H Q
abbrev rLeS (K : Fg0) : R2 := fun x y H Q => (rI0 (fun i j => .bl (decide (i ≤ j))) x y H Q ∨ rStr2 (fun x y => !decide (y < x)) x y H Q) ∨ rDat K (fun a b => !dLt b a) x y H Q
abbrev rGtS (K : Fg0) : R2 := fun x y H Q => (rI0 (fun i j => .bl (decide (j < i))) x y H Q ∨ rStr2 (fun x y => decide (y < x)) x y H Q) ∨ rDat K (fun a b => dLt b a) x y H Q
abbrev rGeS (K : Fg0) : R2 := fun x y H Q => (rI0 (fun i j => .bl (decide (j ≤ i))) x y H Q ∨ rStr2 (fun x y => !decide (x < y)) x y H Q) ∨ rDat K (fun a b => !dLt a b) x y H Q
theorem op_dat {op : CmpOp} {c : PyData → PyData → Bool} (hu : X.A.units + 64 < cLine) (h : ∀ (s : Shared) (a b : Value) (da db : PyData) (as bs : List Addr) (Q E : Value → Shared → Prop), PySem.Reads s.heap a da as → PySem.Reads s.heap b db bs → PySem.W.alike da db = true → da ≠ .none → X.A.units + min da.depth db.depth < cLine → Q (.bool (c da db)) s →
    wpAny (model X.prog X.w) X.A (compareOp op a b) Q E s) : OpR X (compareOp op) (rDat X.K c) := by
  intro pins s σ H x y v u Q I rx ry ⟨d, e, hd, he, ha, hn, hz, q⟩
  obtain ⟨as, r1⟩ := Dp.reads I d x v hd rx
  obtain ⟨bs, r2⟩ := Dp.reads I e y u he ry
  exact h s v u d e as bs _ _ r1 r2 ha hn (by have := Nat.min_le_left d.depth e.depth; omega) ⟨.bl (c d e), H, I, rfl, q⟩
theorem op_ltS (hu : X.A.units + 64 < cLine) : OpR X (compareOp .Lt) (rLtS X.K) := (op_lt.or op_lt_str').or (op_dat hu fun s a b da db as bs Q E r1 r2 h1 h2 h3 q => PySem.W.lt_data r1 r2 h1 h2 h3 q)
theorem op_leS (hu : X.A.units + 64 < cLine) : OpR X (compareOp .LtE) (rLeS X.K) := (op_le.or op_le_str').or (op_dat hu fun s a b da db as bs Q E r1 r2 h1 h2 h3 q => PySem.W.le_data r1 r2 h1 h2 h3 q)
theorem op_gtS (hu : X.A.units + 64 < cLine) : OpR X (compareOp .Gt) (rGtS X.K) := (op_gt.or op_gt_str').or (op_dat hu fun s a b da db as bs Q E r1 r2 h1 h2 h3 q => PySem.W.gt_data r1 r2 h1 h2 h3 q)
theorem op_geS (hu : X.A.units + 64 < cLine) : OpR X (compareOp .GtE) (rGeS X.K) := (op_ge.or op_ge_str').or (op_dat hu fun s a b da db as bs Q E r1 r2 h1 h2 h3 q => PySem.W.ge_data r1 r2 h1 h2 h3 q)
abbrev rEqS (K : Fg0) : R2 := fun x y H Q => rEq x y H Q ∨ rEqD K x y H Q
abbrev rNeS (K : Fg0) : R2 := fun x y H Q => rNe x y H Q ∨ rNeD K x y H Q
/-- an operator of a comparison with its reading -/
structure CR (K : Fg0) (X : Cx) (op : CmpOp) (r : R2) (g : F2) : Prop where
  op : OpR X (compareOp op) r
  rd : R2d K r g
  mo : Mo2 g
theorem c_lt {K : Fg0} (hu : X.A.units + 64 < cLine) (hK : X.K = K := by rfl) : CR K X .Lt (rLtS K) gLt := by
  subst hK
  exact ⟨op_ltS hu, rd_cmp fun _ _ => rfl, mo_gCmp⟩
theorem c_le {K : Fg0} (hu : X.A.units + 64 < cLine) (hK : X.K = K := by rfl) : CR K X .LtE (rLeS K) gLe := by
  subst hK
  exact ⟨op_leS hu, rd_cmp fun _ _ => rfl, mo_gCmp⟩
theorem c_gt {K : Fg0} (hu : X.A.units + 64 < cLine) (hK : X.K = K := by rfl) : CR K X .Gt (rGtS K) gGt := by
  subst hK
  exact ⟨op_gtS hu, rd_cmp fun _ _ => rfl, mo_gCmp⟩
theorem c_ge {K : Fg0} (hu : X.A.units + 64 < cLine) (hK : X.K = K := by rfl) : CR K X .GtE (rGeS K) gGe := by
  subst hK
  exact ⟨op_geS hu, rd_cmp fun _ _ => rfl, mo_gCmp⟩
theorem c_eq {K : Fg0} (hu : X.A.units + 64 < cLine) (hK : X.K = K := by rfl) : CR K X .Eq (rEqS K) (gEq false) := by
  subst hK
  exact ⟨op_eq.or (op_eqD hu), rd_eq, mo_gEq⟩
theorem c_ne {K : Fg0} (hu : X.A.units + 64 < cLine) (hK : X.K = K := by rfl) : CR K X .NotEq (rNeS K) (gEq true) := by
  subst hK
  exact ⟨op_ne.or (op_neD hu), rd_ne, mo_gEq⟩
theorem c_isN {K : Fg0} : CR K X .Is (fun x y H Q => y = .non ∧ Q (.bl (decide (x = .non))) H) (fun a b Q => b = .non ∧ gIsN false a Q) := by
  refine ⟨op_isN, fun M m H x y a b Q h ia ib q => ?_, fun a b Q Q' h q => ⟨q.1, mo_gIsN _ _ _ h q.2⟩⟩
  obtain ⟨e, q⟩ := q
  subst e
  refine ⟨ib.non, ?_⟩
  unfold gIsN at q
  split at q
  · rw [ia.non]; simpa using Wn.bl h q
  · rename_i n
    rw [decide_eq_false (ia.ne_non fun z => n z)]
    exact Wn.bl h q
theorem c_notN {K : Fg0} : CR K X .IsNot (fun x y H Q => y = .non ∧ Q (.bl (!decide (x = .non))) H) (fun a b Q => b = .non ∧ gIsN true a Q) := by
  refine ⟨op_notN, fun M m H x y a b Q h ia ib q => ?_, fun a b Q Q' h q => ⟨q.1, mo_gIsN _ _ _ h q.2⟩⟩
  obtain ⟨e, q⟩ := q
  subst e
  refine ⟨ib.non, ?_⟩
  unfold gIsN at q
  split at q
  · rw [ia.non]; simpa using Wn.bl h q
  · rename_i n
    rw [decide_eq_false (ia.ne_non fun z => n z)]
    exact Wn.bl h q
/-- as a value -/
theorem e_cp {op : CmpOp} {r : R2} {g : F2} (c : CR K X op r g) (ha : DT K X a ta fa) (hb : DT K X b tb fb) (hm : behindInMarks op b = false := by rfl) : DE K X (.Compare a [op] [b] pos) (tOp r ta tb) (f2 g fa fb) := e_cmp c.op c.rd c.mo ha hb hm
end
end Pl

namespace Pl
open PySem PySem.Spec PyProof.Rows L2

/-! ### tests -/
abbrev FB := En → (Bool → Prop) → Prop
def RdB (K : Fg) (t : TT) (f : FB) : Prop := ∀ (M : Ml) H0 z m H σ ρ (Q : Bool → Hp → Prop), EnOk K M H0 z m H σ ρ → f ρ (fun b => ∀ H', Stp M H H' → Q b H') → t σ H Q
def MoB (f : FB) : Prop := ∀ ρ (Q Q' : Bool → Prop), (∀ d, Q d → Q' d) → f ρ Q → f ρ Q'
structure DB (K : Fg) (X : Cx) (e : Expr) (t : TT) (f : FB) : Prop where
  pt : PT X e t
  rd : RdB K t f
  mo : MoB f
structure DW (K : Fg) (X : Cx) (e : Expr) (t : TT) (f : FB) : Prop where
  pw : PW X e t
  rd : RdB K t f
  mo : MoB f
/-- a value that is a bool -/
def bB (f : FE) : FB := fun ρ Q => f ρ fun d => match d with
  | .bl b => Q b
  | _ => False
theorem mo_bB {f : FE} (h : MoE f) : MoB (bB f) := fun ρ Q Q' k q => h ρ _ _ (fun d q => by
  cases d <;> first | exact k _ q | exact q) q
theorem rd_bB {K : Fg} {t : TE} {f : FE} (h : RdT K t f) (mo : MoE f) : RdB K (tB t) (bB f) := fun M H0 z m H σ ρ Q I q =>
  h M H0 z m H σ ρ _ I (mo ρ _ _ (fun d q v H' s i => by
    cases d with
    | bl b => exact ⟨b, i.bl, q H' s⟩
    | _ => exact q.elim) q)
def bAnd (f g : FB) : FB := fun ρ Q => f ρ fun c => ifB c (g ρ Q) (Q false)
def bOr (f g : FB) : FB := fun ρ Q => f ρ fun c => ifB c (Q true) (g ρ Q)
def bNot (f : FB) : FB := fun ρ Q => f ρ fun c => Q (!c)
theorem mo_bAnd {f g : FB} (hf : MoB f) (hg : MoB g) : MoB (bAnd f g) := fun ρ Q Q' k q => hf ρ _ _ (fun c q => by
  cases c
  · simp only [Bool.false_eq_true, if_false, ifB_false] at q ⊢; exact k _ q
  · simp only [if_true, ifB_true] at q ⊢; exact hg ρ _ _ k q) q
theorem mo_bOr {f g : FB} (hf : MoB f) (hg : MoB g) : MoB (bOr f g) := fun ρ Q Q' k q => hf ρ _ _ (fun c q => by
  cases c
  · simp only [Bool.false_eq_true, if_false, ifB_false] at q ⊢; exact hg ρ _ _ k q
  · simp only [if_true, ifB_true] at q ⊢; exact k _ q) q
theorem mo_bNot {f : FB} (hf : MoB f) : MoB (bNot f) := fun ρ Q Q' k q => hf ρ _ _ (fun c q => k _ q) q
theorem rd_bAnd {K : Fg} {t u : TT} {f g : FB} (hf : RdB K t f) (mf : MoB f) (hg : RdB K u g) (mg : MoB g) : RdB K (tAnd t u) (bAnd f g) := fun M H0 z m H σ ρ Q I q =>
  hf M H0 z m H σ ρ _ I (mf ρ _ _ (fun c q H1 s1 => by
    cases c
    · simp only [Bool.false_eq_true, if_false, ifB_false] at q ⊢; exact q H1 s1
    · simp only [if_true, ifB_true] at q ⊢
      exact hg M H0 z m H1 σ ρ Q (I.step s1) (mg ρ _ _ (fun b q H2 s2 => q H2 (s1.trans s2)) q)) q)
theorem rd_bOr {K : Fg} {t u : TT} {f g : FB} (hf : RdB K t f) (mf : MoB f) (hg : RdB K u g) (mg : MoB g) : RdB K (tOr t u) (bOr f g) := fun M H0 z m H σ ρ Q I q =>
  hf M H0 z m H σ ρ _ I (mf ρ _ _ (fun c q H1 s1 => by
    cases c
    · simp only [Bool.false_eq_true, if_false, ifB_false] at q ⊢
      exact hg M H0 z m H1 σ ρ Q (I.step s1) (mg ρ _ _ (fun b q H2 s2 => q H2 (s1.trans s2)) q)
    · simp only [if_true, ifB_true] at q ⊢; exact q H1 s1) q)
theorem rd_bNot {K : Fg} {t : TT} {f : FB} (hf : RdB K t f) (mf : MoB f) : RdB K (tNot t) (bNot f) := fun M H0 z m H σ ρ Q I q =>
  hf M H0 z m H σ ρ _ I (mf ρ _ _ (fun c q H1 s1 => q H1 s1) q)
section
variable {K : Fg} {X : Cx} {e a b : Expr} {ta tb : TE} {fa fb : FE} {t u : TT} {f g : FB} {pos : Pos} {rest : List Expr}
theorem b_val (h : DT K X e ta fa) (he : ∀ whole, isTrue e X.env whole = (do let v ← whole; standAt e.pos; holding [v] (truthy v)) := by intro _; rfl) : DB K X e (tB ta) (bB fa) := ⟨pt_val h.pe he, rd_bB h.rd h.mo, mo_bB h.mo⟩
theorem b_cp {op : CmpOp} {r : R2} {g : F2} (c : CR K X op r g) (ha : DT K X a ta fa) (hb : DT K X b tb fb) (hm : behindInMarks op b = false := by rfl) : DB K X (.Compare a [op] [b] pos) (tTest (tOp r ta tb)) (bB (f2 g fa fb)) :=
  ⟨pt_cmpR c.op ha.pe hb.pe hm, rd_bB (e_cp (pos := pos) c ha hb hm).top.rd (mo_f2 c.mo ha.mo hb.mo), mo_bB (mo_f2 c.mo ha.mo hb.mo)⟩
theorem w_and1 (h : DB K X a t f) : DW K X (.BoolOp .And [a] pos) t f := ⟨pw_and1 h.pt, h.rd, h.mo⟩
theorem w_or1 (h : DB K X a t f) : DW K X (.BoolOp .Or [a] pos) t f := ⟨pw_or1 h.pt, h.rd, h.mo⟩
theorem w_and (h : DB K X a t f) (k : DW K X (.BoolOp .And (b :: rest) pos) u g) : DW K X (.BoolOp .And (a :: b :: rest) pos) (tAnd t u) (bAnd f g) := ⟨pw_and h.pt k.pw, rd_bAnd h.rd h.mo k.rd k.mo, mo_bAnd h.mo k.mo⟩
theorem w_or (h : DB K X a t f) (k : DW K X (.BoolOp .Or (b :: rest) pos) u g) : DW K X (.BoolOp .Or (a :: b :: rest) pos) (tOr t u) (bOr f g) := ⟨pw_or h.pt k.pw, rd_bOr h.rd h.mo k.rd k.mo, mo_bOr h.mo k.mo⟩
theorem b_w (h : DW K X e t f) : DB K X e t f := ⟨h.pw.pt, h.rd, h.mo⟩
theorem b_not (h : DB K X a t f) : DB K X (.UnaryOp .Not a pos) (tNot t) (bNot f) := ⟨pt_not h.pt, rd_bNot h.rd h.mo, mo_bNot h.mo⟩
end

/-! ### and, or, not as values (bools); conditional expressions -/
def vB (f : FB) : FE := fun ρ Q => f ρ fun b => Q (.bl b)
/-- and: the last one may be anything -/
def vAnd (f g : FE) : FE := fun ρ Q => f ρ fun d => match d with
  | .bl true => g ρ Q
  | .bl false => Q (.bl false)
  | _ => False
def vOr (f g : FE) : FE := fun ρ Q => f ρ fun d => match d with
  | .bl false => g ρ Q
  | .bl true => Q (.bl true)
  | _ => False
def vNot (f : FE) : FE := fun ρ Q => f ρ fun d => match d with
  | .bl b => Q (.bl (!b))
  | _ => False
def vIf (c : FB) (f g : FE) : FE := fun ρ Q => c ρ fun b => ifB b (f ρ Q) (g ρ Q)
theorem mo_vAnd {f g : FE} (hf : MoE f) (hg : MoE g) : MoE (vAnd f g) := fun ρ Q Q' k q => hf ρ _ _ (fun d q => by
  cases d with
  | bl b => cases b; exact k _ q; exact hg ρ _ _ k q
  | _ => exact q) q
theorem mo_vOr {f g : FE} (hf : MoE f) (hg : MoE g) : MoE (vOr f g) := fun ρ Q Q' k q => hf ρ _ _ (fun d q => by
  cases d with
  | bl b => cases b; exact hg ρ _ _ k q; exact k _ q
  | _ => exact q) q
theorem mo_vNot {f : FE} (hf : MoE f) : MoE (vNot f) := fun ρ Q Q' k q => hf ρ _ _ (fun d q => by
  cases d with
  | bl b => exact k _ q
  | _ => exact q) q
theorem mo_vIf {c : FB} {f g : FE} (hc : MoB c) (hf : MoE f) (hg : MoE g) : MoE (vIf c f g) := fun ρ Q Q' k q => hc ρ _ _ (fun b q => by
  cases b
  · simp only [Bool.false_eq_true, if_false, ifB_false] at q ⊢; exact hg ρ _ _ k q
  · simp only [if_true, ifB_true] at q ⊢; exact hf ρ _ _ k q) q
section
variable {K : Fg} {X : Cx} {e a b c : Expr} {ta tb : TE} {fa fb : FE} {t u : TT} {f g : FB} {pos : Pos} {rest : List Expr}
theorem e_one {op} (h : DE K X a ta fa) : DE K X (.BoolOp op [a] pos) ta fa := ⟨pe_one h.pe, h.rd, h.mo⟩
theorem e_and (h : DT K X a ta fa) (k : DE K X (.BoolOp .And (b :: rest) pos) tb fb) : DE K X (.BoolOp .And (a :: b :: rest) pos) (tAndV ta tb) (vAnd fa fb) := by
  refine ⟨pe_and h.pe k.pe, fun M H0 z m H σ ρ Q I q => ?_, mo_vAnd h.mo k.mo⟩
  refine h.rd M H0 z m H σ ρ _ I (h.mo ρ _ _ (fun d q v H' s i => ?_) q)
  cases d with
  | bl b =>
    refine ⟨b, i.bl, ?_⟩
    cases b
    · rw [if_neg Bool.false_ne_true]; exact Wn.bl (I.hx.step s) (Wn.mono s q)
    · rw [if_pos rfl]
      exact k.rd M H0 z m H' σ ρ Q (I.step s) (k.mo ρ _ _ (fun d q => Wn.mono s q) q)
  | _ => exact q.elim
theorem e_or (h : DT K X a ta fa) (k : DE K X (.BoolOp .Or (b :: rest) pos) tb fb) : DE K X (.BoolOp .Or (a :: b :: rest) pos) (tOrV ta tb) (vOr fa fb) := by
  refine ⟨pe_or h.pe k.pe, fun M H0 z m H σ ρ Q I q => ?_, mo_vOr h.mo k.mo⟩
  refine h.rd M H0 z m H σ ρ _ I (h.mo ρ _ _ (fun d q v H' s i => ?_) q)
  cases d with
  | bl b =>
    refine ⟨b, i.bl, ?_⟩
    cases b
    · rw [if_neg Bool.false_ne_true]
      exact k.rd M H0 z m H' σ ρ Q (I.step s) (k.mo ρ _ _ (fun d q => Wn.mono s q) q)
    · rw [if_pos rfl]; exact Wn.bl (I.hx.step s) (Wn.mono s q)
  | _ => exact q.elim
theorem e_not (h : DT K X a ta fa) : DE K X (.UnaryOp .Not a pos) (tNotV ta) (vNot fa) := by
  refine ⟨pe_not h.pe, fun M H0 z m H σ ρ Q I q => ?_, mo_vNot h.mo⟩
  refine h.rd M H0 z m H σ ρ _ I (h.mo ρ _ _ (fun d q v H' s i => ?_) q)
  cases d with
  | bl b => exact ⟨b, i.bl, Wn.bl (I.hx.step s) (Wn.mono s q)⟩
  | _ => exact q.elim
theorem e_if (hc : DB K X c t f) (ha : DE K X a ta fa) (hb : DE K X b tb fb) : DE K X (.IfExp c a b pos) (tIf t ta tb) (vIf f fa fb) := by
  refine ⟨pe_ifExp hc.pt ha.pe hb.pe, fun M H0 z m H σ ρ Q I q => ?_, mo_vIf hc.mo ha.mo hb.mo⟩
  refine hc.rd M H0 z m H σ ρ _ I (hc.mo ρ _ _ (fun d q H' s => ?_) q)
  cases d
  · rw [ifB_false] at q
    rw [if_neg Bool.false_ne_true]
    exact hb.rd M H0 z m H' σ ρ Q (I.step s) (hb.mo ρ _ _ (fun d q => Wn.mono s q) q)
  · rw [ifB_true] at q
    rw [if_pos rfl]
    exact ha.rd M H0 z m H' σ ρ Q (I.step s) (ha.mo ρ _ _ (fun d q => Wn.mono s q) q)
end
/-- a op b op' c -/
def f3 (g g' : F2) (fa fb fc : FE) : FE := fun ρ Q => fa ρ fun x => fb ρ fun y => g x y fun d => match d with
  | .bl true => fc ρ fun w => g' y w Q
  | .bl false => Q (.bl false)
  | _ => False
section
variable {K : Fg} {X : Cx} {a b c0 : Expr} {ta tb tc : TE} {fa fb fc : FE} {op op' : CmpOp} {r r' : R2} {g g' : F2} {pos : Pos}
theorem mo_f3 (hg : Mo2 g) (hg' : Mo2 g') (ha : MoE fa) (hb : MoE fb) (hc : MoE fc) : MoE (f3 g g' fa fb fc) := fun ρ Q Q' h q => ha ρ _ _ (fun x q => hb ρ _ _ (fun y q => hg x y _ _ (fun d q => by
  cases d with
  | bl b => cases b; exact h _ q; exact hc ρ _ _ (fun w q => hg' y w _ _ h q) q
  | _ => exact q) q) q) q
theorem rd_f3 (ra : RdT K ta fa) (rb : RdT K tb fb) (rc : RdT K tc fc) (ma : MoE fa) (mb : MoE fb) (mc : MoE fc) (c : R2d K r g) (c' : R2d K r' g') (hg : Mo2 g) (hg' : Mo2 g') : RdE K (tChain r r' ta tb tc) (f3 g g' fa fb fc) := fun M H0 z m H σ ρ Q I q => by
  refine ra M H0 z m H σ ρ _ I (ma ρ _ _ (fun x q v H1 s1 i1 => ?_) q)
  refine rb M H0 z m H1 σ ρ _ (I.step s1) (mb ρ _ _ (fun y q u H2 s2 i2 => ?_) q)
  have h2 : Hx M m H2 := I.hx.step (s1.trans s2)
  refine c M m H2 v u x y _ h2 (i1.step (I.hx.step s1) s2) i2 (hg x y _ _ (fun d q w H3 s3 i3 => ?_) q)
  cases d with
  | bl b =>
    cases i3
    refine ⟨b, rfl, ?_⟩
    cases b
    · rw [if_neg Bool.false_ne_true]; exact Wn.bl (h2.step s3) (Wn.mono ((s1.trans s2).trans s3) q)
    · rw [if_pos rfl]
      refine rc M H0 z m H3 σ ρ _ ((I.step (s1.trans s2)).step s3) (mc ρ _ _ (fun w q wv H4 s4 i4 => ?_) q)
      exact c' M m H4 u wv y w Q ((h2.step s3).step s4) ((i2.step h2 s3).step (h2.step s3) s4) i4 (hg' y w _ _ (fun d q => Wn.mono (((s1.trans s2).trans s3).trans s4) q) q)
  | _ => exact q.elim
theorem e_chain (c : CR K X op r g) (c' : CR K X op' r' g') (ha : DT K X a ta fa) (hb : DT K X b tb fb) (hc : DT K X c0 tc fc) (hm : lastMarks [op, op'] [b, c0] = false := by with_unfolding_all rfl) : DE K X (.Compare a [op, op'] [b, c0] pos) (tChain r r' ta tb tc) (f3 g g' fa fb fc) :=
  ⟨pe_chain c.op c'.op ha.pe hb.pe hc.pe hm, rd_f3 ha.rd hb.rd hc.rd ha.mo hb.mo hc.mo c.rd c'.rd c.mo c'.mo, mo_f3 c.mo c'.mo ha.mo hb.mo hc.mo⟩
theorem b_chain (c : CR K X op r g) (c' : CR K X op' r' g') (ha : DT K X a ta fa) (hb : DT K X b tb fb) (hc : DT K X c0 tc fc) (hm : lastMarks [op, op'] [b, c0] = false := by with_unfolding_all rfl) : DB K X (.Compare a [op, op'] [b, c0] pos) (tTest (tChain r r' ta tb tc)) (bB (f3 g g' fa fb fc)) :=
  ⟨pt_chain c.op c'.op ha.pe hb.pe hc.pe hm, rd_bB (e_chain (pos := pos) c c' ha hb hc hm).top.rd (mo_f3 c.mo c'.mo ha.mo hb.mo hc.mo), mo_bB (mo_f3 c.mo c'.mo ha.mo hb.mo hc.mo)⟩
end

/-! ### arguments -/
inductive ITA (K : Fg0) (M : Ml) (m : Addr → Prop) (H : Hp) : List V → List D → Prop
  | nil : ITA K M m H [] []
  | cons {v : V} {vs : List V} {d : D} {ds : List D} : IsT K M m H v d → ITA K M m H vs ds → ITA K M m H (v :: vs) (d :: ds)
abbrev FA := En → (List D → Prop) → Prop
def RdA (K : Fg) (t : TA) (f : FA) : Prop := ∀ (M : Ml) H0 z m H σ ρ (Q : List V → Hp → Prop), EnOk K M H0 z m H σ ρ → f ρ (fun ds => ∀ vs H', Stp M H H' → IsA K M (hid m H') vs ds → Q vs H') → t σ H Q
def RdAT (K : Fg) (t : TA) (f : FA) : Prop := ∀ (M : Ml) H0 z m H σ ρ (Q : List V → Hp → Prop), EnOk K M H0 z m H σ ρ → f ρ (fun ds => ∀ vs H', Stp M H H' → ITA K M m H' vs ds → Q vs H') → t σ H Q
def MoA (f : FA) : Prop := ∀ ρ (Q Q' : List D → Prop), (∀ d, Q d → Q' d) → f ρ Q → f ρ Q'
def aNil : FA := fun _ Q => Q []
def aCons (f : FE) (g : FA) : FA := fun ρ Q => f ρ fun x => g ρ fun xs => Q (x :: xs)
theorem mo_aNil : MoA aNil := fun _ _ _ h q => h _ q
theorem mo_aCons {f : FE} {g : FA} (hf : MoE f) (hg : MoA g) : MoA (aCons f g) := fun ρ Q Q' h q => hf ρ _ _ (fun x q => hg ρ _ _ (fun xs q => h _ q) q) q
/-- how many -/
def Few (n : Nat) (g : FA) : Prop := ∀ ρ Q, g ρ Q → g ρ fun xs => xs.length = n ∧ Q xs
theorem few_nil : Few 0 aNil := fun ρ Q q => ⟨rfl, q⟩
theorem few_cons {n : Nat} {f : FE} {g : FA} (hf : MoE f) (mg : MoA g) (h : Few n g) : Few (n + 1) (aCons f g) := fun ρ Q q => hf ρ _ _ (fun x q => mg ρ _ _ (fun xs q => ⟨by rw [List.length_cons, q.1], q.2⟩) (h ρ _ q)) q
theorem Few.line {n : Nat} {g : FA} (h : Few n g) (mg : MoA g) (hn : n ≤ sizeLine := by decide) : ∀ ρ Q, g ρ Q → g ρ fun xs => xs.length ≤ sizeLine ∧ Q xs := fun ρ Q q => mg ρ _ _ (fun xs q => ⟨by rw [q.1]; exact hn, q.2⟩) (h ρ Q q)
structure DA (K : Fg) (X : Cx) (es : List Expr) (t : TA) (f : FA) : Prop where
  pa : PA X es t
  rd : RdA K t f
  mo : MoA f
  few : Few es.length f
structure DAT (K : Fg) (X : Cx) (es : List Expr) (t : TA) (f : FA) : Prop where
  pa : PA X es t
  rd : RdAT K t f
  mo : MoA f
section
variable {K : Fg} {X : Cx} {e : Expr} {es : List Expr} {te : TE} {t : TA} {f : FE} {g : FA}
theorem a_nil : DA K X [] tNil aNil := ⟨pa_nil, fun M H0 z m H σ ρ Q I q => q [] H I.hx.rfl .nil, mo_aNil, few_nil⟩
theorem a_cons (h : DE K X e te f) (k : DA K X es t g) (hs : starEach (e :: es) X.env = (false, eval e X.env) :: starEach es X.env := by rfl) : DA K X (e :: es) (tCons te t) (aCons f g) :=
  ⟨pa_cons h.pe k.pa hs, fun M H0 z m H σ ρ Q I q => h.rd M H0 z m H σ ρ _ I (h.mo ρ _ _ (fun x q v H1 s1 i1 => k.rd M H0 z m H1 σ ρ _ (I.step s1) (k.mo ρ _ _ (fun xs q vs H2 s2 i2 => q (v :: vs) H2 (s1.trans s2) (.cons (i1.mono ((I.hx.step s1).same s2)) i2)) q)) q), mo_aCons h.mo k.mo, few_cons h.mo k.mo k.few⟩
theorem at_nil : DAT K X [] tNil aNil := ⟨pa_nil, fun M H0 z m H σ ρ Q I q => q [] H I.hx.rfl .nil, mo_aNil⟩
theorem at_cons (h : DT K X e te f) (k : DAT K X es t g) (hs : starEach (e :: es) X.env = (false, eval e X.env) :: starEach es X.env := by rfl) : DAT K X (e :: es) (tCons te t) (aCons f g) :=
  ⟨pa_cons h.pe k.pa hs, fun M H0 z m H σ ρ Q I q => h.rd M H0 z m H σ ρ _ I (h.mo ρ _ _ (fun x q v H1 s1 i1 => k.rd M H0 z m H1 σ ρ _ (I.step s1) (k.mo ρ _ _ (fun xs q vs H2 s2 i2 => q (v :: vs) H2 (s1.trans s2) (.cons (i1.step (I.hx.step s1) s2) i2)) q)) q), mo_aCons h.mo k.mo⟩
end

/-! ### displays -/
def vTup (g : FA) : FE := fun ρ Q => g ρ fun xs => Q (.tup xs)
def vLst (g : FA) : FE := fun ρ Q => g ρ fun xs => Q (.lst xs)
theorem mo_vTup {g : FA} (h : MoA g) : MoE (vTup g) := fun ρ Q Q' k q => h ρ _ _ (fun xs q => k _ q) q
theorem mo_vLst {g : FA} (h : MoA g) : MoE (vLst g) := fun ρ Q Q' k q => h ρ _ _ (fun xs q => k _ q) q
/-- a list just made -/
def RdF (K : Fg) (t : TE) (f : En → (List D → Prop) → Prop) : Prop := ∀ (M : Ml) H0 z m H σ ρ (Q : VK), EnOk K M H0 z m H σ ρ → f ρ (fun ds => ∀ p vs H', Stp M H H' → H p = none → H' p = some (.lst vs) → IsA K M (hid (fun b => m b ∨ b = p) H') vs ds → ds.length ≤ sizeLine → Q (.ref p) H') → t σ H Q
structure DF (K : Fg) (X : Cx) (e : Expr) (t : TE) (f : FA) : Prop where
  pe : PE X e t
  rd : RdF K t f
  mo : MoA f
section
variable {K : Fg} {X : Cx} {e : Expr} {es : List Expr} {te : TE} {t : TA} {f : FE} {g : FA} {pos : Pos}
/-- how many items a display has -/
theorem e_tup {x1} (h : DA K X es t g) (hl : es.length ≤ sizeLine := by decide) : DE K X (.Tuple es x1 pos) (tTup t) (vTup g) :=
  ⟨pe_tup h.pa, fun M H0 z m H σ ρ Q I q => h.rd M H0 z m H σ ρ _ I (h.mo ρ _ _ (fun xs q vs H1 s1 i1 => ⟨by rw [i1.length]; exact q.1, fun p np => Wn.tup (I.hx.step s1) (Wn.mono s1 q.2) np i1 q.1⟩) (h.few.line h.mo hl ρ _ q)), mo_vTup h.mo⟩
theorem DF.de (h : DF K X e te g) : DE K X e te (vLst g) :=
  ⟨h.pe, fun M H0 z m H σ ρ Q I q => h.rd M H0 z m H σ ρ _ I (h.mo ρ _ _ (fun ds q p vs H' s n e i zz => q _ _ s (.lst (by rw [hid_in (I.hx.fresh n)]; exact e) (i.mono (hid_less fun b z => .inl z)) zz)) q), mo_vLst h.mo⟩
theorem l_disp (h : DA K X es t g) (hl : es.length ≤ sizeLine := by decide) : DF K X (.List es pos) (tLst t) g :=
  ⟨pe_lst h.pa, fun M H0 z m H σ ρ Q I q => h.rd M H0 z m H σ ρ _ I (h.mo ρ _ _ (fun xs q vs H1 s1 i1 => ⟨by rw [i1.length]; exact q.1, fun p np => by
    have h1 := I.hx.step s1
    have s2 : Stp M H1 (upd H1 p (.lst vs)) := .new h1.ok np
    refine q.2 p vs _ (s1.trans s2) ?_ upd_same (i1.mono ((hid_more np).trans (hid_same fun b u _ e => by rw [upd_ne (ne_of_none e np)]; exact e))) q.1
    cases e : H p with
    | none => rfl
    | some o => exact absurd np (s1.there p (by rw [e]; exact fun q => nomatch q))⟩) (h.few.line h.mo hl ρ _ q)), h.mo⟩
end
end Pl

namespace Pl
open PySem PySem.Spec PyProof.Rows L2

/-! ### built-in functions by name -/
abbrev FL := List D → (D → Prop) → Prop
def MoL (g : FL) : Prop := ∀ a (Q Q' : D → Prop), (∀ d, Q d → Q' d) → g a Q → g a Q'
def RLd (K : Fg0) (r : List V → Hp → VK → Prop) (g : FL) : Prop := ∀ (M : Ml) m H vs ds Q, Hx M m H → ITA K M m H vs ds → g ds (Wn K M m H Q) → r vs H Q
def fL (g : FL) (fa : FA) : FE := fun ρ Q => fa ρ fun ds => g ds Q
theorem mo_fL {g : FL} {fa : FA} (hg : MoL g) (ha : MoA fa) : MoE (fL g fa) := fun ρ Q Q' h q => ha ρ _ _ (fun xs q => hg xs _ _ h q) q
theorem rd_fL {K : Fg} {r : List V → Hp → VK → Prop} {g : FL} {ta : TA} {fa : FA} (hr : RLd K r g) (hg : MoL g) (ha : RdAT K ta fa) (ma : MoA fa) : RdE K (tCB r ta) (fL g fa) := fun M H0 z m H σ ρ Q I q =>
  ha M H0 z m H σ ρ _ I (ma ρ _ _ (fun xs q vs H1 s1 i1 => hr M m H1 vs xs Q (I.hx.step s1) i1 (hg _ _ _ (fun d q => q.mono s1) q)) q)
/-- a rule of a built-in -/
structure BR (K : Fg0) (X : Cx) (f : Value) (r : List V → Hp → VK → Prop) (g : FL) : Prop where
  cr : CallR X f r
  rd : RLd K r g
  mo : MoL g
section
variable {K : Fg} {X : Cx} {x : Str} {p pos : Pos} {e : Expr} {es : List Expr} {t : TA} {fa : FA} {id T : String} {r : List V → Hp → VK → Prop} {g : FL}
theorem e_bi (b : BR K X (.builtin id) r g) (hm : X.mg x = none) (hv : bootBuiltins x = some (.builtin id)) (ha : DAT K X (e :: es) t fa) (hg : Gl X x := by rfl) (hn : x ≠ "__name__" := by decide) (hdb : (x == ("__debug__" : Str)) = false := by decide)
    (he : starEach (e :: es) X.env = (false, eval e X.env) :: starEach es X.env := by rfl) (hpl : (backTo pos (starEach es X.env)).any (·.1) = false := by rfl) : DE K X (.Call (.Name x p) (e :: es) [] pos) (tCB r t) (fL g fa) :=
  ⟨pe_callB b.cr hg hm hv ha.pa hn hdb he hpl, rd_fL b.rd b.mo ha.rd ha.mo, mo_fL b.mo ha.mo⟩
theorem e_ty (b : BR K X (.type T) r g) (hm : X.mg x = none) (hv : bootBuiltins x = some (.type T)) (ha : DAT K X (e :: es) t fa) (hg : Gl X x := by rfl) (hn : x ≠ "__name__" := by decide) (hdb : (x == ("__debug__" : Str)) = false := by decide)
    (he : starEach (e :: es) X.env = (false, eval e X.env) :: starEach es X.env := by rfl) (hpl : (backTo pos (starEach es X.env)).any (·.1) = false := by rfl) : DE K X (.Call (.Name x p) (e :: es) [] pos) (tCB r t) (fL g fa) :=
  ⟨pe_callTy b.cr hg hm hv ha.pa hn hdb he hpl, rd_fL b.rd b.mo ha.rd ha.mo, mo_fL b.mo ha.mo⟩
end
theorem ITA.one {K : Fg0} {M : Ml} {m : Addr → Prop} {H : Hp} {vs : List V} {d : D} (h : ITA K M m H vs [d]) : ∃ v, vs = [v] ∧ IsT K M m H v d := by
  cases h with | cons h t => cases t; exact ⟨_, rfl, h⟩
theorem ITA.two {K : Fg0} {M : Ml} {m : Addr → Prop} {H : Hp} {vs : List V} {d e : D} (h : ITA K M m H vs [d, e]) : ∃ v w, vs = [v, w] ∧ IsT K M m H v d ∧ IsT K M m H w e := by
  cases h with
  | cons h t =>
    cases t with
    | cons h2 t => cases t; exact ⟨_, _, rfl, h, h2⟩

/-- len -/
def gLen : FL := fun ds Q => match ds with
  | [.str x] => Q (.int x.length)
  | [.lst x] => Q (.int x.length)
  | [.tup x] => Q (.int x.length)
  | [.scr x] => Q (.int x.length)
  | _ => False
theorem mo_gLen : MoL gLen := fun a Q Q' h q => by
  unfold gLen at q ⊢
  split at q <;> first | exact h _ q | exact q
theorem b_len {K : Fg0} {X : Cx} (hK : X.K = K := by rfl) : BR K X (.builtin "len") (fun xs H Q => ∃ x n, xs = [x] ∧ LenV K x H n ∧ Q (.int n) H) gLen := by
  subst hK
  refine ⟨call_len, fun M m H vs ds Q h ii q => ?_, mo_gLen⟩
  unfold gLen at q
  split at q
  · obtain ⟨v, rfl, i⟩ := ii.one
    obtain ⟨rfl, z⟩ := i.str
    exact ⟨_, _, rfl, ⟨by rw [S_len]; exact z, (S_len _).symm⟩, Wn.int h q⟩
  · obtain ⟨v, rfl, i⟩ := ii.one
    obtain ⟨p, xs, rfl, e, a, z⟩ := i.lst
    exact ⟨_, _, rfl, .inl ⟨xs, .of e, a.length.symm⟩, Wn.int h q⟩
  · obtain ⟨v, rfl, i⟩ := ii.one
    obtain ⟨p, xs, rfl, e, a, _⟩ := i.tup
    exact ⟨_, _, rfl, .inr ⟨xs, e, a.length.symm⟩, Wn.int h q⟩
  · obtain ⟨v, rfl, i⟩ := ii.one
    obtain ⟨p, rfl, e, _⟩ := i.scr
    exact ⟨_, _, rfl, .inl ⟨_, e, (List.length_map (f := V.int)).symm⟩, Wn.int h q⟩
  · exact q.elim
/-- int of an int or a bool -/
def gInt : FL := fun ds Q => match ds with
  | [.int i] => Q (.int i)
  | [.bl b] => Q (.int (if b then 1 else 0))
  | _ => False
theorem mo_gInt : MoL gInt := fun a Q Q' h q => by
  unfold gInt at q ⊢
  split at q <;> first | exact h _ q | exact q
theorem b_int {K : Fg0} {X : Cx} : BR K X (.type "int") (fun xs H Q => (∃ i, xs = [.int i] ∧ Q (.int i) H) ∨ ∃ k, xs = [.bl k] ∧ Q (.int (if k then 1 else 0)) H) gInt := by
  refine ⟨call_int1, fun M m H vs ds Q h ii q => ?_, mo_gInt⟩
  unfold gInt at q
  split at q
  · obtain ⟨v, rfl, i⟩ := ii.one
    exact .inl ⟨_, by rw [i.int], Wn.int h q⟩
  · obtain ⟨v, rfl, i⟩ := ii.one
    exact .inr ⟨_, by rw [i.bl], Wn.int h q⟩
  · exact q.elim
def gAbs : FL := fun ds Q => match ds with
  | [.int i] => Q (.int (if i < 0 then -i else i))
  | _ => False
theorem mo_gAbs : MoL gAbs := fun a Q Q' h q => by
  unfold gAbs at q ⊢
  split at q <;> first | exact h _ q | exact q
theorem b_abs {K : Fg0} {X : Cx} : BR K X (.builtin "abs") (fun xs H Q => ∃ i, xs = [.int i] ∧ Q (.int (if i < 0 then -i else i)) H) gAbs := by
  refine ⟨call_abs, fun M m H vs ds Q h ii q => ?_, mo_gAbs⟩
  unfold gAbs at q
  split at q
  · obtain ⟨v, rfl, i⟩ := ii.one
    exact ⟨_, by rw [i.int], Wn.int h q⟩
  · exact q.elim
/-- max, min of two ints -/
def g2I (f : Int → Int → Int) : FL := fun ds Q => match ds with
  | [.int i, .int j] => Q (.int (f i j))
  | _ => False
theorem mo_g2I {f : Int → Int → Int} : MoL (g2I f) := fun a Q Q' h q => by
  unfold g2I at q ⊢
  split at q <;> first | exact h _ q | exact q
theorem rd_g2I {K : Fg0} {f : Int → Int → Int} : RLd K (fun xs H Q => ∃ i j, xs = [.int i, .int j] ∧ Q (.int (f i j)) H) (g2I f) := fun M m H vs ds Q h ii q => by
  unfold g2I at q
  split at q
  · obtain ⟨v, w, rfl, i, j⟩ := ii.two
    exact ⟨_, _, by rw [i.int, j.int], Wn.int h q⟩
  · exact q.elim
abbrev gMax2 : FL := g2I fun i j => if j > i then j else i
abbrev gMin2 : FL := g2I fun i j => if j < i then j else i
theorem b_max2 {K : Fg0} {X : Cx} (hc : X.calm = true := by rfl) : BR K X (.builtin "max") (fun xs H Q => ∃ i j, xs = [.int i, .int j] ∧ Q (.int (if j > i then j else i)) H) gMax2 := ⟨call_max2 hc, rd_g2I, mo_g2I⟩
theorem b_min2 {K : Fg0} {X : Cx} (hc : X.calm = true := by rfl) : BR K X (.builtin "min") (fun xs H Q => ∃ i j, xs = [.int i, .int j] ∧ Q (.int (if j < i then j else i)) H) gMin2 := ⟨call_min2 hc, rd_g2I, mo_g2I⟩
/-- max, min of a list of ints -/
def IsMax (ns : List Int) (m : Int) : Prop := m ∈ ns ∧ ∀ y, y ∈ ns → y ≤ m
def IsMin (ns : List Int) (m : Int) : Prop := m ∈ ns ∧ ∀ y, y ∈ ns → m ≤ y
def gMM (P : List Int → Int → Prop) : FL := fun ds Q => match ds with
  | [.lst xs] => ∃ ns : List Int, xs = ns.map D.int ∧ ns ≠ [] ∧ ∀ m, P ns m → Q (.int m)
  | _ => False
theorem mo_gMM {P : List Int → Int → Prop} : MoL (gMM P) := fun a Q Q' h q => by
  unfold gMM at q ⊢
  split at q
  · obtain ⟨ns, e, n, q⟩ := q
    exact ⟨ns, e, n, fun m p => h _ (q m p)⟩
  · exact q
theorem b_max {K : Fg0} {X : Cx} (hc : X.calm = true := by rfl) (hK : X.K = K := by rfl) : BR K X (.builtin "max") (rMax K) (gMM IsMax) := by
  subst hK
  refine ⟨cr_max hc, fun M m H vs ds Q h ii q => ?_, mo_gMM⟩
  unfold gMM at q
  split at q
  · obtain ⟨v, rfl, i⟩ := ii.one
    obtain ⟨ns, e, n, q⟩ := q
    subst e
    obtain ⟨p, xs, rfl, e, a, z⟩ := i.lst
    have := a.ints
    subst this
    exact ⟨_, ns, rfl, .of e, List.length_pos_iff.mpr n, fun m h1 h2 => Wn.int h (q m ⟨h1, h2⟩)⟩
  · exact q.elim
theorem b_min {K : Fg0} {X : Cx} (hc : X.calm = true := by rfl) (hK : X.K = K := by rfl) : BR K X (.builtin "min") (rMin K) (gMM IsMin) := by
  subst hK
  refine ⟨cr_min hc, fun M m H vs ds Q h ii q => ?_, mo_gMM⟩
  unfold gMM at q
  split at q
  · obtain ⟨v, rfl, i⟩ := ii.one
    obtain ⟨ns, e, n, q⟩ := q
    subst e
    obtain ⟨p, xs, rfl, e, a, z⟩ := i.lst
    have := a.ints
    subst this
    exact ⟨_, ns, rfl, .of e, List.length_pos_iff.mpr n, fun m h1 h2 => Wn.int h (q m ⟨h1, h2⟩)⟩
  · exact q.elim
/-- sum of a list of ints -/
def gSum : FL := fun ds Q => match ds with
  | [.lst xs] => ∃ ns : List Int, xs = ns.map D.int ∧ Q (.int ns.sum)
  | _ => False
theorem mo_gSum : MoL gSum := fun a Q Q' h q => by
  unfold gSum at q ⊢
  split at q
  · obtain ⟨ns, e, q⟩ := q; exact ⟨ns, e, h _ q⟩
  · exact q
theorem b_sum {K : Fg0} {X : Cx} (hc : X.calm = true := by rfl) (hK : X.K = K := by rfl) : BR K X (.builtin "sum") (rSum K) gSum := by
  subst hK
  refine ⟨cr_sum hc, fun M m H vs ds Q h ii q => ?_, mo_gSum⟩
  unfold gSum at q
  split at q
  · obtain ⟨v, rfl, i⟩ := ii.one
    obtain ⟨ns, e, q⟩ := q
    subst e
    obtain ⟨p, xs, rfl, e, a, z⟩ := i.lst
    have := a.ints
    subst this
    exact ⟨_, ns, rfl, .of e, Wn.int h q⟩
  · exact q.elim
/-- any, all of a list of bools -/
def gBs (f : List Bool → Bool) : FL := fun ds Q => match ds with
  | [.lst xs] => ∃ ns : List Bool, xs = ns.map D.bl ∧ Q (.bl (f ns))
  | _ => False
theorem mo_gBs {f : List Bool → Bool} : MoL (gBs f) := fun a Q Q' h q => by
  unfold gBs at q ⊢
  split at q
  · obtain ⟨ns, e, q⟩ := q; exact ⟨ns, e, h _ q⟩
  · exact q
theorem b_any {K : Fg0} {X : Cx} (hc : X.calm = true := by rfl) (hK : X.K = K := by rfl) : BR K X (.builtin "any") (rAny K) (gBs fun b => b.any id) := by
  subst hK
  refine ⟨cr_any hc, fun M m H vs ds Q h ii q => ?_, mo_gBs⟩
  unfold gBs at q
  split at q
  · obtain ⟨v, rfl, i⟩ := ii.one
    obtain ⟨ns, e, q⟩ := q
    subst e
    obtain ⟨p, xs, rfl, e, a, z⟩ := i.lst
    have := a.bls
    subst this
    exact ⟨_, ns, rfl, .of e, Wn.bl h q⟩
  · exact q.elim
theorem b_all {K : Fg0} {X : Cx} (hc : X.calm = true := by rfl) (hK : X.K = K := by rfl) : BR K X (.builtin "all") (rAll K) (gBs fun b => b.all id) := by
  subst hK
  refine ⟨cr_all hc, fun M m H vs ds Q h ii q => ?_, mo_gBs⟩
  unfold gBs at q
  split at q
  · obtain ⟨v, rfl, i⟩ := ii.one
    obtain ⟨ns, e, q⟩ := q
    subst e
    obtain ⟨p, xs, rfl, e, a, z⟩ := i.lst
    have := a.bls
    subst this
    exact ⟨_, ns, rfl, .of e, Wn.bl h q⟩
  · exact q.elim
/-- tuple of a list, of a tuple -/
def gTuple : FL := fun ds Q => match ds with
  | [.lst xs] => Q (.tup xs)
  | [.tup xs] => Q (.tup xs)
  | _ => False
theorem mo_gTuple : MoL gTuple := fun a Q Q' h q => by
  unfold gTuple at q ⊢
  split at q <;> first | exact h _ q | exact q
def rTuple (K : Fg0) : List V → Hp → VK → Prop := fun xs H Q => ∃ p ys, xs = [.ref p] ∧ ((SqL K H p ys ∧ ∀ l, H l = none → Q (.ref l) (upd H l (.tup ys))) ∨ (SqT K H p ys ∧ Q (.ref p) H))
theorem b_tuple {K : Fg0} {X : Cx} (hK : X.K = K := by rfl) : BR K X (.type "tuple") (rTuple K) gTuple := by
  subst hK
  refine ⟨call_tuple_of, fun M m H vs ds Q h ii q => ?_, mo_gTuple⟩
  unfold gTuple at q
  split at q
  · obtain ⟨v, rfl, i⟩ := ii.one
    obtain ⟨p, xs, rfl, e, a, z⟩ := i.lst
    exact ⟨_, _, rfl, .inl ⟨.of e, fun l n => Wn.tup h q n a z⟩⟩
  · obtain ⟨v, rfl, i⟩ := ii.one
    obtain ⟨p, xs, rfl, e, a, t, z⟩ := i.tup
    exact ⟨_, _, rfl, .inr ⟨e, Wn.flat h q (.tup t a z)⟩⟩
  · exact q.elim
/-- list of a list, of a tuple -/
def gList : List D → (List D → Prop) → Prop := fun ds Q => match ds with
  | [.lst xs] => Q xs
  | [.tup xs] => Q xs
  | _ => False
end Pl

namespace Pl
open PySem PySem.Spec PyProof.Rows L2

/-! ### a[i] -/
theorem IsA.at {K : Fg0} {M : Ml} {H : Hp} {vs : List V} {ds : List D} {i : Int} {d : D} (h : IsA K M H vs ds) (e : atI ds i = some d) : ∃ v, atI vs i = some v ∧ Is K M H v d := by
  unfold atI at e ⊢
  rw [h.length]
  cases q : ixN ds.length i with
  | none => rw [q] at e; cases e
  | some j =>
    rw [q] at e
    exact h.get (i := j) e
/-- the place that an index means -/
def gIx : F2 := fun a b Q => match a, b with
  | .lst xs, .int i => exS (atI xs i) Q
  | .tup xs, .int i => exS (atI xs i) Q
  | .str xs, .int i => ∃ c, atI xs i = some c ∧ Q (.str [c])
  | _, _ => False
theorem mo_gIx : Mo2 gIx := fun a b Q Q' h q => by
  unfold gIx at q ⊢
  split at q
  · obtain ⟨d, e, q⟩ := q; exact ⟨d, e, h _ q⟩
  · obtain ⟨d, e, q⟩ := q; exact ⟨d, e, h _ q⟩
  · obtain ⟨d, e, q⟩ := q; exact ⟨d, e, h _ q⟩
  · exact q
theorem rd_ix {K : Fg0} : R2d K (rIx K) gIx := fun M m H x y a b Q h ia ib q => by
  unfold gIx at q
  split at q
  · obtain ⟨d, e, q⟩ := q
    obtain ⟨p, vs, rfl, r, k, zz⟩ := ia.lst
    obtain ⟨v, e', i⟩ := k.at e
    exact .inl ⟨p, vs, _, v, rfl, ib.int, .of r, e', Wn.flat h q i⟩
  · obtain ⟨d, e, q⟩ := q
    obtain ⟨p, vs, rfl, r, k, _⟩ := ia.tup
    obtain ⟨v, e', i⟩ := k.at e
    exact .inr (.inl ⟨p, vs, _, v, rfl, ib.int, r, e', Wn.flat h q i⟩)
  · obtain ⟨c, e, q⟩ := q
    obtain ⟨rfl, z⟩ := ia.str
    exact .inr (.inr ⟨_, _, c, rfl, ib.int, by rw [S_len]; exact z, by rw [S_list]; exact e, Wn.str h q (by show 1 ≤ sizeLine; decide)⟩)
  · exact q.elim
section
variable {K : Fg} {X : Cx} {a b : Expr} {ta tb : TE} {fa fb : FE} {pos : Pos}
theorem e_ix (ha : DT K X a ta fa) (hb : DT K X b tb fb) (hs : PlainIx b := by exact fun _ _ => rfl) (hK : X.K = K := by rfl) : DE K X (.Subscript a b pos) (tOp (rIx K) ta tb) (f2 gIx fa fb) := by
  obtain ⟨K, stK⟩ := K
  replace hK : X.K = K := hK
  subst hK
  exact ⟨pe_ix ix_seq ha.pe hb.pe hs, rd_2 rd_ix mo_gIx ha.rd hb.rd ha.mo hb.mo, mo_f2 mo_gIx ha.mo hb.mo⟩
end

/-! ### a[lo:hi] -/
/-- a part of a list -/
def cut {α : Type} (xs : List α) (lo hi : Option Int) : List α := (xs.drop (HT.sIx xs.length 0 lo)).take (HT.sIx xs.length xs.length hi - HT.sIx xs.length 0 lo)
theorem cut_le {α : Type} (xs : List α) (lo hi : Option Int) : (cut xs lo hi).length ≤ xs.length := by
  unfold cut
  rw [List.length_take, List.length_drop]
  omega
abbrev FO := En → (Option Int → Prop) → Prop
def RdO (K : Fg) (t : TO) (f : FO) : Prop := ∀ (M : Ml) H0 z m H σ ρ (Q : Option Int → Hp → Prop), EnOk K M H0 z m H σ ρ → f ρ (fun b => ∀ H', Stp M H H' → Q b H') → t σ H Q
def MoO (f : FO) : Prop := ∀ ρ (Q Q' : Option Int → Prop), (∀ d, Q d → Q' d) → f ρ Q → f ρ Q'
structure DO (K : Fg) (X : Cx) (e : Option Expr) (t : TO) (f : FO) : Prop where
  po : PO X e t
  rd : RdO K t f
  mo : MoO f
def oNone : FO := fun _ Q => Q none
def oSome (f : FE) : FO := fun ρ Q => f ρ fun d => match d with
  | .int i => Q (some i)
  | _ => False
def gSl : D → Option Int → Option Int → (D → Prop) → Prop := fun a lo hi Q => match a with
  | .str x => Q (.str (cut x lo hi))
  | .lst x => Q (.lst (cut x lo hi))
  | .tup x => Q (.tup (cut x lo hi))
  | .scr x => Q (.lst ((cut x lo hi).map D.int))
  | _ => False
theorem mo_gSl : ∀ a lo hi (Q Q' : D → Prop), (∀ d, Q d → Q' d) → gSl a lo hi Q → gSl a lo hi Q' := fun a lo hi Q Q' h q => by
  unfold gSl at q ⊢
  split at q <;> first | exact h _ q | exact q
def fSl (f : FE) (l u : FO) : FE := fun ρ Q => f ρ fun x => l ρ fun lo => u ρ fun hi => gSl x lo hi Q
def rSlAll (K : Fg0) : V → Option Int → Option Int → Hp → VK → Prop := fun x lo hi H Q => rSlS x lo hi H Q ∨ (rSlL K x lo hi H Q ∨ rSlA K x lo hi H Q)
theorem rd_sl {K : Fg0} {M : Ml} {m : Addr → Prop} {H : Hp} {x : V} {a : D} {lo hi : Option Int} {Q : VK} (h : Hx M m H) (ia : IsT K M m H x a) (q : gSl a lo hi (Wn K M m H Q)) : rSlAll K x lo hi H Q := by
  unfold gSl at q
  split at q
  · rename_i s
    obtain ⟨rfl, z⟩ := ia.str
    refine .inl ⟨_, rfl, by rw [S_len]; exact z, ?_⟩
    have e : cutS (S s) lo hi = S (cut s lo hi) := by
      unfold cutS cut
      rw [S_list, S_len]
      rfl
    rw [e]
    exact Wn.str h q (Nat.le_trans (cut_le _ _ _) z)
  · obtain ⟨p, vs, rfl, r, k, zz⟩ := ia.lst
    refine .inr (.inl ⟨p, vs, rfl, .of r, fun p n => ?_⟩)
    refine Wn.lst h q n ?_ (Nat.le_trans (cut_le _ _ _) zz)
    unfold cutV cut
    rw [k.length]
    exact (k.drop _).take _
  · obtain ⟨p, vs, rfl, r, k, t, zz⟩ := ia.tup
    refine .inr (.inr ⟨p, vs, rfl, r, fun e => ?_, fun _ p n => ?_⟩)
    · refine Wn.flat h q (.tup (xs := vs) t ?_ (Nat.le_trans (cut_le _ _ _) zz))
      rw [k.length] at e
      unfold cut
      rw [e.1, e.2, List.drop_zero, Nat.sub_zero, List.take_length]
      exact k
    · refine Wn.tup h q n ?_ (Nat.le_trans (cut_le _ _ _) zz)
      unfold cutV cut
      rw [k.length]
      exact (k.drop _).take _
  · rename_i ns
    obtain ⟨p, rfl, r, _⟩ := ia.scr
    refine .inr (.inl ⟨p, _, rfl, r, fun p n => ?_⟩)
    have e : cutV (ns.map V.int) lo hi = (cut ns lo hi).map V.int := by
      unfold cutV cut
      rw [List.length_map, List.map_take, List.map_drop]
    rw [e]
    refine Wn.lst h q n .ofInts ?_
    rcases ia with i | ⟨_, _, _, _, e2, _⟩ | ⟨_, _, _, _, e2, _⟩
    · cases i with | scr _ z => rw [List.length_map]; exact Nat.le_trans (cut_le _ _ _) (Nat.le_trans z (by decide))
    · cases e2
    · cases e2
  · exact q.elim
section
variable {K : Fg} {X : Cx} {a e : Expr} {lo hi : Option Expr} {ta te : TE} {tl th : TO} {fa f : FE} {fl fh : FO} {pos p2 : Pos}
theorem o_none : DO K X none tNoPart oNone := ⟨po_none, fun M H0 z m H σ ρ Q I q => q H I.hx.rfl, fun _ _ _ h q => h _ q⟩
theorem o_some (h : DT K X e te f) : DO K X (some e) (tPart te) (oSome f) := by
  refine ⟨po_some h.pe, fun M H0 z m H σ ρ Q I q => h.rd M H0 z m H σ ρ _ I (h.mo ρ _ _ (fun d q v H' s i => ?_) q), fun ρ Q Q' k q => h.mo ρ _ _ (fun d q => ?_) q⟩
  · cases d with
    | int i' => exact ⟨i', i.int, q H' s⟩
    | _ => exact q.elim
  · cases d with
    | int i => exact k _ q
    | _ => exact q
theorem e_sl (ha : DT K X a ta fa) (hl : DO K X lo tl fl) (hh : DO K X hi th fh) (hK : X.K = K := by rfl) : DE K X (.Subscript a (.Slice lo hi none p2) pos) (tSl (rSlAll K) ta tl th) (fSl fa fl fh) := by
  obtain ⟨K, stK⟩ := K
  replace hK : X.K = K := hK
  subst hK
  refine ⟨pe_slice (sl_str.or (sl_list.or sl_tupA)) ha.pe hl.po hh.po, fun M H0 z m H σ ρ Q I q => ?_, fun ρ Q Q' k q => ha.mo ρ _ _ (fun x q => hl.mo ρ _ _ (fun l q => hh.mo ρ _ _ (fun u q => mo_gSl _ _ _ _ _ k q) q) q) q⟩
  refine ha.rd M H0 z m H σ ρ _ I (ha.mo ρ _ _ (fun x q v H1 s1 i1 => ?_) q)
  refine hl.rd M H0 z m H1 σ ρ _ (I.step s1) (hl.mo ρ _ _ (fun l q H2 s2 => ?_) q)
  refine hh.rd M H0 z m H2 σ ρ _ ((I.step s1).step s2) (hh.mo ρ _ _ (fun u q H3 s3 => ?_) q)
  have h1 := I.hx.step s1
  have h3 := (h1.step s2).step s3
  exact rd_sl h3 (i1.step h1 (s2.trans s3)) (mo_gSl _ _ _ _ _ (fun d q => q.mono ((s1.trans s2).trans s3)) q)
end

/-! ### methods of texts -/
/-- where y stands in x -/
def atL (x y : List Nat) (i : Nat) : Bool := decide (i + y.length ≤ x.length) && decide ((x.drop i).take y.length = y)
/-- the first place -/
def sfind (x y : List Nat) : Option Nat := (List.range (x.length + 1)).find? (atL x y)
theorem at_S {x y : List Nat} {i : Nat} : StrLaws.At (S x) (S y) (S x).length i ↔ atL x y i = true := by
  unfold StrLaws.At Builtin.Str.subAt atL
  rw [S_len, S_len, Bool.and_eq_true, decide_eq_true_eq, decide_eq_true_eq]
  refine and_congr_right fun h => ?_
  unfold S
  rw [beq_iff_eq]
  constructor
  · intro e
    have := congrArg Array.toList e
    simpa using this
  · intro e
    apply Array.toList_inj.mp
    simpa using e
theorem sfind_some {x y : List Nat} {i : Nat} (h : atL x y i = true) (n : ∀ k, k < i → atL x y k = false) : sfind x y = some i := by
  unfold sfind
  rw [List.find?_eq_some_iff_getElem]
  have hi : i < x.length + 1 := by
    unfold atL at h
    simp only [Bool.and_eq_true, decide_eq_true_eq] at h
    omega
  refine ⟨h, i, by simpa using hi, by simp, fun j hj => by simpa using n j hj⟩
theorem sfind_none {x y : List Nat} (n : ∀ k, atL x y k = false) : sfind x y = none := by
  unfold sfind
  rw [List.find?_eq_none]
  intro k _
  rw [n k]
  exact Bool.false_ne_true
theorem occ_S (x y : List Nat) (limit : Nat) (hl : 1 ≤ limit) : (Builtin.Str.occurrences (S x) (S y) 0 (S x).length limit).head? = sfind x y := by
  rcases StrLaws.occ_head (S x) (S y) limit hl with ⟨e, n⟩ | ⟨i, r, e, h, n⟩
  · rw [e, sfind_none fun k => by
      cases q : atL x y k
      · rfl
      · exact absurd (at_S.mpr q) (n k)]
    rfl
  · rw [e, sfind_some (at_S.mp h) fun k hk => by
      cases q : atL x y k
      · rfl
      · exact absurd (at_S.mpr q) (n k hk)]
    rfl
/-- a rule of a method: of what, with which arguments -/
abbrev FM := D → List D → (D → Prop) → Prop
def MoM (g : FM) : Prop := ∀ o a (Q Q' : D → Prop), (∀ d, Q d → Q' d) → g o a Q → g o a Q'
def RMd (K : Fg0) (r : V → List V → Hp → VK → Prop) (g : FM) : Prop := ∀ (M : Ml) m H v vs d ds Q, Hx M m H → IsT K M m H v d → ITA K M m H vs ds → g d ds (Wn K M m H Q) → r v vs H Q
structure MR (K : Fg0) (X : Cx) (id : String) (r : V → List V → Hp → VK → Prop) (g : FM) : Prop where
  mt : MtR X id r
  rd : RMd K r g
  mo : MoM g
/-- what a value of such a type is -/
def isTy : String → D → Prop
  | "str", .str _ => True
  | "list", .lst _ => True
  | "dict", .dk _ => True
  | _, _ => False
theorem isTy_v {K : Fg0} {M : Ml} {m : Addr → Prop} {H : Hp} {v : V} {d : D} {T : String} (i : IsT K M m H v d) (h : isTy T d) (hd : T ≠ "dict") : tyV K T v H := by
  unfold isTy at h
  split at h
  · rw [i.str.1]; rfl
  · obtain ⟨p, vs, rfl, e, _⟩ := i.lst
    exact .inl ⟨rfl, _, .of e⟩
  · exact absurd rfl hd
  · exact h.elim
def fM (T : String) (g : FM) (fo : FE) (fa : FA) : FE := fun ρ Q => fo ρ fun d => isTy T d ∧ fa ρ fun ds => g d ds Q
theorem mo_fM {T : String} {g : FM} {fo : FE} {fa : FA} (hg : MoM g) (ho : MoE fo) (ha : MoA fa) : MoE (fM T g fo fa) := fun ρ Q Q' h q => ho ρ _ _ (fun d q => ⟨q.1, ha ρ _ _ (fun ds q => hg _ _ _ _ h q) q.2⟩) q
section
variable {K : Fg} {X : Cx} {o e : Expr} {es : List Expr} {to : TE} {t : TA} {fo : FE} {fa : FA} {name : Str} {apos cpos : Pos} {T id : String} {r : V → List V → Hp → VK → Prop} {g : FM}
theorem e_m (pa : PlainAttrs T) (slot : Slot T name id) (hty : typeOf (.builtin id) = pure (.type "method_descriptor")) (hm : MR K X id r g) (ho : DT K X o to fo) (ha : DAT K X (e :: es) t fa) (hd : T ≠ "dict" := by decide) (hK : X.K = K := by rfl)
    (hbase : attributeBase o name X.env (eval o X.env) = eval o X.env := by rfl)
    (hfew : ((backTo cpos (starEach (e :: es) X.env)).all (fun x => !x.1) && (backToKw cpos (keywordEach [] X.env)).all (fun x => x.1.isSome)
      && decide ((e :: es).length + ([] : List Keyword).length + (if ([] : List Keyword).isEmpty then 0 else 1) < 30)) = true := by rfl)
    (hline : (apos.endLine == cpos.line) = true := by rfl) (hs : starEach (e :: es) X.env = (false, eval e X.env) :: starEach es X.env := by rfl) (hplain : (backTo cpos (starEach es X.env)).any (·.1) = false := by rfl) :
    DE K X (.Call (.Attribute o name apos) (e :: es) [] cpos) (tBM K T r to t) (fM T g fo fa) := by
  obtain ⟨K, stK⟩ := K
  replace hK : X.K = K := hK
  subst hK
  refine ⟨pe_bm pa slot hty hm.mt ho.pe ha.pa hbase hfew hline hs hplain, fun M H0 z m H σ ρ Q I q => ?_, mo_fM hm.mo ho.mo ha.mo⟩
  refine ho.rd M H0 z m H σ ρ _ I (ho.mo ρ _ _ (fun d q v H1 s1 i1 => ⟨isTy_v i1 q.1 hd, ?_⟩) q)
  refine ha.rd M H0 z m H1 σ ρ _ (I.step s1) (ha.mo ρ _ _ (fun ds q vs H2 s2 i2 => ?_) q.2)
  have h1 := I.hx.step s1
  exact hm.rd M m H2 v vs d ds Q (h1.step s2) (i1.step h1 s2) i2 (hm.mo _ _ _ _ (fun d q => q.mono (s1.trans s2)) q)
theorem e_m0 (pa : PlainAttrs T) (slot : Slot T name id) (hty : typeOf (.builtin id) = pure (.type "method_descriptor")) (hm : MR K X id r g) (ho : DT K X o to fo) (hd : T ≠ "dict" := by decide) (hK : X.K = K := by rfl)
    (hbase : attributeBase o name X.env (eval o X.env) = eval o X.env := by rfl) (hline : (apos.endLine == cpos.line) = true := by rfl) : DE K X (.Call (.Attribute o name apos) [] [] cpos) (tBM0 K T r to) (fM T g fo aNil) := by
  obtain ⟨K, stK⟩ := K
  replace hK : X.K = K := hK
  subst hK
  refine ⟨pe_bm0 pa slot hty hm.mt ho.pe hbase hline, fun M H0 z m H σ ρ Q I q => ?_, mo_fM hm.mo ho.mo mo_aNil⟩
  refine ho.rd M H0 z m H σ ρ _ I (ho.mo ρ _ _ (fun d q v H1 s1 i1 => ⟨isTy_v i1 q.1 hd, ?_⟩) q)
  have h1 := I.hx.step s1
  exact hm.rd M m H1 v [] d [] Q h1 i1 .nil (hm.mo _ _ _ _ (fun d q => q.mono s1) q.2)
end
/-- s.index(t), s.find(t) -/
def gSIndex : FM := fun o ds Q => match o, ds with
  | .str x, [.str y] => ∃ i, sfind x y = some i ∧ Q (.int (i : Nat))
  | _, _ => False
theorem mo_gSIndex : MoM gSIndex := fun o a Q Q' h q => by
  unfold gSIndex at q ⊢
  split at q
  · obtain ⟨i, e, q⟩ := q; exact ⟨i, e, h _ q⟩
  · exact q
def rSIndex : V → List V → Hp → VK → Prop := fun x xs H Q => ∃ a b i rest, x = .str a ∧ xs = [.str b] ∧ Builtin.Str.occurrences a b 0 a.length 1 = i :: rest ∧ Q (.int (i : Nat)) H
theorem m_sindex {K : Fg0} {X : Cx} : MR K X "str.index" rSIndex gSIndex := by
  refine ⟨mt_sindex, fun M m H v vs d ds Q h i ii q => ?_, mo_gSIndex⟩
  unfold gSIndex at q
  split at q
  · rename_i x y
    obtain ⟨k, e, q⟩ := q
    obtain ⟨w, rfl, j⟩ := ii.one
    have o := occ_S x y 1 (Nat.le_refl _)
    rw [e] at o
    cases c : Builtin.Str.occurrences (S x) (S y) 0 (S x).length 1 with
    | nil => rw [c] at o; cases o
    | cons a r =>
      rw [c] at o
      cases o
      exact ⟨_, _, _, r, i.str.1, by rw [j.str.1], c, Wn.int h q⟩
  · exact q.elim
def gSFind : FM := fun o ds Q => match o, ds with
  | .str x, [.str y] => Q (.int (match sfind x y with | some i => (i : Nat) | none => -1))
  | _, _ => False
theorem mo_gSFind : MoM gSFind := fun o a Q Q' h q => by
  unfold gSFind at q ⊢
  split at q
  · exact h _ q
  · exact q
def rSFind : V → List V → Hp → VK → Prop := fun x xs H Q => ∃ a b, x = .str a ∧ xs = [.str b] ∧ Q (.int (Txt.find a b)) H
theorem m_sfind {K : Fg0} {X : Cx} : MR K X "str.find" rSFind gSFind := by
  refine ⟨mt_find, fun M m H v vs d ds Q h i ii q => ?_, mo_gSFind⟩
  unfold gSFind at q
  split at q
  · rename_i x y
    obtain ⟨w, rfl, j⟩ := ii.one
    refine ⟨_, _, i.str.1, by rw [j.str.1], ?_⟩
    have o := occ_S x y 1 (Nat.le_refl _)
    have e : Txt.find (S x) (S y) = (match sfind x y with | some i => ((i : Nat) : Int) | none => -1) := by
      unfold Txt.find
      rw [← o]
      cases Builtin.Str.occurrences (S x) (S y) 0 (S x).length 1 <;> rfl
    rw [e]
    exact Wn.int h q
  · exact q.elim
/-- s.startswith(t) -/
def gSStarts : FM := fun o ds Q => match o, ds with
  | .str x, [.str y] => Q (.bl (atL x y 0))
  | _, _ => False
theorem mo_gSStarts : MoM gSStarts := fun o a Q Q' h q => by
  unfold gSStarts at q ⊢
  split at q
  · exact h _ q
  · exact q
def rSStarts : V → List V → Hp → VK → Prop := fun x xs H Q => ∃ a b, x = .str a ∧ xs = [.str b] ∧ Q (.bl (Txt.startswith a b)) H
theorem m_sstarts {K : Fg0} {X : Cx} : MR K X "str.startswith" rSStarts gSStarts := by
  refine ⟨mt_startswith, fun M m H v vs d ds Q h i ii q => ?_, mo_gSStarts⟩
  unfold gSStarts at q
  split at q
  · rename_i x y
    obtain ⟨w, rfl, j⟩ := ii.one
    refine ⟨_, _, i.str.1, by rw [j.str.1], ?_⟩
    have e : Txt.startswith (S x) (S y) = atL x y 0 := by
      have := at_S (x := x) (y := y) (i := 0)
      unfold StrLaws.At at this
      unfold Txt.startswith
      rw [Bool.eq_iff_iff, ← this, Bool.and_eq_true, decide_eq_true_eq]
    rw [e]
    exact Wn.bl h q
  · exact q.elim
/-- s.join(texts) -/
def glue (sep : List Nat) : List (List Nat) → List Nat
  | [] => []
  | [x] => x
  | x :: y :: r => x ++ sep ++ glue sep (y :: r)
end Pl

namespace Pl
open PySem PySem.Spec PyProof.Rows L2 TL

/-! ### join -/
theorem tl_S (x : List Nat) : tl (S x) = x := S_list x
theorem join_S (sep : List Nat) (ys : List (List Nat)) : Txt.join (S sep) (ys.map S) = S (joinL sep ys) := by
  have e : tl (Txt.join (S sep) (ys.map S)) = joinL sep ys := by
    rw [join_eq, tl_join, tl_S, List.map_map]
    congr 1
    rw [show (tl ∘ S) = id from funext fun x => tl_S x, List.map_id]
  rw [← e]
  exact (S_of _).symm
def gJoin : FM := fun o ds Q => match o, ds with
  | .str x, [.lst ys] => ∃ zs : List (List Nat), ys = zs.map D.str ∧ (zs.map (·.length)).sum + zs.length * x.length ≤ 16777216 ∧ Q (.str (joinL x zs))
  | .str x, [.tup ys] => ∃ zs : List (List Nat), ys = zs.map D.str ∧ (zs.map (·.length)).sum + zs.length * x.length ≤ 16777216 ∧ Q (.str (joinL x zs))
  | _, _ => False
theorem mo_gJoin : MoM gJoin := fun o a Q Q' h q => by
  unfold gJoin at q ⊢
  split at q
  · obtain ⟨i, e, z, q⟩ := q; exact ⟨i, e, z, h _ q⟩
  · obtain ⟨i, e, z, q⟩ := q; exact ⟨i, e, z, h _ q⟩
  · exact q
theorem joinL_len (s : List Nat) : ∀ zs : List (List Nat), (joinL s zs).length ≤ (zs.map (·.length)).sum + zs.length * s.length
  | [] => Nat.zero_le _
  | [x] => by simp [joinL]
  | x :: y :: r => by
    have ih := joinL_len s (y :: r)
    show (x ++ (s ++ joinL s (y :: r))).length ≤ _
    rw [List.length_append, List.length_append, List.map_cons, List.sum_cons, List.length_cons, Nat.succ_mul]
    omega
def rJoin (K : Fg0) : V → List V → Hp → VK → Prop := fun x xs H Q => ∃ a p, ∃ ys : List Str, x = .str a ∧ xs = [.ref p] ∧ (SqL K H p (ys.map V.str) ∨ SqT K H p (ys.map V.str)) ∧
    (ys.map (·.length)).sum + ys.length * a.length ≤ 16777216 ∧ Q (.str (Txt.join a ys)) H
theorem sumS (zs : List (List Nat)) : ((zs.map S).map (·.length)).sum = (zs.map (·.length)).sum := by
  rw [List.map_map]
  exact congrArg List.sum (List.map_congr_left fun x _ => S_len x)
theorem m_join {K : Fg0} {X : Cx} (hK : X.K = K := by rfl) : MR K X "str.join" (rJoin K) gJoin := by
  subst hK
  refine ⟨mt_join, fun M m H v vs d ds Q h i ii q => ?_, mo_gJoin⟩
  unfold gJoin at q
  split at q
  · obtain ⟨zs, e, z, q⟩ := q
    subst e
    obtain ⟨w, rfl, j⟩ := ii.one
    obtain ⟨p, ws, rfl, r, k, _⟩ := j.lst
    obtain ⟨e, _⟩ := k.strs
    subst e
    refine ⟨_, p, zs.map S, i.str.1, rfl, .inl (.of r), by rw [sumS, S_len, List.length_map]; exact z, ?_⟩
    rw [join_S]
    exact Wn.str h q (Nat.le_trans (joinL_len _ _) (by rw [sizeLine_eq]; exact z))
  · obtain ⟨zs, e, z, q⟩ := q
    subst e
    obtain ⟨w, rfl, j⟩ := ii.one
    obtain ⟨p, ws, rfl, r, k, _⟩ := j.tup
    obtain ⟨e, _⟩ := k.strs
    subst e
    refine ⟨_, p, zs.map S, i.str.1, rfl, .inr r, by rw [sumS, S_len, List.length_map]; exact z, ?_⟩
    rw [join_S]
    exact Wn.str h q (Nat.le_trans (joinL_len _ _) (by rw [sizeLine_eq]; exact z))
  · exact q.elim

/-! ### in, not in -/
def flatD : D → Bool
  | .non => true
  | .bl _ => true
  | .int _ => true
  | .str _ => true
  | _ => false
def memD (x : D) (ys : List D) : Bool := ys.any fun y => eqv y x
def gIn (neg : Bool) : F2 := fun a b Q => match a, b with
  | .str x, .str y => Q (.bl (neg ^^ (sfind y x).isSome))
  | x, .lst ys => sh x = true ∧ sh (.lst ys) = true ∧ Q (.bl (neg ^^ memD x ys))
  | x, .tup ys => flatD x = true ∧ ys.all flatD = true ∧ Q (.bl (neg ^^ memD x ys))
  | _, _ => False
theorem mo_gIn {neg : Bool} : Mo2 (gIn neg) := fun a b Q Q' h q => by
  unfold gIn at q ⊢
  split at q
  · exact h _ q
  · exact ⟨q.1, q.2.1, h _ q.2.2⟩
  · exact ⟨q.1, q.2.1, h _ q.2.2⟩
  · exact q
theorem toPyA_map : ∀ ys : List D, toPyA ys = ys.map toPy
  | [] => rfl
  | y :: ys => by unfold toPyA; rw [toPyA_map ys]; rfl
theorem mem_py (x : D) (ys : List D) : ((toPyA ys).any fun z => PyData.eqv z (toPy x)) = memD x ys := by
  rw [toPyA_map, List.any_map]
  rfl
theorem eqV_py {K : Fg0} {M : Ml} {H : Hp} {v w : V} {x y : D} (i : Is K M H v x) (j : Is K M H w y) (fx : flatD x = true) (fy : flatD y = true) : eqV v w = eqv x y := by
  cases i with
  | tup _ _ _ => cases fx
  | lst _ _ _ => cases fx
  | dk _ _ => cases fx
  | ml _ => cases fx
  | scr _ _ => cases fx
  | non => cases j <;> first | rfl | cases fy
  | bl b => cases j <;> first | rfl | cases fy
  | int b => cases j <;> first | rfl | cases fy
  | str b _ => cases j <;> first | rfl | cases fy
theorem flatV_of {K : Fg0} {M : Ml} {H : Hp} {v : V} {x : D} (i : Is K M H v x) (f : flatD x = true) : flatV v = true := by
  cases i <;> first | rfl | cases f
theorem IsT.flat {K : Fg0} {M : Ml} {m : Addr → Prop} {H : Hp} {v : V} {d : D} (q : IsT K M m H v d) (f : flatD d = true) : Is K M (hid m H) v d := by
  rcases q with q | ⟨p, vs, ds, e1, e2, _⟩ | ⟨p, vs, ds, e1, e2, _⟩
  · exact q
  · subst e2; cases f
  · subst e2; cases f
theorem flatA {K : Fg0} {M : Ml} {H : Hp} : ∀ {vs : List V} {ds : List D}, IsA K M H vs ds → ds.all flatD = true → vs.all flatV = true
  | _, _, .nil, _ => rfl
  | _, _, .cons h t, f => by
    rw [List.all_cons, Bool.and_eq_true] at f ⊢
    exact ⟨flatV_of h f.1, flatA t f.2⟩
theorem inV_py {K : Fg0} {M : Ml} {H : Hp} {v : V} {x : D} (i : Is K M H v x) (fx : flatD x = true) : ∀ {vs : List V} {ds : List D}, IsA K M H vs ds → ds.all flatD = true → inV v vs = memD x ds
  | _, _, .nil, _ => rfl
  | _, _, .cons h t, f => by
    rw [List.all_cons, Bool.and_eq_true] at f
    have e := inV_py i fx t f.2
    unfold inV memD at e ⊢
    rw [List.any_cons, List.any_cons, e, eqV_py h i f.1 fx]
def rInStr (neg : Bool) : R2 := fun x y H Q => ∃ i j, x = .str i ∧ y = .str j ∧ Q (.bl (neg ^^ !(Builtin.Str.occurrences j i 0 j.length 1).isEmpty)) H
def rInAll (K : Fg0) (neg : Bool) : R2 := fun x y H Q => rInStr neg x y H Q ∨ ((∃ d ds, Dp K H x d ∧ Dp K H y (.list ds) ∧ SeqAt.shaped d = true ∧ SeqAt.shaped (.list ds) = true ∧ Q (.bl (neg ^^ ds.any fun z => PyData.eqv z d)) H) ∨ rIn K neg x y H Q)
theorem rd_in {K : Fg0} {neg : Bool} : R2d K (rInAll K neg) (gIn neg) := fun M m H x y a b Q h ia ib q => by
  unfold gIn at q
  split at q
  · rename_i s t
    refine .inl ⟨_, _, ia.str.1, ib.str.1, ?_⟩
    have o := occ_S t s 1 (Nat.le_refl _)
    have e : (!(Builtin.Str.occurrences (S t) (S s) 0 (S t).length 1).isEmpty) = (sfind t s).isSome := by
      rw [← o]
      cases Builtin.Str.occurrences (S t) (S s) 0 (S t).length 1 <;> rfl
    rw [e]
    exact Wn.bl h q
  · rename_i ys
    refine .inr (.inl ⟨_, toPyA ys, ia.dp q.1, ib.dp q.2.1, shaped_py q.1, shaped_py q.2.1, ?_⟩)
    rw [mem_py]
    exact Wn.bl h q.2.2
  · obtain ⟨f1, f2, q⟩ := q
    obtain ⟨p, vs, rfl, r, k, _⟩ := ib.tup
    have i := ia.flat f1
    refine .inr (.inr ⟨p, vs, rfl, .inr r, flatV_of i f1, flatA k f2, ?_⟩)
    rw [inV_py i f1 k f2]
    have z := Wn.bl h q
    cases neg
    · simpa using z
    · simpa using z
  · exact q.elim
section
variable {K : Fg} {X : Cx}
theorem c_in {K : Fg0} (hu : X.A.units + 65 < cLine) (hK : X.K = K := by rfl) : CR K X .In (rInAll K false) (gIn false) := by
  subst hK
  refine ⟨OpR.or (fun pins s σ H x y v u Q I r1 r2 ⟨i, j, e1, e2, q⟩ => op_in_str pins s σ H x y v u Q I r1 r2 ⟨i, j, e1, e2, by simpa using q⟩) (OpR.or (fun pins s σ H x y v u Q I r1 r2 ⟨i, j, e1, e2, e3, e4, q⟩ => op_inD hu pins s σ H x y v u Q I r1 r2 ⟨i, j, e1, e2, e3, e4, by simpa using q⟩) op_in_seq), rd_in, mo_gIn⟩
theorem c_nin {K : Fg0} (hu : X.A.units + 65 < cLine) (hK : X.K = K := by rfl) : CR K X .NotIn (rInAll K true) (gIn true) := by
  subst hK
  refine ⟨OpR.or (fun pins s σ H x y v u Q I r1 r2 ⟨i, j, e1, e2, q⟩ => op_notIn_str pins s σ H x y v u Q I r1 r2 ⟨i, j, e1, e2, by simpa using q⟩) (OpR.or (fun pins s σ H x y v u Q I r1 r2 ⟨i, j, e1, e2, e3, e4, q⟩ => op_notInD hu pins s σ H x y v u Q I r1 r2 ⟨i, j, e1, e2, e3, e4, by simpa using q⟩) op_notIn_seq), rd_in, mo_gIn⟩
end
end Pl

namespace Pl
open PySem PySem.Spec PyProof.Rows L2

/-! ### what a loop leaves -/
/-- from the heap H, m hidden, to H', m' hidden -/
structure Fw (m : Addr → Prop) (H : Hp) (m' : Addr → Prop) (H' : Hp) : Prop where
  keep : ∀ b o, ¬ m b → H b = some o → H' b = some o ∧ ¬ m' b
  there : ∀ b, H b ≠ none → H' b ≠ none
theorem Fw.refl {m : Addr → Prop} {H : Hp} : Fw m H m H := ⟨fun _ _ h e => ⟨e, h⟩, fun _ h => h⟩
theorem Fw.trans {m m1 m2 : Addr → Prop} {H H1 H2 : Hp} (a : Fw m H m1 H1) (b : Fw m1 H1 m2 H2) : Fw m H m2 H2 :=
  ⟨fun c o h e => let ⟨e1, h1⟩ := a.keep c o h e; b.keep c o h1 e1, fun c e => b.there c (a.there c e)⟩
theorem Fw.same {m m' : Addr → Prop} {H H' : Hp} (a : Fw m H m' H') : Same (hid m H) (hid m' H') := fun b o e => by
  obtain ⟨h, e⟩ := hid_some e
  obtain ⟨e1, h1⟩ := a.keep b o h e
  rw [hid_in h1]
  exact e1
theorem Hx.fw {M : Ml} {m : Addr → Prop} {H H' : Hp} (h : Hx M m H) (s : Stp M H H') : Fw m H m H' := ⟨fun b o n e => ⟨s.keep b o (fun q => n (h.mw b q)) e, n⟩, s.there⟩

/-! ### iterables by values -/
abbrev RI := V → Hp → (It → Hp → Prop) → Prop
def PIV (X : Cx) (tg : Expr) (r : RI) : Prop := ∀ (pins : List (Addr × Obj)) (s : Shared) (σ : L2.St) (H : Hp) (R : It → Hp → Prop) (x : V) (v : Value), Inv X pins σ H s → RelV x v → r x H R → wpAny (model X.prog X.w) X.A (pyIter v) (PIE X pins σ tg R) X.xe s
theorem PIV.or {X : Cx} {tg : Expr} {r r' : RI} (h : PIV X tg r) (h' : PIV X tg r') : PIV X tg (fun x H R => r x H R ∨ r' x H R) := fun pins s σ H R x v I rv q => q.elim (h pins s σ H R x v I rv) (h' pins s σ H R x v I rv)
theorem PIV.pi {X : Cx} {tg e : Expr} {te : TE} {r : RI} (h : PIV X tg r) (he : PE X e te) : PI X tg e (fun σ H R => te σ H fun x H1 => r x H1 R) := ⟨fun pins s σ H R I q => thn (he.run pins s σ H _ I q) fun v s1 ⟨x, H1, I1, r1, q1⟩ => h pins s1 σ H1 R x v I1 r1 q1⟩
section
variable {X : Cx} {tg : Expr}
theorem piv_list : PIV X tg (fun x H R => ∃ a xs, x = .ref a ∧ SqL X.K H a xs ∧ R (Itl X.K a) H) := by
  intro pins s σ H R x v I rv ⟨a, xs, e, hq, q⟩
  subst e
  cases rv
  obtain ⟨its, rv, p, hz⟩ := I.list hq
  exact wpAny_pyIter_list p.isList (pi_one (tk := s.toks) I _ (turn_list a _) ⟨_, Heap.get?_push_size _ rfl, rfl, rfl⟩ q)
theorem piv_tup : PIV X tg (fun x H R => ∃ a xs, x = .ref a ∧ SqT X.K H a xs ∧ R (Itt X.K a) H) := by
  intro pins s σ H R x v I rv ⟨a, xs, e, hq, q⟩
  subst e
  cases rv
  obtain ⟨its, rv, p, hz⟩ := I.tuple hq
  exact wpAny_pyIter_tuple (show s.heap.IsTuple a its.toArray from p) (pi_one (tk := s.toks) I _ (turn_tuple a _) ⟨_, Heap.get?_push_size _ rfl, rfl, rfl⟩ q)
theorem piv_str : PIV X tg (fun y H R => ∃ x, y = .str x ∧ R (Its x) H) := by
  intro pins s σ H R y v I rv ⟨x, e, q⟩
  subst e
  obtain ⟨t, rfl⟩ := rv
  cases ha : x.cps.all (· < 128)
  · exact wpAny_pyIter_wide ha (pi_one (tk := s.toks) I _ (turn_str _ x t "str_iterator" (.inr rfl)) ⟨_, Heap.get?_push_size _ rfl, rfl, rfl⟩ q)
  · exact wpAny_pyIter_ascii ha (pi_one (tk := s.toks) I _ (turn_str _ x t "str_ascii_iterator" (.inl rfl)) ⟨_, Heap.get?_push_size _ rfl, rfl, rfl⟩ q)
end
def rIt3 (K : Fg0) : RI := fun x H R => (∃ a xs, x = .ref a ∧ SqL K H a xs ∧ R (Itl K a) H) ∨ ((∃ a xs, x = .ref a ∧ SqT K H a xs ∧ R (Itt K a) H) ∨ ∃ y, x = .str y ∧ R (Its y) H)

/-! ### what an iterable yields -/
/-- in a comprehension: the heap steps -/
def YlC (K : Fg0) (M : Ml) (m : Addr → Prop) (J : It) (H1 : Hp) (ds : List D) : Prop :=
  ∀ m' H', Stp M H1 H' → Fw m H1 m' H' → Hx M m' H' → (∀ (i : Nat) d, ds[i]? = some d → J.go i H' ∧ ∀ v H'', J.yld i H' v H'' → Stp M H' H'' ∧ Is K M (hid m' H'') v d) ∧ J.stop ds.length H'
/-- in a for -/
def YlF (K : Fg0) (M : Ml) (m : Addr → Prop) (J : It) (H1 : Hp) (ds : List D) : Prop :=
  ∀ m' H', Fw m H1 m' H' → Hx M m' H' → (∀ (i : Nat) d, ds[i]? = some d → J.go i H' ∧ ∀ v H'', J.yld i H' v H'' → Stp M H' H'' ∧ Is K M (hid m' H'') v d) ∧ J.stop ds.length H'
abbrev FI := En → (List D → Prop) → Prop
def RdIC (K : Fg) (w : TI) (f : FI) : Prop := ∀ (M : Ml) H0 z m H σ ρ (R : It → Hp → Prop), EnOk K M H0 z m H σ ρ → f ρ (fun ds => ∀ J H1, Stp M H H1 → YlC K M m J H1 ds → ds.length ≤ sizeLine → R J H1) → w σ H R
def RdIF (K : Fg) (w : TI) (f : FI) : Prop := ∀ (M : Ml) H0 z m H σ ρ (R : It → Hp → Prop), EnOk K M H0 z m H σ ρ → f ρ (fun ds => ∀ J H1, Stp M H H1 → YlF K M m J H1 ds → R J H1) → w σ H R
structure DIC (K : Fg) (X : Cx) (tg e : Expr) (w : TI) (f : FI) : Prop where
  pi : PI X tg e w
  rd : RdIC K w f
  mo : MoA f
structure DIF (K : Fg) (X : Cx) (tg e : Expr) (w : TI) (f : FI) : Prop where
  pi : PI X tg e w
  rd : RdIF K w f
  mo : MoA f
/-- the items of a list, a tuple, a text -/
def itms : D → Option (List D)
  | .lst xs => some xs
  | .tup xs => some xs
  | .str x => some (x.map fun c => .str [c])
  | .scr ns => some (ns.map D.int)
  | _ => none
def iOf (f : FE) : FI := fun ρ Q => f ρ fun d => exS (itms d) Q
theorem mo_iOf {f : FE} (h : MoE f) : MoA (iOf f) := fun ρ Q Q' k q => h ρ _ _ (fun d q => let ⟨ds, e, q⟩ := q; ⟨ds, e, k _ q⟩) q
section
variable {K : Fg} {M : Ml} {m : Addr → Prop} {H1 : Hp}
/-- the sources, by a frame that keeps them -/
theorem go_list {K : Fg0} {H' : Hp} {a : Addr} {vs : List V} {ds : List D} {mm : Addr → Prop} (h : Hx M mm H') (e : SqL K H' a vs) (k : IsA K M (hid mm H') vs ds) :
    (∀ (i : Nat) d, ds[i]? = some d → (Itl K a).go i H' ∧ ∀ v H'', (Itl K a).yld i H' v H'' → Stp M H' H'' ∧ Is K M (hid mm H'') v d) ∧ (Itl K a).stop ds.length H' := by
  refine ⟨fun i d q => ?_, vs, e, by rw [k.length]; exact Nat.le_refl _⟩
  obtain ⟨v, e1, i1⟩ := k.get q
  refine ⟨⟨vs, v, e, e1⟩, fun v' H'' ⟨e2, y⟩ => ?_⟩
  subst e2
  have := y vs e
  rw [e1] at this
  cases this
  exact ⟨.refl h.ok, i1⟩
theorem go_tup {K : Fg0} {H' : Hp} {a : Addr} {vs : List V} {ds : List D} {mm : Addr → Prop} (h : Hx M mm H') (e : SqT K H' a vs) (k : IsA K M (hid mm H') vs ds) :
    (∀ (i : Nat) d, ds[i]? = some d → (Itt K a).go i H' ∧ ∀ v H'', (Itt K a).yld i H' v H'' → Stp M H' H'' ∧ Is K M (hid mm H'') v d) ∧ (Itt K a).stop ds.length H' := by
  refine ⟨fun i d q => ?_, vs, e, by rw [k.length]; exact Nat.le_refl _⟩
  obtain ⟨v, e1, i1⟩ := k.get q
  refine ⟨⟨vs, v, e, e1⟩, fun v' H'' ⟨e2, y⟩ => ?_⟩
  subst e2
  have := y vs e
  rw [e1] at this
  cases this
  exact ⟨.refl h.ok, i1⟩
theorem go_str {K : Fg0} {H' : Hp} {x : List Nat} {mm : Addr → Prop} (h : Hx M mm H') :
    (∀ (i : Nat) d, (x.map fun c => D.str [c])[i]? = some d → (Its (S x)).go i H' ∧ ∀ v H'', (Its (S x)).yld i H' v H'' → Stp M H' H'' ∧ Is K M (hid mm H'') v d) ∧ (Its (S x)).stop (x.map fun c => D.str [c]).length H' := by
  have sz : (S x).cps.size = x.length := by simp [S]
  refine ⟨fun i d q => ?_, by rw [List.length_map]; show (S x).cps.size ≤ _; rw [sz]; exact Nat.le_refl _⟩
  rw [List.getElem?_map] at q
  cases e : x[i]? with
  | none => rw [e] at q; cases q
  | some c =>
    rw [e] at q
    cases q
    refine ⟨?_, fun v H'' ⟨e2, c', e3, e4⟩ => ?_⟩
    · show i < (S x).cps.size
      rw [sz]
      exact (List.getElem?_eq_some_iff.mp e).1
    · subst e2
      have : (S x).cps[i]? = some c := by
        have : (S x).cps[i]? = x[i]? := by simp [S]
        rw [this, e]
      rw [this] at e3
      cases e3
      subst e4
      exact ⟨.refl h.ok, .str [c] (by show 1 ≤ sizeLine; decide)⟩
end
section
variable {K : Fg} {X : Cx} {tg e : Expr} {te : TE} {f : FE}
theorem piv3 {K : Fg0} (hK : X.K = K) : PIV X tg (rIt3 K) := by
  subst hK
  exact piv_list.or (piv_tup.or piv_str)
/-- for .. in e -/
theorem i_for (h : DE K X e te f) (hK : X.K = K := by rfl) : DIF K X tg e (fun σ H R => te σ H fun x H1 => rIt3 K x H1 R) (iOf f) := by
  refine ⟨(piv3 hK).pi h.pe, fun M H0 z m H σ ρ R I q => h.rd M H0 z m H σ ρ _ I (h.mo ρ _ _ (fun d ⟨ds, e, q⟩ v H1 s1 i1 => ?_) q), mo_iOf h.mo⟩
  have hx := I.hx.step s1
  cases i1 with
  | lst r k zz =>
    cases e
    obtain ⟨n, r'⟩ := hid_some r
    refine .inl ⟨_, _, rfl, .of r', q _ H1 s1 fun m' H' fw hx' => ?_⟩
    exact go_list hx' (.of (fw.keep _ _ n r').1) (k.mono fw.same)
  | tup r k zz =>
    cases e
    refine .inr (.inl ⟨_, _, rfl, same_sqT hid_all r, q _ H1 s1 fun m' H' fw hx' => ?_⟩)
    exact go_tup hx' (same_sqT hid_all (same_sqT fw.same r)) (k.mono fw.same)
  | str x zz =>
    cases e
    exact .inr (.inr ⟨_, rfl, q _ H1 s1 fun m' H' fw hx' => go_str hx'⟩)
  | scr r zz =>
    cases e
    refine .inl ⟨_, _, rfl, same_sqL hid_all r, q _ H1 s1 fun m' H' fw hx' => ?_⟩
    exact go_list hx' (same_sqL hid_all (same_sqL fw.same r)) .ofInts
  | non => cases e
  | bl _ => cases e
  | int _ => cases e
  | dk _ _ => cases e
  | ml _ => cases e
/-- [.. for .. in e] -/
theorem i_cmp (h : DT K X e te f) (hK : X.K = K := by rfl) : DIC K X tg e (fun σ H R => te σ H fun x H1 => rIt3 K x H1 R) (iOf f) := by
  refine ⟨(piv3 hK).pi h.pe, fun M H0 z m H σ ρ R I q => h.rd M H0 z m H σ ρ _ I (h.mo ρ _ _ (fun d ⟨ds, e, q⟩ v H1 s1 i1 => ?_) q), mo_iOf h.mo⟩
  have hx := I.hx.step s1
  rcases i1 with i1 | ⟨p, vs, xs, rfl, rfl, r, n, k, zz⟩ | ⟨p, vs, xs, rfl, rfl, r, n, k⟩
  · cases i1 with
    | lst r k zz =>
      cases e
      obtain ⟨n, r'⟩ := hid_some r
      exact .inl ⟨_, _, rfl, .of r', q _ H1 s1 (fun m' H' s2 fw hx' => go_list hx' (.of (fw.keep _ _ n r').1) (k.mono fw.same)) zz⟩
    | tup r k zz =>
      cases e
      exact .inr (.inl ⟨_, _, rfl, same_sqT hid_all r, q _ H1 s1 (fun m' H' s2 fw hx' => go_tup hx' (same_sqT hid_all (same_sqT fw.same r)) (k.mono fw.same)) zz⟩)
    | str x zz =>
      cases e
      exact .inr (.inr ⟨_, rfl, q _ H1 s1 (fun m' H' s2 fw hx' => go_str hx') (by rw [List.length_map]; exact zz)⟩)
    | scr r zz =>
      cases e
      exact .inl ⟨_, _, rfl, same_sqL hid_all r, q _ H1 s1 (fun m' H' s2 fw hx' => go_list hx' (same_sqL hid_all (same_sqL fw.same r)) .ofInts) (by rw [List.length_map]; exact Nat.le_trans zz (by decide))⟩
    | non => cases e
    | bl _ => cases e
    | int _ => cases e
    | dk _ _ => cases e
    | ml _ => cases e
  · cases e
    exact .inl ⟨_, _, rfl, .of r, q _ H1 s1 (fun m' H' s2 fw hx' => go_list hx' (.of (s2.keep _ _ n r)) (k.mono fw.same)) zz⟩
  · cases e
end
end Pl

namespace Pl
open PySem PySem.Spec PyProof.Rows L2

/-! ### range -/
def rng (lo : Int) (n : Nat) : List D := (List.range n).map fun k : Nat => D.int (lo + (k : Int))
theorem rng_len (lo : Int) (n : Nat) : (rng lo n).length = n := by simp [rng]
theorem rng_get {lo : Int} {n i : Nat} {d : D} (e : (rng lo n)[i]? = some d) : i < n ∧ d = .int (lo + (i : Int)) := by
  unfold rng at e
  rw [List.getElem?_map] at e
  by_cases h : i < n
  · rw [List.getElem?_range h] at e
    cases e
    exact ⟨h, rfl⟩
  · rw [List.getElem?_eq_none (by simpa using h)] at e
    cases e
theorem go_rng {K : Fg0} {M : Ml} {mm : Addr → Prop} {H' : Hp} {lo : Int} {n : Nat} (h : M.ok H') : (∀ (i : Nat) d, (rng lo n)[i]? = some d → (Itr lo n).go i H' ∧ ∀ v H'', (Itr lo n).yld i H' v H'' → Stp M H' H'' ∧ Is K M (hid mm H'') v d) ∧ (Itr lo n).stop (rng lo n).length H' := by
  refine ⟨fun i d e => ?_, by rw [rng_len]; exact Nat.le_refl _⟩
  obtain ⟨h1, h2⟩ := rng_get e
  refine ⟨h1, fun v H'' ⟨e1, e2⟩ => ?_⟩
  subst e1
  subst e2
  subst h2
  exact ⟨.refl h, .int _⟩
def B62 (i : Int) : Prop := -16777216 ≤ i ∧ i ≤ 16777216
def iR1 (f : FA) : FI := fun ρ Q => f ρ fun ds => match ds with
  | [.int j] => B62 j ∧ Q (rng 0 j.toNat)
  | _ => False
def iR2 (f : FA) : FI := fun ρ Q => f ρ fun ds => match ds with
  | [.int i, .int j] => B62 i ∧ B62 j ∧ j - i ≤ 16777216 ∧ Q (rng i (j - i).toNat)
  | _ => False
theorem mo_iR1 {f : FA} (h : MoA f) : MoA (iR1 f) := fun ρ Q Q' k q => h ρ _ _ (fun ds q => by
  revert q
  split
  · exact fun q => ⟨q.1, k _ q.2⟩
  · exact fun q => q) q
theorem mo_iR2 {f : FA} (h : MoA f) : MoA (iR2 f) := fun ρ Q Q' k q => h ρ _ _ (fun ds q => by
  revert q
  split
  · exact fun q => ⟨q.1, q.2.1, q.2.2.1, k _ q.2.2.2⟩
  · exact fun q => q) q
section
variable {K : Fg} {X : Cx} {tg a b : Expr} {ta : TA} {fa : FA} {p pos : Pos}
theorem i_r1c (hm : X.mg "range" = none) (ha : DAT K X [a] ta fa) (hg : Gl X "range" := by rfl) (hs : starEach [a] X.env = [(false, eval a X.env)] := by rfl) : DIC K X tg (.Call (.Name "range" p) [a] [] pos) (iRng1 ta) (iR1 fa) := by
  refine ⟨pi_range1 hg hm ha.pa hs, fun M H0 z m H σ ρ R I q => ha.rd M H0 z m H σ ρ _ I (ha.mo ρ _ _ (fun ds q vs H1 s1 i1 => ?_) q), mo_iR1 ha.mo⟩
  revert q
  split
  · rintro ⟨⟨b1, b2⟩, q⟩
    obtain ⟨v, rfl, i⟩ := i1.one
    exact ⟨_, by rw [i.int], by omega, by omega, q _ H1 s1 (fun m' H' s2 fw hx => go_rng hx.ok) (by rw [rng_len, sizeLine_eq]; omega)⟩
  · exact fun q => q.elim
theorem i_r1f (hm : X.mg "range" = none) (ha : DAT K X [a] ta fa) (hg : Gl X "range" := by rfl) (hs : starEach [a] X.env = [(false, eval a X.env)] := by rfl) : DIF K X tg (.Call (.Name "range" p) [a] [] pos) (iRng1 ta) (iR1 fa) := by
  refine ⟨pi_range1 hg hm ha.pa hs, fun M H0 z m H σ ρ R I q => ha.rd M H0 z m H σ ρ _ I (ha.mo ρ _ _ (fun ds q vs H1 s1 i1 => ?_) q), mo_iR1 ha.mo⟩
  revert q
  split
  · rintro ⟨⟨b1, b2⟩, q⟩
    obtain ⟨v, rfl, i⟩ := i1.one
    exact ⟨_, by rw [i.int], by omega, by omega, q _ H1 s1 fun m' H' fw hx => go_rng hx.ok⟩
  · exact fun q => q.elim
theorem i_r2c (hm : X.mg "range" = none) (ha : DAT K X [a, b] ta fa) (hg : Gl X "range" := by rfl) (hs : starEach [a, b] X.env = [(false, eval a X.env), (false, eval b X.env)] := by rfl) (hs2 : starEach [b] X.env = [(false, eval b X.env)] := by rfl) : DIC K X tg (.Call (.Name "range" p) [a, b] [] pos) (iRng2 ta) (iR2 fa) := by
  refine ⟨pi_range2 hg hm ha.pa hs hs2, fun M H0 z m H σ ρ R I q => ha.rd M H0 z m H σ ρ _ I (ha.mo ρ _ _ (fun ds q vs H1 s1 i1 => ?_) q), mo_iR2 ha.mo⟩
  revert q
  split
  · rintro ⟨⟨b1, b1'⟩, ⟨b2, b2'⟩, b3, q⟩
    obtain ⟨v, w, rfl, i, j⟩ := i1.two
    exact ⟨_, _, by rw [i.int, j.int], ⟨by omega, by omega, by omega, by omega⟩, q _ H1 s1 (fun m' H' s2 fw hx => go_rng hx.ok) (by rw [rng_len, sizeLine_eq]; omega)⟩
  · exact fun q => q.elim
theorem i_r2f (hm : X.mg "range" = none) (ha : DAT K X [a, b] ta fa) (hg : Gl X "range" := by rfl) (hs : starEach [a, b] X.env = [(false, eval a X.env), (false, eval b X.env)] := by rfl) (hs2 : starEach [b] X.env = [(false, eval b X.env)] := by rfl) : DIF K X tg (.Call (.Name "range" p) [a, b] [] pos) (iRng2 ta) (iR2 fa) := by
  refine ⟨pi_range2 hg hm ha.pa hs hs2, fun M H0 z m H σ ρ R I q => ha.rd M H0 z m H σ ρ _ I (ha.mo ρ _ _ (fun ds q vs H1 s1 i1 => ?_) q), mo_iR2 ha.mo⟩
  revert q
  split
  · rintro ⟨⟨b1, b1'⟩, ⟨b2, b2'⟩, b3, q⟩
    obtain ⟨v, w, rfl, i, j⟩ := i1.two
    exact ⟨_, _, by rw [i.int, j.int], ⟨by omega, by omega, by omega, by omega⟩, q _ H1 s1 fun m' H' fw hx => go_rng hx.ok⟩
  · exact fun q => q.elim
end

/-! ### targets -/
abbrev FG := D → En → (En → Prop) → Prop
theorem wipe_get (σ : L2.St) (j : Nat) : ∀ vs : List Nat, (wipe σ vs)[j]? = if j ∈ vs then (σ[j]?).map (fun _ => none) else σ[j]?
  | [] => by simp [wipe]
  | v :: vs => by
    unfold wipe
    rw [List.getElem?_set, wipe_length]
    by_cases h : v = j
    · subst h
      simp only [List.mem_cons, true_or, if_true]
      by_cases l : v < σ.length
      · simp [l]
      · simp [l]
    · rw [if_neg h, wipe_get σ j vs]
      have : j ∈ v :: vs ↔ j ∈ vs := by simp [Ne.symm h]
      by_cases q : j ∈ vs
      · rw [if_pos q, if_pos (this.mpr q)]
      · rw [if_neg q, if_neg (fun z => q (this.mp z))]
/-- slots of ss alone are other -/
def Wp (ss : List Nat) (σ σ' : L2.St) : Prop := ∀ vs : List Nat, (∀ i ∈ ss, i ∈ vs) → wipe σ' vs = wipe σ vs
theorem Wp.refl {ss : List Nat} {σ : L2.St} : Wp ss σ σ := fun _ _ => rfl
theorem Wp.trans {ss tt : List Nat} {σ σ' σ2 : L2.St} (a : Wp ss σ σ') (b : Wp tt σ' σ2) : Wp (ss ++ tt) σ σ2 := fun vs h => (b vs fun i q => h i (List.mem_append_right _ q)).trans (a vs fun i q => h i (List.mem_append_left _ q))
theorem Wp.set {σ : L2.St} {i : Nat} {v : Option V} : Wp [i] σ (σ.set i v) := fun vs h => by
  apply List.ext_getElem?
  intro j
  rw [wipe_get, wipe_get, List.getElem?_set]
  have hi : i ∈ vs := h i (by simp)
  by_cases e : i = j
  · subst e
    rw [if_pos hi, if_pos hi, if_pos rfl]
    by_cases l : i < σ.length
    · simp [l]
    · simp [l]
  · rw [if_neg e]
/-- plain names alone are stored: H and what is hidden stay -/
def RdG (K : Fg) (ss : List Nat) (t : TG) (f : FG) : Prop := ∀ (M : Ml) H0 z m H σ ρ (v : V) (d : D) (Q : L2.St → Hp → Prop), EnOk K M H0 z m H σ ρ → Is K M (hid m H) v d → f d ρ (fun ρ' => ∀ σ', EnOk K M H0 z m H σ' ρ' → Wp ss σ σ' → Q σ' H) → t v σ H Q
def MoG (f : FG) : Prop := ∀ d ρ (Q Q' : En → Prop), (∀ ρ, Q ρ → Q' ρ) → f d ρ Q → f d ρ Q'
structure DG (K : Fg) (X : Cx) (tg : Expr) (ss : List Nat) (t : TG) (f : FG) : Prop where
  pg : PG X tg t
  rd : RdG K ss t f
  mo : MoG f
def gN (i : Nat) : FG := fun d ρ Q => i < ρ.length ∧ Q (ρ.set i (.d d))
theorem EnOk.put {K : Fg} {M : Ml} {H0 H : Hp} {z m : Addr → Prop} {σ : L2.St} {ρ : En} {i : Nat} {v : V} {d : D} (I : EnOk K M H0 z m H σ ρ) (hi : i < ρ.length) (h : Is K M (hid m H) v d) : EnOk K M H0 z m H (σ.set i (some v)) (ρ.set i (.d d)) := by
  refine ⟨I.st, I.stp, I.zw, I.zm, I.zt, I.tr, by rw [List.length_set, List.length_set, I.len], fun j s e => ?_, fun j k p s t e1 e2 o1 o2 e3 e4 => ?_⟩
  · by_cases hj : i = j
    · subst hj
      rw [List.getElem?_set_self hi] at e
      cases e
      rw [List.getElem?_set_self (by rw [I.len]; exact hi)]
      exact ⟨v, rfl, h⟩
    · rw [List.getElem?_set_ne hj] at e ⊢
      exact I.slot j s e
  · have nj : i ≠ j := by
      rintro rfl
      rw [List.getElem?_set_self hi] at e1
      cases e1
      exact o1
    have nk : i ≠ k := by
      rintro rfl
      rw [List.getElem?_set_self hi] at e2
      cases e2
      exact o2
    rw [List.getElem?_set_ne nj] at e1 e3
    rw [List.getElem?_set_ne nk] at e2 e4
    exact I.apart j k p s t e1 e2 o1 o2 e3 e4
section
variable {K : Fg} {X : Cx} {pos : Pos}
theorem g_n (i : Nat) {x : Str} (hN : X.N.Nodup) (hi : X.N[i]? = some x := by rfl) (hx : Loc X.env.scope x := by first | exact Or.inl rfl | exact Or.inr rfl) (hf : X.fn x = true ∨ X.env.scope.names.lookup x = some .local := by first | exact .inl rfl | exact .inr rfl) : DG K X (.Name x pos) [i] (gName i) (gN i) :=
  ⟨pg_name hN hi hx hf, fun M H0 z m H σ ρ v d Q I h q => q.2 _ (I.put q.1 h) .set, fun d ρ Q Q' k q => ⟨q.1, k _ q.2⟩⟩
end
abbrev FGs := List D → En → (En → Prop) → Prop
def RdGs (K : Fg) (ss : List Nat) (t : TGs) (f : FGs) : Prop := ∀ (M : Ml) H0 z m H σ ρ (v : List V) (d : List D) (Q : L2.St → Hp → Prop), EnOk K M H0 z m H σ ρ → IsA K M (hid m H) v d → f d ρ (fun ρ' => ∀ σ', EnOk K M H0 z m H σ' ρ' → Wp ss σ σ' → Q σ' H) → t v σ H Q
def MoGs (f : FGs) : Prop := ∀ d ρ (Q Q' : En → Prop), (∀ ρ, Q ρ → Q' ρ) → f d ρ Q → f d ρ Q'
structure DGs (K : Fg) (X : Cx) (ts : List Expr) (ss : List Nat) (t : TGs) (f : FGs) : Prop where
  pg : PGs X ts t
  rd : RdGs K ss t f
  mo : MoGs f
def gsNil : FGs := fun ds ρ Q => match ds with
  | [] => Q ρ
  | _ => False
def gsCons (f : FG) (g : FGs) : FGs := fun ds ρ Q => match ds with
  | d :: r => f d ρ fun ρ' => g r ρ' Q
  | _ => False
def gTupD (n : Nat) (g : FGs) : FG := fun d ρ Q => match d with
  | .tup ds => ds.length = n ∧ g ds ρ Q
  | _ => False
section
variable {K : Fg} {X : Cx} {pos : Pos} {e : Expr} {es : List Expr} {t : TG} {u : TGs} {f : FG} {g : FGs} {n k : Nat} {s1 s2 : List Nat}
theorem gs_nil : DGs K X [] [] gNil gsNil := by
  refine ⟨pgs_nil, fun M H0 z m H σ ρ v d Q I h q => ?_, fun d ρ Q Q' k q => ?_⟩
  · cases h with
    | nil => exact ⟨rfl, q σ I .refl⟩
    | cons _ _ => exact q.elim
  · cases d with
    | nil => exact k _ q
    | cons _ _ => exact q
theorem gs_cons (h : DG K X e s1 t f) (h2 : DGs K X es s2 u g) (hs : (assignEach (e :: es) X.env).map (·.2) = assign e X.env :: (assignEach es X.env).map (·.2) := by rfl) : DGs K X (e :: es) (s1 ++ s2) (gCons t u) (gsCons f g) := by
  refine ⟨pgs_cons h.pg h2.pg hs, fun M H0 z m H σ ρ v d Q I i q => ?_, fun d ρ Q Q' k q => ?_⟩
  · cases i with
    | nil => exact q.elim
    | cons i1 i2 => exact ⟨_, _, rfl, h.rd M H0 z m H σ ρ _ _ _ I i1 (h.mo _ _ _ _ (fun ρ' q σ' I' w => h2.rd M H0 z m H σ' ρ' _ _ Q I' i2 (h2.mo _ _ _ _ (fun ρ2 q σ2 I2 w2 => q σ2 I2 (w.trans w2)) q)) q)⟩
  · cases d with
    | nil => exact q
    | cons _ _ => exact h.mo _ _ _ _ (fun ρ' q => h2.mo _ _ _ _ k q) q
theorem g_tup (h : DGs K X es s1 u g) (hc : X.calm = true := by rfl) (hn : (assignEach es X.env).length = n := by rfl) (hst : (assignEach es X.env).findIdx? (·.1) = none := by rfl) (hK : X.K = K := by rfl) : DG K X (.Tuple es k pos) s1 (gTup K n u) (gTupD n g) := by
  obtain ⟨K, stK⟩ := K
  replace hK : X.K = K := hK
  subst hK
  refine ⟨pg_tup hc h.pg hn hst, fun M H0 z m H σ ρ v d Q I i q => ?_, fun d ρ Q Q' k q => ?_⟩
  · cases i with
    | tup r a _ => exact ⟨_, _, rfl, same_sqT hid_all r, by rw [a.length]; exact q.1, h.rd M H0 z m H σ ρ _ _ _ I a q.2⟩
    | _ => exact q.elim
  · cases d with
    | tup ds => exact ⟨q.1, h.mo _ _ _ _ k q.2⟩
    | _ => exact q
end
end Pl

namespace Pl
open PySem PySem.Spec PyProof.Rows L2

/-! ### list comprehensions -/
/-- the frame with some slots forgotten -/
def forget (ρ : En) : List Nat → En
  | [] => ρ
  | v :: vs => (forget ρ vs).set v .un
theorem forget_len (ρ : En) : ∀ vs : List Nat, (forget ρ vs).length = ρ.length
  | [] => rfl
  | v :: vs => by unfold forget; rw [List.length_set, forget_len ρ vs]
theorem EnOk.drop1 {K : Fg} {M : Ml} {H0 H : Hp} {z m : Addr → Prop} {σ : L2.St} {ρ : En} {i : Nat} (I : EnOk K M H0 z m H σ ρ) : EnOk K M H0 z m H (σ.set i none) (ρ.set i .un) := by
  refine ⟨I.st, I.stp, I.zw, I.zm, I.zt, I.tr, by rw [List.length_set, List.length_set, I.len], fun j s e => ?_, fun j k p s t e1 e2 o1 o2 e3 e4 => ?_⟩
  · by_cases hj : i = j
    · subst hj
      by_cases hi : i < ρ.length
      · rw [List.getElem?_set_self hi] at e
        cases e
        trivial
      · rw [List.getElem?_eq_none (by simpa using hi)] at e; cases e
    · rw [List.getElem?_set_ne hj] at e ⊢
      exact I.slot j s e
  · have nj : i ≠ j := by
      rintro rfl
      by_cases hi : i < ρ.length
      · rw [List.getElem?_set_self hi] at e1
        cases e1
        exact o1
      · rw [List.getElem?_eq_none (by simpa using hi)] at e1; cases e1
    have nk : i ≠ k := by
      rintro rfl
      by_cases hi : i < ρ.length
      · rw [List.getElem?_set_self hi] at e2
        cases e2
        exact o2
      · rw [List.getElem?_eq_none (by simpa using hi)] at e2; cases e2
    rw [List.getElem?_set_ne nj] at e1 e3
    rw [List.getElem?_set_ne nk] at e2 e4
    exact I.apart j k p s t e1 e2 o1 o2 e3 e4
theorem EnOk.wipe {K : Fg} {M : Ml} {H0 H : Hp} {z m : Addr → Prop} {σ : L2.St} {ρ : En} (I : EnOk K M H0 z m H σ ρ) : ∀ vs : List Nat, EnOk K M H0 z m H (L2.wipe σ vs) (forget ρ vs)
  | [] => I
  | v :: vs => (EnOk.wipe I vs).drop1
def lcGo (g : FG) (tt : FB) (fe : FE) (ρ : En) (Q : List D → Prop) : List D → List D → Prop
  | [], acc => Q acc
  | d :: r, acc => g d ρ fun ρ' => tt ρ' fun b => if b = true then fe ρ' fun y => lcGo g tt fe ρ Q r (acc ++ [y]) else lcGo g tt fe ρ Q r acc
def Lc (g : FG) (tt : FB) (fe : FE) (ρ : En) (Q : List D → Prop) (ds : List D) (_ : Dep Q := .mk) : Prop := lcGo g tt fe ρ Q ds []
def lcF (fi : FI) (g : FG) (tt : FB) (fe : FE) (vs : List Nat) : FA := fun ρ Q => fi ρ fun ds => Lc g tt fe (forget ρ vs) Q ds
theorem mo_lcGo {g : FG} {tt : FB} {fe : FE} (hg : MoG g) (ht : MoB tt) (he : MoE fe) (ρ : En) (Q Q' : List D → Prop) (k : ∀ x, Q x → Q' x) : ∀ ds acc, lcGo g tt fe ρ Q ds acc → lcGo g tt fe ρ Q' ds acc
  | [], acc, q => k _ q
  | d :: r, acc, q => by
    refine hg _ _ _ _ (fun ρ' q => ht _ _ _ (fun b q => ?_) q) q
    cases b
    · rw [if_neg Bool.false_ne_true] at q ⊢
      exact mo_lcGo hg ht he ρ Q Q' k r acc q
    · rw [if_pos rfl] at q ⊢
      exact he _ _ _ (fun y q => mo_lcGo hg ht he ρ Q Q' k r _ q) q
theorem mo_lcF {fi : FI} {g : FG} {tt : FB} {fe : FE} {vs : List Nat} (hi : MoA fi) (hg : MoG g) (ht : MoB tt) (he : MoE fe) : MoA (lcF fi g tt fe vs) := fun ρ Q Q' k q => hi ρ _ _ (fun ds q => mo_lcGo hg ht he _ Q Q' k ds [] q) q
/-- tests -/
structure DTs (K : Fg) (X : Cx) (ifs : List Expr) (t : TT) (f : FB) : Prop where
  pt : PTs X ifs t
  rd : RdB K t f
  mo : MoB f
def bYes : FB := fun _ Q => Q true
theorem ts_nil {K : Fg} {X : Cx} : DTs K X [] tYes bYes := ⟨pts_nil, fun M H0 z m H σ ρ Q I q => q H I.hx.rfl, fun _ _ _ k q => k _ q⟩
theorem ts_one {K : Fg} {X : Cx} {c : Expr} {t : TT} {f : FB} (h : DB K X c t f) : DTs K X [c] t f := ⟨pts_one h.pt, h.rd, h.mo⟩
theorem wipe_wipe (σ : L2.St) (vs : List Nat) : wipe (wipe σ vs) vs = wipe σ vs := by
  apply List.ext_getElem?
  intro j
  rw [wipe_get, wipe_get]
  by_cases h : j ∈ vs
  · rw [if_pos h, if_pos h]; cases σ[j]? <;> rfl
  · rw [if_neg h, if_neg h]
theorem same_wr {m : Addr → Prop} {H : Hp} {p : Addr} {o : HO} (hp : m p) : Same (hid m H) (hid m (upd H p o)) := hid_same fun b u n e => by rw [upd_ne fun z => n (by rw [z]; exact hp)]; exact e
theorem stp_wr {M : Ml} {H0 H : Hp} {p : Addr} {o : HO} (s : Stp M H0 H) (n0 : H0 p = none) (nw : ¬ M.w p) (nc : ∀ q, H p ≠ some (LamX.CodeO p q)) : Stp M H0 (upd H p o) := by
  refine ⟨fun b u n e => ?_, fun b e => ?_, ml_ok_of s.ok (fun b w => ?_) fun b q e => by rw [upd_ne fun zz => nc q (by rw [← zz]; rw [zz] at e ⊢; exact e)]; exact e⟩
  · rw [upd_ne (ne_of_none e n0)]; exact s.keep b u n e
  · by_cases zz : b = p
    · rw [zz, upd_same]; exact fun q => nomatch q
    · rw [upd_ne zz]; exact s.there b e
  · exact upd_ne fun zz => by subst zz; exact nw w
/-- a hidden object that no slot has is written -/
theorem EnOk.wr {K : Fg} {M : Ml} {H0 H : Hp} {z m : Addr → Prop} {σ : L2.St} {ρ : En} {p : Addr} {o : HO} (I : EnOk K M H0 z m H σ ρ) (hp : m p) (n0 : H0 p = none) (nw : ¬ M.w p) (nc : ∀ q, H p ≠ some (LamX.CodeO p q)) (no : ∀ (j : Nat) s, ρ[j]? = some s → Own s → σ[j]? ≠ some (some (.ref p))) : EnOk K M H0 z m (upd H p o) σ ρ := by
  refine ⟨I.st, stp_wr I.stp n0 nw nc, I.zw, I.zm, I.zt, fun b h => ?_, I.len, fun j s e => ?_, I.apart⟩
  · by_cases zz : b = p
    · rw [zz, upd_same]; exact fun q => nomatch q
    · rw [upd_ne zz]; exact I.tr b h
  · have sl := I.slot j s e
    have np := no j s e
    cases s with
    | un => trivial
    | ex _ _ _ => obtain ⟨e1, i⟩ := sl; exact ⟨e1, i.mono (same_wr hp)⟩
    | d x => obtain ⟨v, e1, i⟩ := sl; exact ⟨v, e1, i.mono (same_wr hp)⟩
    | ol xs =>
      obtain ⟨q, vs, e1, e2, i, r⟩ := sl
      refine ⟨q, vs, e1, ?_, i.mono (same_wr hp), r⟩
      rw [upd_ne fun z => np trivial (by rw [← z]; exact e1)]
      exact e2
    | od xs =>
      obtain ⟨q, vs, e1, e2, i, r⟩ := sl
      refine ⟨q, vs, e1, ?_, i.mono (same_wr hp), r⟩
      rw [upd_ne fun z => np trivial (by rw [← z]; exact e1)]
      exact e2
    | ot xs =>
      obtain ⟨q, vs, e1, e2, i, r⟩ := sl
      refine ⟨q, vs, e1, ?_, i.mono (same_wr hp), r⟩
      rw [upd_ne fun z => np trivial (by rw [← z]; exact e1)]
      exact e2
/-- where owned slots point -/
theorem EnOk.own_there {K : Fg} {M : Ml} {H0 H : Hp} {z m : Addr → Prop} {σ : L2.St} {ρ : En} {p : Addr} (I : EnOk K M H0 z m H σ ρ) (n : H p = none) : ∀ (j : Nat) s, ρ[j]? = some s → Own s → σ[j]? ≠ some (some (.ref p)) := fun j s e o c => by
  have sl := I.slot j s e
  cases s with
  | un => exact o
  | ex _ _ _ => exact o
  | d x => exact o
  | ol xs =>
    obtain ⟨q, vs, e1, e2, _⟩ := sl
    rw [c] at e1
    cases e1
    rw [n] at e2; cases e2
  | od xs =>
    obtain ⟨q, vs, e1, e2, _⟩ := sl
    rw [c] at e1
    cases e1
    rw [n] at e2; cases e2
  | ot xs =>
    obtain ⟨q, vs, e1, e2, _⟩ := sl
    rw [c] at e1
    cases e1
    rw [n] at e2; cases e2
/-- the turns of a comprehension -/
theorem rd_lc {K : Fg} {wi : TI} {g : TG} {tt : TT} {te : TE} {vs ss : List Nat} {fi : FI} {gg : FG} {ft : FB} {fe : FE} (hi : RdIC K wi fi) (mi : MoA fi) (hg : RdG K ss g gg) (mg : MoG gg) (ht : RdB K tt ft) (mt : MoB ft) (he : RdE K te fe) (me : MoE fe) (hss : ∀ i ∈ ss, i ∈ vs) :
    RdF K (tLc wi g tt te vs) (lcF fi gg ft fe vs) := by
  intro M H0 z m H σ ρ Q I q
  refine hi M H0 z m H σ ρ _ I (mi ρ _ _ (fun ds q J H1 s1 yl hl => ?_) q)
  intro Dn nD
  have I1 := I.step s1
  have no := (I1.wipe vs).own_there nD
  have n0 : H0 Dn = none := by
    cases e : H0 Dn with
    | none => rfl
    | some o => exact absurd nD (I1.stp.there Dn (by rw [e]; exact fun q => nomatch q))
  have nH : H Dn = none := by
    cases e : H Dn with
    | none => rfl
    | some o => exact absurd nD (s1.there Dn (by rw [e]; exact fun q => nomatch q))
  -- the frame of a turn, with the new list hidden
  refine ⟨fun i mm H2 => mm = ds.length - i ∧ i ≤ ds.length ∧ ∃ (acc : List D) (av : List V), EnOk K M H0 z (fun b => m b ∨ b = Dn) H2 (wipe σ vs) (forget ρ vs) ∧ Stp M H1 H2 ∧ H2 Dn = some (.lst av) ∧ IsA K M (hid (fun b => m b ∨ b = Dn) H2) av acc ∧ acc.length ≤ i ∧
      lcGo gg ft fe (forget ρ vs) (fun ds => ∀ p vs H', Stp M H H' → H p = none → H' p = some (.lst vs) → IsA K M (hid (fun b => m b ∨ b = p) H') vs ds → ds.length ≤ sizeLine → Q (.ref p) H') (ds.drop i) acc,
    ⟨ds.length, by simp, Nat.zero_le _, [], [], (I1.more (o := .lst []) nD).wipe vs, .new s1.ok nD, upd_same, .nil, Nat.le_refl _, q⟩, ?_⟩
  rintro i mm H2 ⟨rfl, hi, acc, av, I2, s2, eD, ia, al, q2⟩
  have hx2 := I2.hx
  have fw2 : Fw m H1 (fun b => m b ∨ b = Dn) H2 := ⟨fun b o n e => ⟨s2.keep b o (fun w => n (I.mw b w)) e, fun w => w.elim n fun w => by subst w; rw [nD] at e; cases e⟩, s2.there⟩
  obtain ⟨gy, st⟩ := yl _ H2 s2 fw2 hx2
  by_cases hlt : i < ds.length
  · refine .inr ?_
    have ed : ds[i]? = some ds[i] := List.getElem?_eq_getElem hlt
    obtain ⟨go, yld⟩ := gy i ds[i] ed
    refine ⟨go, fun H3 => ∃ (acc : List D) (av : List V), EnOk K M H0 z (fun b => m b ∨ b = Dn) H3 (wipe σ vs) (forget ρ vs) ∧ Stp M H1 H3 ∧ H3 Dn = some (.lst av) ∧ IsA K M (hid (fun b => m b ∨ b = Dn) H3) av acc ∧ acc.length ≤ i + 1 ∧
      lcGo gg ft fe (forget ρ vs) (fun ds => ∀ p vs H', Stp M H H' → H p = none → H' p = some (.lst vs) → IsA K M (hid (fun b => m b ∨ b = p) H') vs ds → ds.length ≤ sizeLine → Q (.ref p) H') (ds.drop (i + 1)) acc, fun H3 hN => ⟨ds.length - (i + 1), by omega, rfl, hlt, hN⟩, fun x H3 hy => ?_⟩
    obtain ⟨s3, ix⟩ := yld x H3 hy
    have I3 := I2.step s3
    have nw : ¬ M.w Dn := fun z2 => Ml.tr s1.ok Dn z2 nD
    rw [List.drop_eq_getElem_cons hlt] at q2
    refine hg M H0 z _ H3 (wipe σ vs) (forget ρ vs) x ds[i] _ I3 ix (mg _ _ _ _ (fun ρ' q3 σ' I4 w => ⟨?_, ?_⟩) q2)
    · have e1 := w vs hss
      rw [e1, wipe_wipe]
    · refine ht M H0 z _ H3 σ' ρ' _ I4 (mt _ _ _ (fun b q4 H4 s4 => ?_) q3)
      have s14 : Stp M H1 H4 := (s2.trans s3).trans s4
      have I4' := (I3.step s4)
      have eD4 : H4 Dn = some (.lst av) := s4.keep _ _ nw (s3.keep _ _ nw eD)
      have ia4 := ia.mono ((hx2.same s3).trans ((hx2.step s3).same s4))
      cases b
      · rw [if_neg Bool.false_ne_true] at q4 ⊢
        exact ⟨acc, av, I4', s14, eD4, ia4, by omega, q4⟩
      · rw [if_pos rfl] at q4 ⊢
        refine he M H0 z _ H4 σ' ρ' _ (I4.step s4) (me _ _ _ (fun y q5 v H5 s5 iv => ⟨av, s5.keep _ _ nw eD4, ?_, ?_⟩) q4)
        · rw [ia4.length]; omega
        · have hx4 := I4'.hx
          have s6 : Same (hid (fun b => m b ∨ b = Dn) H5) (hid (fun b => m b ∨ b = Dn) (upd H5 Dn (.lst (av ++ [v])))) := same_wr (.inr rfl)
          have s16 : Stp M H1 (upd H5 Dn (.lst (av ++ [v]))) := stp_wr (s14.trans s5) nD nw (nc_of (s5.keep _ _ nw eD4) fun _ z => nomatch z)
          refine ⟨acc ++ [y], av ++ [v], ?_, s16, upd_same, ((ia4.mono (hx4.same s5)).mono s6).append (.one (iv.mono s6)), by rw [List.length_append]; simp only [List.length_singleton]; omega, q5⟩
          exact (I4'.step s5).wr (.inr rfl) n0 nw (nc_of (s5.keep _ _ nw eD4) fun _ z => nomatch z) no
  · refine .inl ⟨?_, ?_⟩
    · have : i = ds.length := by omega
      rw [this]; exact st
    · have e : ds.drop i = [] := List.drop_eq_nil_of_le (by omega)
      rw [e] at q2
      refine q2 Dn av H2 (s1.trans s2) nH eD ia (by omega)
section
variable {K : Fg} {X : Cx} {elt tg iter : Expr} {ifs : List Expr} {scope : Scope} {own : List (Str × Nat)} {pos : Pos} {wi : TI} {g : TG} {tt : TT} {te : TE} {ss : List Nat} {fi : FI} {gg : FG} {ft : FB} {fe : FE}
/-- [elt for tg in iter if ..] -/
theorem l_lc (hN : X.N.Nodup) (hi : DIC K X tg iter wi fi) (ok : BlkOk X.N X.env.scope scope own)
    (hg : ∀ (s : Shared) (H : Hp) (C : Addr) (cl : List (Str × Addr)) (fp : List Addr), DG K (X.blk s H scope (compEnvC scope cl C X.env) fp) tg ss g gg) (ht : ∀ (s : Shared) (H : Hp) (C : Addr) (cl : List (Str × Addr)) (fp : List Addr), DTs K (X.blk s H scope (compEnvC scope cl C X.env) fp) ifs tt ft)
    (he : ∀ (s : Shared) (H : Hp) (C : Addr) (cl : List (Str × Addr)) (fp : List Addr), DE K (X.blk s H scope (compEnvC scope cl C X.env) fp) elt te fe) (hss : ∀ i ∈ ss, i ∈ own.map (·.2) := by decide) (hs : ∀ x, foldedSetIterable iter X.env x = pure x := by intro _; rfl) (hc : X.calm = true := by rfl) :
    DF K X (.ListComp elt [⟨tg, iter, ifs, 0⟩] scope pos) (tLc wi g tt te (own.map (·.2))) (lcF fi gg ft fe (own.map (·.2))) := by
  have g0 := hg X.s_0 X.H_0 0 [] []
  have t0 := ht X.s_0 X.H_0 0 [] []
  have e0 := he X.s_0 X.H_0 0 [] []
  exact ⟨pe_lc hc hN hi.pi ok (fun s H C cl fp => (hg s H C cl fp).pg) (fun s H C cl fp => (ht s H C cl fp).pt) (fun s H C cl fp => (he s H C cl fp).pe) hs, rd_lc hi.rd hi.mo g0.rd g0.mo t0.rd t0.mo e0.rd e0.mo hss, mo_lcF hi.mo g0.mo t0.mo e0.mo⟩
end
end Pl

namespace Pl
open PySem PySem.Spec PyProof.Rows L2

/-! ### statements -/
structure DEn where
  nx : En → Prop
  rt : D → Prop
  bk : En → Prop := fun _ => False
  ct : En → Prop := fun _ => False
  rm : Nat → Prop := fun _ => False
abbrev FS := DEn → En → Prop
/-- what is wanted over the heap, by what is wanted of plain data -/
structure Co (K : Fg) (M : Ml) (H0 : Hp) (z m : Addr → Prop) (H : Hp) (W : Ends) (E : DEn) : Prop where
  nx : ∀ m' σ' H' ρ', EnOk K M H0 z m' H' σ' ρ' → Fw m H m' H' → E.nx ρ' → W.nx σ' H'
  bk : ∀ m' σ' H' ρ', EnOk K M H0 z m' H' σ' ρ' → Fw m H m' H' → E.bk ρ' → W.bk σ' H'
  ct : ∀ m' σ' H' ρ', EnOk K M H0 z m' H' σ' ρ' → Fw m H m' H' → E.ct ρ' → W.ct σ' H'
  rt : ∀ v H' d, Stp M H0 H' → Is K M (hid z H') v d → E.rt d → W.rt v H'
  rm : ∀ (μ δ : Addr) k H', Stp M H0 H' → H0 μ = none → H0 δ = none → (Ml.at μ δ k []).ok H' → E.rm k → W.rt (.ref μ) H'
theorem Co.fw {K : Fg} {M : Ml} {H0 H H1 : Hp} {z m m1 : Addr → Prop} {W : Ends} {E : DEn} (c : Co K M H0 z m H W E) (f : Fw m H m1 H1) : Co K M H0 z m1 H1 W E :=
  ⟨fun m' σ' H' ρ' I f' q => c.nx m' σ' H' ρ' I (f.trans f') q, fun m' σ' H' ρ' I f' q => c.bk m' σ' H' ρ' I (f.trans f') q, fun m' σ' H' ρ' I f' q => c.ct m' σ' H' ρ' I (f.trans f') q, c.rt, c.rm⟩
def RdS (K : Fg) (t : TS) (f : FS) : Prop := ∀ (M : Ml) H0 z m H σ ρ (W : Ends) (E : DEn), EnOk K M H0 z m H σ ρ → Co K M H0 z m H W E → f E ρ → t W σ H
structure DS (K : Fg) (X : Cx) (st : Stmt) (t : TS) (f : FS) : Prop where
  ps : PS X st t
  rd : RdS K t f
structure DSs (K : Fg) (X : Cx) (st : List Stmt) (t : TS) (f : FS) : Prop where
  ps : PSs X st t
  rd : RdS K t f
section
variable {K : Fg} {M : Ml} {H0 H H' : Hp} {z m : Addr → Prop} {σ : L2.St} {ρ : En}
theorem EnOk.fw (I : EnOk K M H0 z m H σ ρ) (s : Stp M H H') : Fw m H m H' := I.hx.fw s
/-- a returned value -/
theorem EnOk.out (I : EnOk K M H0 z m H σ ρ) {v : V} {d : D} (i : Is K M (hid m H) v d) : Is K M (hid z H) v d := i.mono (hid_less I.zm)
end
/-- blocks -/
def sNil : FS := fun E ρ => E.nx ρ
def sSeq (f g : FS) : FS := fun E ρ => f { E with nx := g E } ρ
section
variable {K : Fg} {X : Cx} {st : Stmt} {rest : List Stmt} {t u : TS} {f g : FS}
theorem d_nil : DSs K X [] tNext sNil := ⟨pss_nil, fun M H0 z m H σ ρ W E I c q => c.nx m σ H ρ I .refl q⟩
theorem d_seq (h : DS K X st t f) (k : DSs K X rest u g) : DSs K X (st :: rest) (tSeq t u) (sSeq f g) := by
  refine ⟨pss_cons h.ps k.ps, fun M H0 z m H σ ρ W E I c q => ?_⟩
  exact h.rd M H0 z m H σ ρ { W with nx := u W } { E with nx := g E } I ⟨fun m' σ' H' ρ' I' f' q' => k.rd M H0 z m' H' σ' ρ' W E I' (c.fw f') q', c.bk, c.ct, c.rt, c.rm⟩ q
theorem d_one (h : DS K X st t f) : DSs K X [st] t f := ⟨pss_one h.ps, h.rd⟩
theorem d_pass {pos} : DS K X (.Pass pos) tNext sNil := ⟨ps_pass, fun M H0 z m H σ ρ W E I c q => c.nx m σ H ρ I .refl q⟩
def sBreak : FS := fun E ρ => E.bk ρ
def sCont : FS := fun E ρ => E.ct ρ
theorem d_break {pos} : DS K X (.Break pos) tBreak sBreak := ⟨ps_break, fun M H0 z m H σ ρ W E I c q => c.bk m σ H ρ I .refl q⟩
theorem d_cont {pos} : DS K X (.Continue pos) tCont sCont := ⟨ps_continue, fun M H0 z m H σ ρ W E I c q => c.ct m σ H ρ I .refl q⟩
end
/-- x = e -/
def sSet (i : Nat) (f : FE) : FS := fun E ρ => i < ρ.length ∧ f ρ fun d => E.nx (ρ.set i (.d d))
def sSetL (i : Nat) (f : FA) : FS := fun E ρ => i < ρ.length ∧ f ρ fun ds => E.nx (ρ.set i (.ol ds))
def sDrop (f : FE) : FS := fun E ρ => f ρ fun _ => E.nx ρ
def sRet (f : FE) : FS := fun E ρ => f ρ E.rt
def sRetN : FS := fun E _ => E.rt .non
def sIf (c : FB) (f g : FS) : FS := fun E ρ => c ρ fun b => ifB b (f E ρ) (g E ρ)
/-- a list of the frame's own is handed on: no more stores to it -/
def freeze (ρ : En) (i : Nat) : En := match ρ[i]? with
  | some (.ol xs) => ρ.set i (.d (.lst xs))
  | _ => ρ
theorem EnOk.putL {K : Fg} {M : Ml} {H0 H : Hp} {z m : Addr → Prop} {σ : L2.St} {ρ : En} {i : Nat} {p : Addr} {vs : List V} {ds : List D} (I : EnOk K M H0 z m H σ ρ) (hi : i < ρ.length) (n : ¬ m p) (nw : ¬ M.w p) (n0 : H0 p = none) (e : H p = some (.lst vs)) (a : IsA K M (hid (fun b => m b ∨ b = p) H) vs ds) (zl : ds.length ≤ sizeLine)
    (old : ∀ (j : Nat) s, ρ[j]? = some s → SlOk K M H0 (fun b => m b ∨ b = p) H σ[j]? s) : EnOk K M H0 z (fun b => m b ∨ b = p) H (σ.set i (some (.ref p))) (ρ.set i (.ol ds)) := by
  have np : ∀ (j : Nat) s, ρ[j]? = some s → Own s → σ[j]? ≠ some (some (.ref p)) := fun j s e1 o c => by
    have sl := I.slot j s e1
    cases s with
    | un => exact o
    | ex _ _ _ => exact o
    | d x => exact o
    | ol xs => obtain ⟨q, vs, e2, _, _, r, _⟩ := sl; rw [c] at e2; cases e2; exact n r
    | od xs => obtain ⟨q, vs, e2, _, _, r, _⟩ := sl; rw [c] at e2; cases e2; exact n r
    | ot xs => obtain ⟨q, vs, e2, _, _, r, _⟩ := sl; rw [c] at e2; cases e2; exact n r
  refine ⟨I.st, I.stp, I.zw, fun b h => .inl (I.zm b h), I.zt, fun b h => ?_, by rw [List.length_set, List.length_set, I.len], fun j s e1 => ?_, fun j k q s t e1 e2 o1 o2 e3 e4 => ?_⟩
  · rcases h with h | h
    · exact I.tr b h
    · rw [h, e]; exact fun q => nomatch q
  · by_cases hj : i = j
    · subst hj
      rw [List.getElem?_set_self hi] at e1
      cases e1
      rw [List.getElem?_set_self (by rw [I.len]; exact hi)]
      exact ⟨p, vs, rfl, e, a, .inr rfl, nw, n0, zl⟩
    · rw [List.getElem?_set_ne hj] at e1 ⊢
      exact old j s e1
  · by_cases hj : i = j
    · by_cases hk : i = k
      · exact hj.symm.trans hk
      · subst hj
        rw [List.getElem?_set_self (by rw [I.len]; exact hi)] at e3
        cases e3
        rw [List.getElem?_set_ne hk] at e2 e4
        exact absurd e4 (np k t e2 o2)
    · by_cases hk : i = k
      · subst hk
        rw [List.getElem?_set_self (by rw [I.len]; exact hi)] at e4
        cases e4
        rw [List.getElem?_set_ne hj] at e1 e3
        exact absurd e3 (np j s e1 o1)
      · rw [List.getElem?_set_ne hj] at e1 e3
        rw [List.getElem?_set_ne hk] at e2 e4
        exact I.apart j k q s t e1 e2 o1 o2 e3 e4
section
variable {K : Fg} {X : Cx} {e : Expr} {te : TE} {f : FE} {fa : FA} {pos pos' : Pos} {x : Str}
theorem rd_set {i : Nat} (h : RdE K te f) (mo : MoE f) : RdS K (tAsg te (gName i)) (sSet i f) := fun M H0 z m H σ ρ W E I c q =>
  h M H0 z m H σ ρ _ I (mo ρ _ _ (fun d q' v H' s iv => c.nx m _ H' _ ((I.step s).put q.1 iv) (I.fw s) q') q.2)
theorem d_set (i : Nat) (h : DE K X e te f) (hN : X.N.Nodup) (hi : X.N[i]? = some x := by rfl) (hx : Loc X.env.scope x := by first | exact Or.inl rfl | exact Or.inr rfl) (hs : swapsWith e (some (.Name x pos')) pos.line X.env = pure false := by rfl) (hf : X.fn x = true ∨ X.env.scope.names.lookup x = some .local := by first | exact .inl rfl | exact .inr rfl) :
    DS K X (.Assign [.Name x pos'] e pos) (tAsg te (gName i)) (sSet i f) := ⟨ps_set hN hi hx h.pe hs hf, rd_set h.rd h.mo⟩
theorem rd_setL {i : Nat} (h : RdF K te fa) (mo : MoA fa) : RdS K (tAsg te (gName i)) (sSetL i fa) := fun M H0 z m H σ ρ W E I c q => by
  refine h M H0 z m H σ ρ _ I (mo ρ _ _ (fun ds q' p vs H' s n e a zl => ?_) q.2)
  have n0 : H0 p = none := by
    cases e0 : H0 p with
    | none => rfl
    | some o => exact absurd n (I.stp.there p (by rw [e0]; exact fun q => nomatch q))
  have nm : ¬ m p := I.hx.fresh n
  have I' := I.step s
  have sm : Same (hid m H) (hid (fun b => m b ∨ b = p) H') := (hid_more n).trans (hid_same fun b u k e => s.keep b u (fun w => k (.inl (I.mw b w))) e)
  refine c.nx (fun b => m b ∨ b = p) _ H' _ (I'.putL q.1 nm (fun w => nm (I.mw p w)) n0 e a zl fun j sl e1 => (I.slot j sl e1).step sm (fun b u h _ e => s.keep b u h e) (fun _ _ h => .inl h)) ?_ q'
  exact ⟨fun b o k e1 => ⟨s.keep b o (fun w => k (I.mw b w)) e1, fun w => w.elim k fun w => by subst w; rw [n] at e1; cases e1⟩, s.there⟩
theorem d_setL (i : Nat) (h : DF K X e te fa) (hN : X.N.Nodup) (hi : X.N[i]? = some x := by rfl) (hx : Loc X.env.scope x := by first | exact Or.inl rfl | exact Or.inr rfl) (hs : swapsWith e (some (.Name x pos')) pos.line X.env = pure false := by rfl) (hf : X.fn x = true ∨ X.env.scope.names.lookup x = some .local := by first | exact .inl rfl | exact .inr rfl) :
    DS K X (.Assign [.Name x pos'] e pos) (tAsg te (gName i)) (sSetL i fa) := ⟨ps_set hN hi hx h.pe hs hf, rd_setL h.rd h.mo⟩
theorem d_expr (h : DE K X e te f) (hs : swapsWith e none pos.line X.env = pure false := by rfl) : DS K X (.Expr e pos) (tDrop te) (sDrop f) :=
  ⟨ps_expr h.pe hs, fun M H0 z m H σ ρ W E I c q => h.rd M H0 z m H σ ρ _ I (h.mo ρ _ _ (fun d q' v H' s iv => c.nx m σ H' ρ (I.step s) (I.fw s) q') q)⟩
theorem d_ret (h : DE K X e te f) : DS K X (.Return (some e) pos) (tRet te) (sRet f) :=
  ⟨ps_ret h.pe, fun M H0 z m H σ ρ W E I c q => h.rd M H0 z m H σ ρ _ I (h.mo ρ _ _ (fun d q' v H' s iv => c.rt v H' d (I.stp.trans s) ((I.step s).out iv) q') q)⟩
theorem d_retN : DS K X (.Return none pos) tRetN sRetN := ⟨ps_retN, fun M H0 z m H σ ρ W E I c q => c.rt .non H .non I.stp .non q⟩
theorem d_if {cd : Expr} {a b : List Stmt} {tc : TT} {t u : TS} {cf : FB} {f g : FS} (hc : DB K X cd tc cf) (ha : DSs K X a t f) (hb : DSs K X b u g) : DS K X (.If cd a b pos) (tIfS tc t u) (sIf cf f g) := by
  refine ⟨ps_if hc.pt ha.ps hb.ps, fun M H0 z m H σ ρ W E I c q => ?_⟩
  refine hc.rd M H0 z m H σ ρ _ I (hc.mo ρ _ _ (fun d q' H' s => ?_) q)
  cases d
  · rw [ifB_false] at q'
    rw [if_neg Bool.false_ne_true]
    exact hb.rd M H0 z m H' σ ρ W E (I.step s) (c.fw (I.fw s)) q'
  · rw [ifB_true] at q'
    rw [if_pos rfl]
    exact ha.rd M H0 z m H' σ ρ W E (I.step s) (c.fw (I.fw s)) q'
end
end Pl

namespace Pl
open PySem PySem.Spec PyProof.Rows L2

/-! ### name = [..] -/
section
variable {K : Fg} {X : Cx} {elt tg iter : Expr} {ifs : List Expr} {scope : Scope} {own : List (Str × Nat)} {pos spos py : Pos} {y : Str} {wi : TI} {g : TG} {tt : TT} {te : TE} {ss : List Nat} {fi : FI} {gg : FG} {ft : FB} {fe : FE}
/-- y a local name that the comprehension does not bind -/
theorem ps_lc (i : Nat) (hN : X.N.Nodup) (hi : DIC K X tg iter wi fi) (ok : BlkOk X.N X.env.scope scope own)
    (hg : ∀ (s : Shared) (H : Hp) (C : Addr) (cl : List (Str × Addr)) (fp : List Addr), DG K (X.blk s H scope (compEnvC scope cl C X.env) fp) tg ss g gg) (ht : ∀ (s : Shared) (H : Hp) (C : Addr) (cl : List (Str × Addr)) (fp : List Addr), DTs K (X.blk s H scope (compEnvC scope cl C X.env) fp) ifs tt ft)
    (he : ∀ (s : Shared) (H : Hp) (C : Addr) (cl : List (Str × Addr)) (fp : List Addr), DE K (X.blk s H scope (compEnvC scope cl C X.env) fp) elt te fe)
    (hy : X.N[i]? = some y) (hyl : X.env.scope.names.lookup y = some .local) (hsw : swapsWith (.ListComp elt [⟨tg, iter, ifs, 0⟩] scope pos) (some (.Name y py)) spos.line X.env = pure true)
    (hs : ∀ x, foldedSetIterable iter X.env x = pure x) (hc : X.calm = true) : PS X (.Assign [.Name y py] (.ListComp elt [⟨tg, iter, ifs, 0⟩] scope pos) spos) (tAsg (tLc wi g tt te (own.map (·.2))) (gName i)) :=
  ps_setLc hc hN hy hyl hsw hi.pi ok (fun s H C cl fp => (hg s H C cl fp).pg) (fun s H C cl fp => (ht s H C cl fp).pt) (fun s H C cl fp => (he s H C cl fp).pe) hs
theorem d_lc (i : Nat) (hN : X.N.Nodup) (hi : DIC K X tg iter wi fi) (ok : BlkOk X.N X.env.scope scope own)
    (hg : ∀ (s : Shared) (H : Hp) (C : Addr) (cl : List (Str × Addr)) (fp : List Addr), DG K (X.blk s H scope (compEnvC scope cl C X.env) fp) tg ss g gg) (ht : ∀ (s : Shared) (H : Hp) (C : Addr) (cl : List (Str × Addr)) (fp : List Addr), DTs K (X.blk s H scope (compEnvC scope cl C X.env) fp) ifs tt ft)
    (he : ∀ (s : Shared) (H : Hp) (C : Addr) (cl : List (Str × Addr)) (fp : List Addr), DE K (X.blk s H scope (compEnvC scope cl C X.env) fp) elt te fe)
    (hy : X.N[i]? = some y := by rfl) (hyl : X.env.scope.names.lookup y = some .local := by rfl) (hsw : swapsWith (.ListComp elt [⟨tg, iter, ifs, 0⟩] scope pos) (some (.Name y py)) spos.line X.env = pure true := by exact sw_true rfl rfl rfl (by decide +kernel))
    (hss : ∀ i ∈ ss, i ∈ own.map (·.2) := by decide) (hs : ∀ x, foldedSetIterable iter X.env x = pure x := by intro _; rfl) (hc : X.calm = true := by rfl) : DS K X (.Assign [.Name y py] (.ListComp elt [⟨tg, iter, ifs, 0⟩] scope pos) spos) (tAsg (tLc wi g tt te (own.map (·.2))) (gName i)) (sSet i (vLst (lcF fi gg ft fe (own.map (·.2))))) := by
  have l := l_lc (pos := pos) hN hi ok hg ht he hss hs hc
  exact ⟨ps_lc i hN hi ok hg ht he hy hyl hsw hs hc, rd_set l.de.rd l.de.mo⟩
theorem d_lcL (i : Nat) (hN : X.N.Nodup) (hi : DIC K X tg iter wi fi) (ok : BlkOk X.N X.env.scope scope own)
    (hg : ∀ (s : Shared) (H : Hp) (C : Addr) (cl : List (Str × Addr)) (fp : List Addr), DG K (X.blk s H scope (compEnvC scope cl C X.env) fp) tg ss g gg) (ht : ∀ (s : Shared) (H : Hp) (C : Addr) (cl : List (Str × Addr)) (fp : List Addr), DTs K (X.blk s H scope (compEnvC scope cl C X.env) fp) ifs tt ft)
    (he : ∀ (s : Shared) (H : Hp) (C : Addr) (cl : List (Str × Addr)) (fp : List Addr), DE K (X.blk s H scope (compEnvC scope cl C X.env) fp) elt te fe)
    (hy : X.N[i]? = some y := by rfl) (hyl : X.env.scope.names.lookup y = some .local := by rfl) (hsw : swapsWith (.ListComp elt [⟨tg, iter, ifs, 0⟩] scope pos) (some (.Name y py)) spos.line X.env = pure true := by exact sw_true rfl rfl rfl (by decide +kernel))
    (hss : ∀ i ∈ ss, i ∈ own.map (·.2) := by decide) (hs : ∀ x, foldedSetIterable iter X.env x = pure x := by intro _; rfl) (hc : X.calm = true := by rfl) : DS K X (.Assign [.Name y py] (.ListComp elt [⟨tg, iter, ifs, 0⟩] scope pos) spos) (tAsg (tLc wi g tt te (own.map (·.2))) (gName i)) (sSetL i (lcF fi gg ft fe (own.map (·.2)))) := by
  have l := l_lc (pos := pos) hN hi ok hg ht he hss hs hc
  exact ⟨ps_lc i hN hi ok hg ht he hy hyl hsw hs hc, rd_setL l.rd l.mo⟩
end

/-! ### a, b = e1, e2 and a, b = e -/
def sPar (i j : Nat) (f : FA) : FS := fun E ρ => i < ρ.length ∧ j < ρ.length ∧ f ρ fun ds => match ds with
  | [d, e] => E.nx ((ρ.set i (.d d)).set j (.d e))
  | _ => False
section
variable {K : Fg} {X : Cx} {x y : Str} {a b e : Expr} {ta : TA} {fa : FA} {te : TE} {f : FE} {px py pt pos : Pos} {kt k2 : Nat} {pt2 : Pos}
theorem d_par (i j : Nat) (ha : DA K X [a, b] ta fa) (hN : X.N.Nodup) (hc : X.calm = true := by rfl) (hi : X.N[i]? = some x := by rfl) (hj : X.N[j]? = some y := by rfl) (hij : i ≠ j := by decide)
    (hx : X.env.scope.names.lookup x = some .local := by rfl) (hy : X.env.scope.names.lookup y = some .local := by rfl)
    (hw : swappedStores [.Tuple [.Name x px, .Name y py] kt pt] (.Tuple [a, b] k2 pt2) X.env = pure (some [x, y]) := by rfl)
    (hs : swapsWithSole [.Tuple [.Name x px, .Name y py] kt pt] (.Tuple [a, b] k2 pt2) pos.line X.env = pure false := by rfl) :
    DS K X (.Assign [.Tuple [.Name x px, .Name y py] kt pt] (.Tuple [a, b] k2 pt2) pos) (tPar i j ta) (sPar i j fa) := by
  refine ⟨ps_par hc hN hi hj hij hx hy ha.pa hw hs, fun M H0 z m H σ ρ W E I c q => ?_⟩
  refine ha.rd M H0 z m H σ ρ _ I (ha.mo ρ _ _ (fun ds q' vs H' s iv => ?_) q.2.2)
  revert q'
  split
  · intro q'
    rename_i d1 d2
    cases iv with
    | cons i1 i2 =>
      cases i2 with
      | cons i2 i3 =>
        cases i3
        exact ⟨_, _, rfl, c.nx m _ H' _ (((I.step s).put q.1 i1).put (by rw [List.length_set]; exact q.2.1) i2) (I.fw s) q'⟩
  · exact fun q' => q'.elim
def sAsg (f : FE) (g : FG) : FS := fun E ρ => f ρ fun d => g d ρ E.nx
theorem d_asg {tg : Expr} {ss : List Nat} {g : TG} {gg : FG} (h : DE K X e te f) (hg : DG K X tg ss g gg) (hs : swapsWithSole [tg] e pos.line X.env = pure false := by rfl) (hw : swappedStores [tg] e X.env = pure none := by rfl)
    (h1 : (assignEach [tg] X.env).map (·.2) = [assign tg X.env] := by rfl) : DS K X (.Assign [tg] e pos) (tAsg te g) (sAsg f gg) := by
  refine ⟨ps_asg h.pe hg.pg hs hw h1, fun M H0 z m H σ ρ W E I c q => ?_⟩
  refine h.rd M H0 z m H σ ρ _ I (h.mo ρ _ _ (fun d q' v H' s iv => ?_) q)
  exact hg.rd M H0 z m H' σ ρ v d _ (I.step s) iv (hg.mo _ _ _ _ (fun ρ' q2 σ' I' _ => c.nx m σ' H' ρ' I' (I.fw s) q2) q')
end

/-! ### x.append(e) of the frame's own list -/
def sApp (i : Nat) (f : FE) : FS := fun E ρ => exS (slL ρ i) fun xs => f ρ fun d => xs.length < sizeLine ∧ E.nx (ρ.set i (.ol (xs ++ [d])))
/-- the list of a slot is written -/
theorem EnOk.wrL {K : Fg} {M : Ml} {H0 H : Hp} {z m : Addr → Prop} {σ : L2.St} {ρ : En} {i : Nat} {p : Addr} {xs ys : List D} {ws : List V} (I : EnOk K M H0 z m H σ ρ) (e : ρ[i]? = some (.ol xs)) (es : σ[i]? = some (some (.ref p))) (a : IsA K M (hid m H) ws ys) (zl : ys.length ≤ sizeLine) :
    EnOk K M H0 z m (upd H p (.lst ws)) σ (ρ.set i (.ol ys)) ∧ Fw m H m (upd H p (.lst ws)) := by
  obtain ⟨p', vs, e1, e2, ia, mp, nw, n0, _⟩ := I.slot i _ e
  rw [es] at e1
  cases e1
  have hi : i < ρ.length := (List.getElem?_eq_some_iff.mp e).1
  refine ⟨⟨I.st, stp_wr I.stp n0 nw (nc_of e2 fun _ z => nomatch z), I.zw, I.zm, I.zt, fun b h => ?_, by rw [List.length_set]; exact I.len, fun j s e3 => ?_, fun j k q s t e3 e4 o1 o2 e5 e6 => ?_⟩, ⟨fun b o n e => ⟨by rw [upd_ne fun q => n (by rw [q]; exact mp)]; exact e, n⟩, fun b h => ?_⟩⟩
  · by_cases zz : b = p
    · rw [zz, upd_same]; exact fun q => nomatch q
    · rw [upd_ne zz]; exact I.tr b h
  · by_cases hj : i = j
    · subst hj
      rw [List.getElem?_set_self hi] at e3
      cases e3
      exact ⟨p, ws, es, upd_same, a.mono (same_wr mp), mp, nw, n0, zl⟩
    · rw [List.getElem?_set_ne hj] at e3
      have sl := I.slot j s e3
      cases s with
      | un => trivial
      | ex _ _ _ => obtain ⟨e1, k⟩ := sl; exact ⟨e1, k.mono (same_wr mp)⟩
      | d x => obtain ⟨v, e1, k⟩ := sl; exact ⟨v, e1, k.mono (same_wr mp)⟩
      | ol xs' =>
        obtain ⟨q, vs', e4, e5, k, r⟩ := sl
        refine ⟨q, vs', e4, ?_, k.mono (same_wr mp), r⟩
        rw [upd_ne fun zz => by subst zz; exact hj (I.apart i j q _ _ e e3 trivial trivial es e4)]
        exact e5
      | od xs' =>
        obtain ⟨q, vs', e4, e5, k, r⟩ := sl
        refine ⟨q, vs', e4, ?_, k.mono (same_wr mp), r⟩
        rw [upd_ne fun zz => by subst zz; exact hj (I.apart i j q _ _ e e3 trivial trivial es e4)]
        exact e5
      | ot xs' =>
        obtain ⟨q, vs', e4, e5, k, r⟩ := sl
        refine ⟨q, vs', e4, ?_, k.mono (same_wr mp), r⟩
        rw [upd_ne fun zz => by subst zz; exact hj (I.apart i j q _ _ e e3 trivial trivial es e4)]
        exact e5
  · have f : ∀ (j : Nat) s, (ρ.set i (.ol ys))[j]? = some s → Own s → ∃ s', ρ[j]? = some s' ∧ Own s' := fun j s e' o => by
      by_cases hj : i = j
      · subst hj; exact ⟨.ol xs, e, trivial⟩
      · rw [List.getElem?_set_ne hj] at e'; exact ⟨s, e', o⟩
    obtain ⟨s', e3', o1'⟩ := f j s e3 o1
    obtain ⟨t', e4', o2'⟩ := f k t e4 o2
    exact I.apart j k q s' t' e3' e4' o1' o2' e5 e6
  · by_cases zz : b = p
    · rw [zz, upd_same]; exact fun q => nomatch q
    · rw [upd_ne zz]; exact h
section
variable {K : Fg} {X : Cx} {x : Str} {e : Expr} {te : TE} {f : FE} {p apos cpos pos : Pos}
def tApp (K : Fg0) (i : Nat) (te : TE) : TS := tDrop (tBM K "list" rAppend (tVar i) (tCons te tNil))
theorem d_app (i : Nat) (h : DE K X e te f) (hN : X.N[i]? = some x := by rfl) (hv : Vis X.env.scope x := by first | exact Or.inl rfl | exact Or.inr (Or.inl rfl) | exact Or.inr (Or.inr rfl)) (hd : (x == ("__debug__" : Str)) = false := by decide)
    (hcd : (x == ("__classdict__" : Str)) = false := by decide) (hK : X.K = K := by rfl)
    (hs : swapsWith (.Call (.Attribute (.Name x p) "append" apos) [e] [] cpos) none pos.line X.env = pure false := by rfl)
    (hbase : attributeBase (.Name x p) "append" X.env (eval (.Name x p) X.env) = eval (.Name x p) X.env := by rfl)
    (hfew : ((backTo cpos (starEach [e] X.env)).all (fun x => !x.1) && (backToKw cpos (keywordEach [] X.env)).all (fun x => x.1.isSome)
      && decide ([e].length + ([] : List Keyword).length + (if ([] : List Keyword).isEmpty then 0 else 1) < 30)) = true := by rfl)
    (hline : (apos.endLine == cpos.line) = true := by rfl) (hst : starEach [e] X.env = (false, eval e X.env) :: starEach [] X.env := by rfl) (hplain : (backTo cpos (starEach [] X.env)).any (·.1) = false := by rfl) :
    DS K X (.Expr (.Call (.Attribute (.Name x p) "append" apos) [e] [] cpos) pos) (tApp K i te) (sApp i f) := by
  obtain ⟨K, stK⟩ := K
  replace hK : X.K = K := hK
  subst hK
  refine ⟨ps_expr (pe_bm PySem.F.plainAttrs_list PySem.F.slot_list_append PySem.F.type_list_append mt_append (pe_var hN hv hd hcd) (pa_cons h.pe pa_nil hst) hbase hfew hline hst hplain) hs, fun M H0 z m H σ ρ W E I c q => ?_⟩
  obtain ⟨xs, e0', q⟩ := q
  have e0 := slL_of e0'
  obtain ⟨p, vs, e1, e2, ia, mp, nw, n0, zl⟩ := I.slot i _ e0
  refine ⟨.ref p, e1, .inl ⟨rfl, vs, .of e2⟩, ?_⟩
  refine h.rd M H0 z m H σ ρ _ I (h.mo ρ _ _ (fun d q' v H' s iv => ?_) q)
  have e2' := s.keep p _ nw e2
  have ia' := ia.mono (I.same s)
  refine ⟨p, vs, v, rfl, rfl, e2', by rw [ia.length]; exact q'.1, ?_⟩
  obtain ⟨I', f'⟩ := (I.step s).wrL e0 e1 (ia'.append (.one iv)) (by rw [List.length_append]; exact q'.1)
  exact c.nx m σ _ _ I' ((I.fw s).trans f') q'.2
end
/-- handing on -/
theorem EnOk.freeze {K : Fg} {M : Ml} {H0 H : Hp} {z m : Addr → Prop} {σ : L2.St} {ρ : En} (I : EnOk K M H0 z m H σ ρ) (i : Nat) : ∃ m', EnOk K M H0 z m' H σ (freeze ρ i) ∧ Fw m H m' H := by
  unfold Pl.freeze
  split
  · rename_i xs e
    obtain ⟨p, vs, e1, e2, ia, mp, nw, n0, zl⟩ := I.slot i _ e
    have hi : i < ρ.length := (List.getElem?_eq_some_iff.mp e).1
    have sm : Same (hid m H) (hid (fun b => m b ∧ b ≠ p) H) := hid_less fun b h => h.1
    have zp : ∀ b, z b → b ≠ p := fun b h q => I.zt b h (by rw [q]; exact n0)
    refine ⟨fun b => m b ∧ b ≠ p, ⟨I.st, I.stp, I.zw, fun b h => ⟨I.zm b h, zp b h⟩, I.zt, fun b h => I.tr b h.1, by rw [List.length_set]; exact I.len, fun j s e3 => ?_, fun j k q s t e3 e4 o1 o2 e5 e6 => ?_⟩, ⟨fun b o n e => ⟨e, fun q => n q.1⟩, fun b h => h⟩⟩
    · by_cases hj : i = j
      · subst hj
        rw [List.getElem?_set_self hi] at e3
        cases e3
        exact ⟨.ref p, e1, .lst (by rw [hid_in fun q => q.2 rfl]; exact e2) (ia.mono sm) zl⟩
      · rw [List.getElem?_set_ne hj] at e3
        have sl := I.slot j s e3
        cases s with
        | un => trivial
        | ex _ _ _ => obtain ⟨e1, k⟩ := sl; exact ⟨e1, k.mono sm⟩
        | d x => obtain ⟨v, e1, k⟩ := sl; exact ⟨v, e1, k.mono sm⟩
        | ol xs' =>
          obtain ⟨q, vs', e4, e5, k, mq, r⟩ := sl
          exact ⟨q, vs', e4, e5, k.mono sm, ⟨mq, fun zz => by subst zz; exact hj (I.apart i j q _ _ e e3 trivial trivial e1 e4)⟩, r⟩
        | od xs' =>
          obtain ⟨q, vs', e4, e5, k, mq, r⟩ := sl
          exact ⟨q, vs', e4, e5, k.mono sm, ⟨mq, fun zz => by subst zz; exact hj (I.apart i j q _ _ e e3 trivial trivial e1 e4)⟩, r⟩
        | ot xs' =>
          obtain ⟨q, vs', e4, e5, k, mq, r⟩ := sl
          exact ⟨q, vs', e4, e5, k.mono sm, ⟨mq, fun zz => by subst zz; exact hj (I.apart i j q _ _ e e3 trivial trivial e1 e4)⟩, r⟩
    · have f : ∀ (j : Nat) s, (ρ.set i (.d (.lst xs)))[j]? = some s → Own s → ρ[j]? = some s := fun j s e o => by
        by_cases hj : i = j
        · subst hj; rw [List.getElem?_set_self hi] at e; cases e; exact o.elim
        · rw [List.getElem?_set_ne hj] at e; exact e
      exact I.apart j k q s t (f j s e3 o1) (f k t e4 o2) o1 o2 e5 e6
  · exact ⟨m, I, .refl⟩
def sFrz (i : Nat) (f : FS) : FS := fun E ρ => f E (freeze ρ i)
theorem d_frz {K : Fg} {X : Cx} {st : Stmt} {t : TS} {f : FS} (i : Nat) (h : DS K X st t f) : DS K X st t (sFrz i f) := ⟨h.ps, fun M H0 z m H σ ρ W E I c q => by
  obtain ⟨m', I', f'⟩ := I.freeze i
  exact h.rd M H0 z m' H σ _ W E I' (c.fw f') q⟩
end Pl

namespace Pl
open PySem PySem.Spec PyProof.Rows L2

/-! ### for -/
def forGo (g : FG) (b : FS) (E : DEn) : List D → En → Prop
  | [], ρ => E.nx ρ
  | d :: r, ρ => g d ρ fun ρ' => b { nx := forGo g b E r, ct := forGo g b E r, bk := E.nx, rt := E.rt, rm := E.rm } ρ'
def sFor (fi : FI) (g : FG) (b : FS) : FS := fun E ρ => fi ρ fun ds => forGo g b E ds ρ
theorem rd_for {K : Fg} {wi : TI} {g : TG} {tb : TS} {ss : List Nat} {fi : FI} {gg : FG} {fb : FS} (hi : RdIF K wi fi) (mi : MoA fi) (hg : RdG K ss g gg) (mg : MoG gg) (hb : RdS K tb fb) : RdS K (tFor wi g tb) (sFor fi gg fb) := by
  intro M H0 z m H σ ρ W E I c q
  refine hi M H0 z m H σ ρ _ I (mi ρ _ _ (fun ds q J H1 s1 yl => ?_) q)
  have I1 := I.step s1
  refine ⟨fun i mm σ2 H2 => mm = ds.length - i ∧ i ≤ ds.length ∧ ∃ m2 ρ2, EnOk K M H0 z m2 H2 σ2 ρ2 ∧ Fw m H1 m2 H2 ∧ forGo gg fb E (ds.drop i) ρ2, ⟨ds.length, by simp, Nat.zero_le _, m, ρ, I1, .refl, q⟩, ?_⟩
  rintro i mm σ2 H2 ⟨rfl, hle, m2, ρ2, I2, f2, q2⟩
  obtain ⟨gy, st⟩ := yl m2 H2 f2 I2.hx
  by_cases hlt : i < ds.length
  · refine .inr ?_
    have ed : ds[i]? = some ds[i] := List.getElem?_eq_getElem hlt
    obtain ⟨go, yld⟩ := gy i ds[i] ed
    refine ⟨go, fun σ3 H3 => ∃ m3 ρ3, EnOk K M H0 z m3 H3 σ3 ρ3 ∧ Fw m H1 m3 H3 ∧ forGo gg fb E (ds.drop (i + 1)) ρ3, fun σ3 H3 hN => ⟨ds.length - (i + 1), by omega, rfl, hlt, hN⟩, fun x H3 hy => ?_⟩
    obtain ⟨s3, ix⟩ := yld x H3 hy
    have I3 := I2.step s3
    have f3 := f2.trans (I2.fw s3)
    rw [List.drop_eq_getElem_cons hlt] at q2
    refine hg M H0 z m2 H3 σ2 ρ2 x ds[i] _ I3 ix (mg _ _ _ _ (fun ρ' q3 σ' I4 w => ?_) q2)
    refine hb M H0 z m2 H3 σ' ρ' _ _ I4 ⟨?_, ?_, ?_, ?_, ?_⟩ q3
    · exact fun m' σ4 H4 ρ4 I5 f5 q5 => ⟨m', ρ4, I5, f3.trans f5, q5⟩
    · exact fun m' σ4 H4 ρ4 I5 f5 q5 => c.nx m' σ4 H4 ρ4 I5 ((I.fw s1).trans (f3.trans f5)) q5
    · exact fun m' σ4 H4 ρ4 I5 f5 q5 => ⟨m', ρ4, I5, f3.trans f5, q5⟩
    · exact c.rt
    · exact c.rm
  · refine .inl ⟨?_, ?_⟩
    · have : i = ds.length := by omega
      rw [this]; exact st
    · have e : ds.drop i = [] := List.drop_eq_nil_of_le (by omega)
      rw [e] at q2
      exact c.nx m2 σ2 H2 ρ2 I2 ((I.fw s1).trans f2) q2
section
variable {K : Fg} {X : Cx} {tg iter : Expr} {body : List Stmt} {wi : TI} {g : TG} {tb : TS} {ss : List Nat} {fi : FI} {gg : FG} {fb : FS} {pos : Pos}
theorem d_for (hi : DIF K X tg iter wi fi) (hg : DG K X tg ss g gg) (hb : DSs K X body tb fb) (hp : PassesOwn (model X.prog X.w) X.A X.env X.xe := by exact PassesOwn.never) (hc : X.calm = true := by rfl)
    (hs : ∀ x, foldedSetIterable iter X.env x = pure x := by intro _; rfl) : DS K X (.For tg iter body [] pos) (tFor wi g tb) (sFor fi gg fb) := ⟨ps_for hp hc hi.pi hg.pg hb.ps hs, rd_for hi.rd hi.mo hg.rd hg.mo hb.rd⟩
end

/-! ### while -/
def whGo (c : FB) (b : FS) (E : DEn) : Nat → En → Prop
  | 0, _ => False
  | n + 1, ρ => c ρ fun t => if t = true then b { nx := whGo c b E n, ct := whGo c b E n, bk := E.nx, rt := E.rt, rm := E.rm } ρ else E.nx ρ
def sWh (c : FB) (b : FS) : FS := fun E ρ => ∃ n, whGo c b E n ρ
theorem rd_wh {K : Fg} {tc : TT} {tb : TS} {fc : FB} {fb : FS} (hc : RdB K tc fc) (mc : MoB fc) (hb : RdS K tb fb) : RdS K (tWhile tc tb) (sWh fc fb) := by
  intro M H0 z m H σ ρ W E I c ⟨n, q⟩
  refine ⟨fun k σ2 H2 => ∃ m2 ρ2, EnOk K M H0 z m2 H2 σ2 ρ2 ∧ Fw m H m2 H2 ∧ whGo fc fb E k ρ2, ⟨n, m, ρ, I, .refl, q⟩, ?_⟩
  rintro k σ2 H2 ⟨m2, ρ2, I2, f2, q2⟩
  cases k with
  | zero => exact q2.elim
  | succ k =>
    refine hc M H0 z m2 H2 σ2 ρ2 _ I2 (mc _ _ _ (fun t q3 H3 s3 => ?_) q2)
    have I3 := I2.step s3
    have f3 := f2.trans (I2.fw s3)
    cases t
    · rw [if_neg Bool.false_ne_true] at q3 ⊢
      exact c.nx m2 σ2 H3 ρ2 I3 f3 q3
    · rw [if_pos rfl] at q3 ⊢
      refine ⟨fun σ3 H3 => ∃ m3 ρ3, EnOk K M H0 z m3 H3 σ3 ρ3 ∧ Fw m H m3 H3 ∧ whGo fc fb E k ρ3, fun σ' H' h => ⟨k, Nat.lt_succ_self k, h⟩, ?_⟩
      refine hb M H0 z m2 H3 σ2 ρ2 _ _ I3 ⟨?_, ?_, ?_, ?_, ?_⟩ q3
      · exact fun m' σ4 H4 ρ4 I5 f5 q5 => ⟨m', ρ4, I5, f3.trans f5, q5⟩
      · exact fun m' σ4 H4 ρ4 I5 f5 q5 => c.nx m' σ4 H4 ρ4 I5 (f3.trans f5) q5
      · exact fun m' σ4 H4 ρ4 I5 f5 q5 => ⟨m', ρ4, I5, f3.trans f5, q5⟩
      · exact c.rt
      · exact c.rm
section
variable {K : Fg} {X : Cx} {cd : Expr} {body : List Stmt} {tc : TT} {tb : TS} {fc : FB} {fb : FS} {pos : Pos}
theorem d_wh (hc : DB K X cd tc fc) (hb : DSs K X body tb fb) (hp : PassesOwn (model X.prog X.w) X.A X.env X.xe := by exact PassesOwn.never) : DS K X (.While cd body [] pos) (tWhile tc tb) (sWh fc fb) := ⟨ps_while hp hc.pt hb.ps, rd_wh hc.rd hc.mo hb.rd⟩
end

/-! ### x += e -/
def gAug : F2 := fun a b Q => match a, b with
  | .int i, .int j => Q (.int (i + j))
  | .str x, .str y => x.length + y.length ≤ sizeLine ∧ Q (.str (x ++ y))
  | _, _ => False
def gAugS : F2 := fun a b Q => match a, b with
  | .int i, .int j => Q (.int (i - j))
  | _, _ => False
def sAug (i : Nat) (g : F2) (f : FE) : FS := fun E ρ => fV i ρ fun x => f ρ fun y => g x y fun d => i < ρ.length ∧ E.nx (ρ.set i (.d d))
section
variable {K : Fg} {X : Cx} {e : Expr} {te : TE} {f : FE} {pos pos' : Pos} {x : Str}
def rAugA : R2 := fun x y H Q => rI0 (fun i j => .int (i + j)) x y H Q ∨ (∃ i j, x = .str i ∧ y = .str j ∧ i.length + j.length ≤ sizeLine ∧ Q (.str (i ++ j)) H)
theorem rd_aug {i : Nat} {op : TIp} {g : F2} (h : RdE K te f) (mo : MoE f) (hr : ∀ (M : Ml) m H x y a b Q, Hx M m H → Is K M (hid m H) x a → Is K M (hid m H) y b → g a b (Wn K M m H Q) → op x y H Q) (hg : Mo2 g) : RdS K (tAug i te op) (sAug i g f) := fun M H0 z m H σ ρ W E I c q => by
  obtain ⟨d, e0, q⟩ := q
  obtain ⟨v, e1, iv⟩ := I.slot i _ (slD_of e0)
  refine ⟨v, e1, ?_⟩
  refine h M H0 z m H σ ρ _ I (mo ρ _ _ (fun y q' w H' s iw => ?_) q)
  exact hr M m H' v w d y _ (I.hx.step s) (iv.mono (I.same s)) iw (hg _ _ _ _ (fun d q2 u H2 s2 iu => c.nx m _ H2 _ (((I.step s).step s2).put q2.1 iu) ((I.fw s).trans ((I.step s).fw s2)) q2.2) q')
theorem d_augA (i : Nat) (h : DE K X e te f) (hN : X.N.Nodup) (hi : X.N[i]? = some x := by rfl) (hx : Loc X.env.scope x := by first | exact Or.inl rfl | exact Or.inr rfl) (hf : X.fn x = true ∨ X.env.scope.names.lookup x = some .local := by first | exact .inl rfl | exact .inr rfl) :
    DS K X (.AugAssign (.Name x pos') .Add e pos) (tAug i te rAugA) (sAug i gAug f) := by
  refine ⟨ps_aug hN hi hx h.pe (fun pins s σ H x y v u Q I r1 r2 q => iop_addS pins s σ H x y v u Q I r1 r2 q) hf, rd_aug h.rd h.mo (fun M m H x y a b Q hx ia ib q => ?_) fun a b Q Q' k q => ?_⟩
  · unfold gAug at q
    split at q
    · cases ia; cases ib; exact .inl ⟨_, _, rfl, rfl, Wn.int hx q⟩
    · cases ia; cases ib
      refine .inr ⟨_, _, rfl, rfl, by rw [S_len, S_len]; exact q.1, ?_⟩
      rw [S_app]
      exact Wn.str hx q.2 (by rw [List.length_append]; exact q.1)
    · exact q.elim
  · unfold gAug at q ⊢
    split at q
    · exact k _ q
    · exact ⟨q.1, k _ q.2⟩
    · exact q
theorem d_augS (i : Nat) (h : DE K X e te f) (hN : X.N.Nodup) (hi : X.N[i]? = some x := by rfl) (hx : Loc X.env.scope x := by first | exact Or.inl rfl | exact Or.inr rfl) (hf : X.fn x = true ∨ X.env.scope.names.lookup x = some .local := by first | exact .inl rfl | exact .inr rfl) :
    DS K X (.AugAssign (.Name x pos') .Sub e pos) (tAug i te (rI0 fun i j => .int (i - j))) (sAug i gAugS f) := by
  refine ⟨ps_aug hN hi hx h.pe (fun pins s σ H x y v u Q I r1 r2 q => iop_sub pins s σ H x y v u Q I r1 r2 q) hf, rd_aug h.rd h.mo (fun M m H x y a b Q hx ia ib q => ?_) fun a b Q Q' k q => ?_⟩
  · unfold gAugS at q
    split at q
    · cases ia; cases ib; exact ⟨_, _, rfl, rfl, Wn.int hx q⟩
    · exact q.elim
  · unfold gAugS at q ⊢
    split at q
    · exact k _ q
    · exact q
end
end Pl

namespace Pl
open PySem PySem.Spec PyProof.Rows L2

/-! ### defs by plain data -/
def SpD (K : Fg0) (g : FL) (vs : List V) (H : Hp) (Q : VK) : Prop := ∃ (M : Ml) (z : Addr → Prop) (ds : List D), Hx M z H ∧ IsA K M (hid z H) vs ds ∧ g ds (Wn K M z H Q)
/-- the def at f does g, by at most k calls one in another -/
structure FnG (P : Program) (w : World) (K : Fg0) (mg : Str → Option Value) (base : Heap) (k : Nat) (f : Addr) (fd : FuncData) (ps : List Str) (g : FL) : Prop where
  len : ∀ ds Q, g ds Q → ds.length = ps.length
  mo : MoL g
  run : ∀ (A : Around) (outer : List Env) (s : Shared) (H : Hp) (args : Args) (us : List Value) (vs : List V) (Q : VK), Room k A → A.guards = some [] → Env0 P w K mg base A outer s H → BindsTo s fd args (ps.zip us) → Vals vs us → SpD K g vs H Q →
    codeAny (model P w) A (.call (.ref f) args) (L2.CR CX0 outer P w H s Q E0) s
section
variable {P : Program} {w : World} {K : Fg0} {mg : Str → Option Value} {base : Heap} {f : Addr} {fd : FuncData} {ps : List Str} {g g' : FL} {j k : Nat}
theorem FnG.lift {K : Fg0} (F : FnG P w K mg base j f fd ps g) (h : j ≤ k) : FnG P w K mg base k f fd ps g := ⟨F.len, F.mo, fun A outer s H args us vs Q hr => F.run A outer s H args us vs Q (hr.mono h)⟩
theorem FnG.imp {K : Fg0} (F : FnG P w K mg base k f fd ps g) (m : MoL g') (h : ∀ ds Q, g' ds Q → g ds Q) : FnG P w K mg base k f fd ps g' :=
  ⟨fun ds Q q => F.len ds Q (h _ _ q), m, fun A outer s H args us vs Q hr hg he hb hv ⟨M, z, ds, a, b, c⟩ => F.run A outer s H args us vs Q hr hg he hb hv ⟨M, z, ds, a, b, h _ _ c⟩⟩
/-- a def by any promise -/
structure FnS (P : Program) (w : World) (K : Fg0) (mg : Str → Option Value) (base : Heap) (k : Nat) (f : Addr) (fd : FuncData) (ps : List Str) (sp : List V → Hp → VK → Prop) : Prop where
  len : ∀ vs H Q, sp vs H Q → vs.length = ps.length
  run : ∀ (A : Around) (outer : List Env) (s : Shared) (H : Hp) (args : Args) (us : List Value) (vs : List V) (Q : VK), Room k A → A.guards = some [] → Env0 P w K mg base A outer s H → BindsTo s fd args (ps.zip us) → Vals vs us → sp vs H Q →
    codeAny (model P w) A (.call (.ref f) args) (L2.CR CX0 outer P w H s Q E0) s
theorem FnS.lift {K : Fg0} {sp : List V → Hp → VK → Prop} (F : FnS P w K mg base j f fd ps sp) (h : j ≤ k) : FnS P w K mg base k f fd ps sp := ⟨F.len, fun A outer s H args us vs Q hr => F.run A outer s H args us vs Q (hr.mono h)⟩
theorem FnG.s {K : Fg0} (F : FnG P w K mg base k f fd ps g) : FnS P w K mg base k f fd ps (SpD K g) := ⟨fun vs H Q ⟨M, z, ds, _, ia, q⟩ => ia.length.trans (F.len _ _ q), F.run⟩
/-- a def by the hand layer's own reading -/
theorem fnS_raw {K : Fg0} {x qual : Str} {st : Stmt} {N : List Str} {sp : List V → Hp → VK → Prop} (F : Fun K x qual st f fd) (S : FnScope N ps (defScope st)) (len : ∀ vs H Q, sp vs H Q → vs.length = ps.length)
    (body : ∀ (cdv : Value) (A : Around) (outer : List Env) (s : Shared) (H : Hp) (vs : List V) (Q : VK), Room k (A.deeper (envOfC qual (defScope st) s.heap.objs.size f cdv)) → A.guards = some [] → sp vs H Q →
      ∃ t, PSs (cxOf CX0 P w K mg base N qual (defScope st) f cdv A outer s H E0).nox (defBody st) t ∧ t { nx := fun _ H' => Q .non H', rt := Q } (L2.start N vs) H) : FnS P w K mg base (k + 1) f fd ps sp := by
  obtain ⟨oc, od, kV, doc, pm, an, cdv, ct, osl, rfl, lk, hcd⟩ := F.ex
  refine ⟨len, fun A outer s H args us vs Q hr hG e0 hb r sp => ?_⟩
  have hl : vs.length = ps.length := len _ _ _ sp
  have KX : K.In s.heap := e0.mod.kin.keeps fun b o e => (e0.bs b o e).1
  have lim : s.heap.NoLimit := e0.mod.nolimit.keeps fun b o e => (e0.bs b o e).1
  refine codeAny_call_function hr.depth (KX _ _ lk) rfl S.co S.gen rfl (PySem.W.codeRec_of KX hcd) (hb _ _ _ _ ?_)
  refine wpAny_newFunctionEnv_cells S.kind (fun ⟨n, v⟩ hy => ?_) fun env he s1 x1 => ?_
  · rcases S.par n (List.of_mem_zip hy).1 with q | q
    · exact .inl q
    · exact .inr ⟨q, PySem.W.cellsFrom_some _ _ _ (.inl q)⟩
  · subst he
    refine ⟨lim.keeps x1.toInCall.keep, codeAny_func ?_⟩
    obtain ⟨t, hbd, q'⟩ := body cdv A outer s H vs Q (hr.deeper _) hG sp
    have I := inv_start (CX := CX0) (E := E0) S hr.hd e0 hl r x1
    have run := hbd.nox.run [] s1 (L2.start N vs) H ({ nx := fun _ H' => Q .non H', rt := Q } : Ends) I q'
    refine wpAny_mono run (fun fl s' hs => ?_) fun e s' hs => hs
    cases fl with
    | ret u =>
      obtain ⟨v, σ', H', J, rv, q⟩ := hs
      exact ⟨v, H', J.os, J.bare, J.base, J.hok, rv, q⟩
    | next =>
      obtain ⟨σ', H', J, q⟩ := hs
      exact ⟨.non, H', J.os, J.bare, J.base, J.hok, rfl, q⟩
    | brk => obtain ⟨_, _, _, q⟩ := hs; exact q.elim
    | cont => obtain ⟨_, _, _, q⟩ := hs; exact q.elim
/-- .. by plain data -/
theorem fnG_raw {K : Fg0} {x qual : Str} {st : Stmt} {N : List Str} (F : Fun K x qual st f fd) (S : FnScope N ps (defScope st)) (len : ∀ ds Q, g ds Q → ds.length = ps.length) (mo : MoL g)
    (body : ∀ (cdv : Value) (A : Around) (outer : List Env) (s : Shared) (H : Hp) (vs : List V) (Q : VK), Room k (A.deeper (envOfC qual (defScope st) s.heap.objs.size f cdv)) → A.guards = some [] → SpD K g vs H Q →
      ∃ t, PSs (cxOf CX0 P w K mg base N qual (defScope st) f cdv A outer s H E0).nox (defBody st) t ∧ t { nx := fun _ H' => Q .non H', rt := Q } (L2.start N vs) H) : FnG P w K mg base (k + 1) f fd ps g :=
  ⟨len, mo, (fnS_raw F S (fun vs H Q ⟨M, z, ds, _, ia, q⟩ => ia.length.trans (len _ _ q)) body).run⟩
/-- the frame at a def's entry -/
def uns : Nat → En
  | 0 => []
  | n + 1 => .un :: uns n
theorem uns_eq : ∀ n, uns n = List.replicate n Sl.un
  | 0 => rfl
  | n + 1 => by rw [uns, uns_eq n]; rfl
def ent (n : Nat) (ds : List D) : En := ds.map Sl.d ++ uns (n - ds.length)
theorem ent_ok {K : Fg} {M : Ml} {z : Addr → Prop} {H : Hp} {N : List Str} {vs : List V} {ds : List D} (hs : K.st M H z) (hx : Hx M z H) (ia : IsA K M (hid z H) vs ds) (hl : ds.length ≤ N.length) : EnOk K M H z z H (L2.start N vs) (ent N.length ds) := by
  have dl : ds.length = vs.length := ia.length.symm
  unfold ent
  rw [uns_eq]
  refine ⟨hs, .refl hx.ok, hx.mw, fun _ h => h, hx.tr, hx.tr, ?_, fun i sl e => ?_, fun i j p s t e1 e2 o1 o2 e3 e4 => ?_⟩
  · unfold L2.start; rw [List.length_append, List.length_map, List.length_replicate, List.length_append, List.length_map, List.length_replicate]; omega
  · by_cases hi : i < ds.length
    · rw [List.getElem?_append_left (by simpa using hi), List.getElem?_map, List.getElem?_eq_getElem hi] at e
      cases e
      obtain ⟨v, ev, iv⟩ := ia.get (List.getElem?_eq_getElem hi)
      refine ⟨v, ?_, iv⟩
      unfold L2.start
      rw [List.getElem?_append_left (by rw [List.length_map]; omega), List.getElem?_map, ev]
      rfl
    · rw [List.getElem?_append_right (by simpa using hi), List.getElem?_replicate] at e
      split at e
      · cases e; trivial
      · cases e
  · by_cases hi : i < ds.length
    · rw [List.getElem?_append_left (by simpa using hi), List.getElem?_map, List.getElem?_eq_getElem hi] at e1
      cases e1
      exact o1.elim
    · rw [List.getElem?_append_right (by simpa using hi), List.getElem?_replicate] at e1
      split at e1
      · cases e1; exact o1.elim
      · cases e1
/-- THE RULE for a def: its body as a term, the reading of plain data -/
theorem fnG_of {x qual : Str} {st : Stmt} {N : List Str} (F : Fun K x qual st f fd) (S : FnScope N ps (defScope st)) (len : ∀ ds Q, g ds Q → ds.length = ps.length) (mo : MoL g)
    (body : ∀ (cdv : Value) (A : Around) (outer : List Env) (s : Shared) (H : Hp), Room k (A.deeper (envOfC qual (defScope st) s.heap.objs.size f cdv)) → A.guards = some [] →
      ∃ t b, DSs (Fg.of K) (cxOf CX0 P w K mg base N qual (defScope st) f cdv A outer s H E0).nox (defBody st) t b ∧
        ∀ ds Q, g ds Q → b { nx := fun _ => Q .non, rt := Q } (ent N.length ds)) : FnG P w K mg base (k + 1) f fd ps g := by
  refine fnG_raw F S len mo fun cdv A outer s H vs Q hr hG ⟨M, z, ds, hx, ia, q⟩ => ?_
  obtain ⟨t, b, hbd, hq⟩ := body cdv A outer s H hr hG
  have npl : ps.length ≤ N.length := by have := congrArg List.length S.pre; rw [List.length_take] at this; omega
  have en : EnOk (Fg.of K) M H z z H (L2.start N vs) (ent N.length ds) := ent_ok trivial hx ia (by rw [len _ _ q]; exact npl)
  have co : Co (Fg.of K) M H z z H ({ nx := fun _ H' => Q .non H', rt := Q } : Ends) ({ nx := fun _ => Wn K M z H Q .non, rt := Wn K M z H Q } : DEn) :=
    ⟨fun m' σ' H' ρ' I' f q => q .non H' I'.stp .non, fun m' σ' H' ρ' I' f q => q.elim, fun m' σ' H' ρ' I' f q => q.elim, fun v H' d s i q => q v H' s i, fun _ _ _ _ _ _ _ _ q => q.elim⟩
  exact ⟨t, hbd.ps, hbd.rd M H z z H (L2.start N vs) _ _ _ en co (hq ds _ q)⟩
end

/-! ### calls -/
def tCallS (sp : List V → Hp → VK → Prop) (t : TA) : TE := fun σ H Q => t σ H fun vs H1 => sp vs H1 Q
section
variable {X : Cx} {K : Fg} {k : Nat} {f : Addr} {fd : FuncData} {ps : List Str} {g : FL} {x : Str} {p pos : Pos} {e : Expr} {es : List Expr} {t : TA} {fa : FA} {sp : List V → Hp → VK → Prop}
theorem run_s {pins : List (Addr × Obj)} {σ : L2.St} {H : Hp} {s : Shared} {Q : VK} {us : List Value} {vs : List V} {args : Args} (F : FnS X.prog X.w X.K X.mg X.base k f fd ps sp) (hr : Room k X.A) (hG : X.A.guards = some []) (hb : BindsTo s fd args (ps.zip us))
    (I : Inv X pins σ H s) (r : Vals vs us) (h : sp vs H Q) : codeAny (model X.prog X.w) X.A (.call (.ref f) args) (fun r s' => ∃ u, r = .ok (.ret u) ∧ EP X pins σ Q u s') s :=
  codeAny_mono (F.run X.A X.stack s H args us vs Q hr hG I.env0 hb r h) fun r s' hq => by
    cases r with
    | error e => exact hq.elim
    | ok fl =>
      cases fl with
      | ret u => exact ⟨u, rfl, I.after hq⟩
      | next => exact hq.elim
      | brk => exact hq.elim
      | cont => exact hq.elim
theorem pe_callS' (F : FnS X.prog X.w X.K X.mg X.base k f fd ps sp) (hr : Room k X.A) (hG : X.A.guards = some []) (hg : Gl X x) (hm : X.mg x = some (.ref f)) (hk : PySem.W.keepIn X.K (.ref f) = true) (hb : Binds X.K fd ps [])
    (ha : PA X (e :: es) t) (hdb : (x == ("__debug__" : Str)) = false := by decide) (he : starEach (e :: es) X.env = (false, eval e X.env) :: starEach es X.env := by rfl) (hpl : (backTo pos (starEach es X.env)).any (·.1) = false := by rfl) :
    PE X (.Call (.Name x p) (e :: es) [] pos) (tCallS sp t) := by
  refine ⟨fun pins s σ H Q I h => ?_⟩
  refine wpAny_Call_Name_kw (ld_glob I hg hm ?_ hdb)
  refine PySem.W.callWith_K (h₀ := X.base) I.ok.mod.kin hk (thn (ha.run pos pins s σ H _ I h) fun us s1 ⟨vs, H1, I1, r, q⟩ => ⟨I1.kIn, ?_⟩) he hpl
  refine wpAny_call (codeAny_mono (run_s F hr hG (us := us) (by have := hb s1 us I1.kIn (by rw [List.append_nil, ← r.length]; exact F.len _ _ _ q); rwa [List.append_nil] at this) I1 r q) fun r s' ⟨u, e, q⟩ => ?_)
  subst e
  exact q
theorem pe_callS0 (F : FnS X.prog X.w X.K X.mg X.base k f fd ps sp) (hr : Room k X.A) (hG : X.A.guards = some []) (hg : Gl X x) (hm : X.mg x = some (.ref f)) (hk : PySem.W.keepIn X.K (.ref f) = true) (hb : Binds X.K fd ps [])
    (hdb : (x == ("__debug__" : Str)) = false := by decide) : PE X (.Call (.Name x p) [] [] pos) (tCallS sp tNil) := by
  refine ⟨fun pins s σ H Q I h => ?_⟩
  refine wpAny_Call_Name_kw (ld_glob I hg hm ?_ hdb)
  refine PySem.W.callWith_K0 I.kIn hk (wpAny_call (codeAny_mono (run_s F hr hG (us := []) (vs := []) (by have := hb s [] I.kIn (by have := F.len [] H Q h; simpa using this); simpa using this) I .nil h) fun r s' ⟨u, e, q⟩ => ?_))
  subst e
  exact q
/-- a def called -/
def fCall (g : FL) (fa : FA) : FE := fun ρ Q => fa ρ fun ds => Cal g ds Q
theorem mo_fCall {g : FL} {fa : FA} (hg : MoL g) (ha : MoA fa) : MoE (fCall g fa) := fun ρ Q Q' h q => ha ρ _ _ (fun xs q => hg xs _ _ h q) q
theorem rd_callD (hg : MoL g) (ha : RdA K t fa) (ma : MoA fa) : RdE K (tCallS (SpD K g) t) (fCall g fa) := fun M H0 z m H σ ρ Q I q =>
  ha M H0 z m H σ ρ _ I (ma ρ _ _ (fun ds q' vs H1 s1 i1 => ⟨M, m, ds, I.hx.step s1, i1, hg _ _ _ (fun d q => q.mono s1) q'⟩) q)
/-- f(e, ..) -/
theorem e_call (F : FnG X.prog X.w X.K X.mg X.base k f fd ps g) (hr : Room k X.A) (hG : X.A.guards = some []) (hm : X.mg x = some (.ref f)) (hk : PySem.W.keepIn X.K (.ref f) = true) (hb : Binds X.K fd ps [])
    (ha : DA K X (e :: es) t fa) (hK : X.K = K := by rfl) (hg : Gl X x := by rfl) (hdb : (x == ("__debug__" : Str)) = false := by decide) (he : starEach (e :: es) X.env = (false, eval e X.env) :: starEach es X.env := by rfl) (hpl : (backTo pos (starEach es X.env)).any (·.1) = false := by rfl) :
    DE K X (.Call (.Name x p) (e :: es) [] pos) (tCallS (SpD K g) t) (fCall g fa) := by
  obtain ⟨K, stK⟩ := K
  replace hK : X.K = K := hK
  subst hK
  exact ⟨pe_callS' F.s hr hG hg hm hk hb ha.pa hdb he hpl, rd_callD F.mo ha.rd ha.mo, mo_fCall F.mo ha.mo⟩
theorem e_call0 (F : FnG X.prog X.w X.K X.mg X.base k f fd ps g) (hr : Room k X.A) (hG : X.A.guards = some []) (hm : X.mg x = some (.ref f)) (hk : PySem.W.keepIn X.K (.ref f) = true) (hb : Binds X.K fd ps [])
    (hK : X.K = K := by rfl) (hg : Gl X x := by rfl) (hdb : (x == ("__debug__" : Str)) = false := by decide) : DE K X (.Call (.Name x p) [] [] pos) (tCallS (SpD K g) tNil) (fCall g aNil) := by
  obtain ⟨K, stK⟩ := K
  replace hK : X.K = K := hK
  subst hK
  exact ⟨pe_callS0 F.s hr hG hg hm hk hb hdb, rd_callD F.mo (a_nil (K := ⟨X.K, stK⟩) (X := X)).rd mo_aNil, mo_fCall F.mo mo_aNil⟩

/-! ### calls with keywords -/
/-- the values in the parameters' order -/
def sel {α : Type} (π : List Nat) (xs : List α) : List α := π.filterMap fun i => xs[i]?
structure KBd (K : Fg0) (fd : FuncData) (ps ks : List Str) (n : Nat) (π : List Nat) : Prop where
  to : ∀ (s : Shared) (us ws : List Value), us.length = n → ws.length = ks.length → BindsTo s fd ⟨us, ks.zip ws⟩ (ps.zip (sel π (us ++ ws)))
  ix : ∀ i ∈ π, i < n + ks.length
theorem sel_vals {vs : List V} {us : List Value} (r : Vals vs us) : ∀ π : List Nat, Vals (sel π vs) (sel π us)
  | [] => .nil
  | i :: π => by
    unfold sel
    have ih := sel_vals r π
    unfold sel at ih
    rw [List.filterMap_cons, List.filterMap_cons]
    cases e : vs[i]? with
    | none => rw [r.none_of e]; exact ih
    | some v =>
      obtain ⟨u, e2, rv⟩ := r.get e
      rw [e2]
      exact .cons rv ih
theorem sel_is {K : Fg0} {M : Ml} {H : Hp} {vs : List V} {ds : List D} (r : IsA K M H vs ds) : ∀ π : List Nat, IsA K M H (sel π vs) (sel π ds)
  | [] => .nil
  | i :: π => by
    unfold sel
    have ih := sel_is r π
    unfold sel at ih
    rw [List.filterMap_cons, List.filterMap_cons]
    cases e : vs[i]? with
    | none =>
      have e2 : ds[i]? = none := by
        rw [List.getElem?_eq_none_iff] at e ⊢
        rw [← r.length]; exact e
      rw [e2]; exact ih
    | some v =>
      obtain ⟨d, e2, iv⟩ := r.getV e
      rw [e2]
      exact .cons iv ih
variable {kws : List Keyword} {tk : TA} {ks : List Str} {n : Nat} {π : List Nat} {fk : FA}
structure DK (K : Fg) (X : Cx) (kws : List Keyword) (t : TA) (f : FA) : Prop where
  pk : PK X kws t
  rd : RdA K t f
  mo : MoA f
theorem k_nil : DK K X [] tNil aNil := ⟨pk_nil, (a_nil (K := K) (X := X)).rd, mo_aNil⟩
theorem k_cons {nm : Option Str} {kpos : Pos} {te : TE} {fe : FE} (h : DE K X e te fe) (k : DK K X kws tk fk) : DK K X (⟨nm, e, kpos⟩ :: kws) (tCons te tk) (aCons fe fk) :=
  ⟨pk_cons h.pe k.pk, fun M H0 z m H σ ρ Q I q => h.rd M H0 z m H σ ρ _ I (h.mo ρ _ _ (fun x q v H1 s1 i1 => k.rd M H0 z m H1 σ ρ _ (I.step s1) (k.mo ρ _ _ (fun xs q vs H2 s2 i2 => q (v :: vs) H2 (s1.trans s2) (.cons (i1.mono ((I.hx.step s1).same s2)) i2)) q)) q), mo_aCons h.mo k.mo⟩
def tCallK' (sp : List V → Hp → VK → Prop) (n : Nat) (m : Nat) (π : List Nat) (t tk : TA) : TE := fun σ H Q => t σ H fun vs H1 => tk σ H1 fun zs H2 => vs.length = n ∧ zs.length = m ∧ sp (sel π (vs ++ zs)) H2 Q
theorem pe_callK' (F : FnS X.prog X.w X.K X.mg X.base k f fd ps sp) (hr : Room k X.A) (hG : X.A.guards = some []) (hg : Gl X x) (hm : X.mg x = some (.ref f)) (hk : PySem.W.keepIn X.K (.ref f) = true) (hb : KBd X.K fd ps ks n π)
    (ha : PA X (e :: es) t) (hkw : PK X kws tk) (hall : (backToKw pos (keywordEach kws X.env)).all (·.1.isSome) = true := by rfl) (hks : (backToKw pos (keywordEach kws X.env)).filterMap (·.1) = ks := by rfl)
    (hdb : (x == ("__debug__" : Str)) = false := by decide) (he : starEach (e :: es) X.env = (false, eval e X.env) :: starEach es X.env := by rfl)
    (hpl : ((backTo pos (starEach (e :: es) X.env)).any (·.1) || (backToKw pos (keywordEach kws X.env)).any (·.1.isNone)) = false := by rfl) :
    PE X (.Call (.Name x p) (e :: es) kws pos) (tCallK' sp n ks.length π t tk) := by
  refine ⟨fun pins s σ H Q I h => ?_⟩
  refine wpAny_Call_Name_kw (ld_glob I hg hm ?_ hdb)
  refine PySem.W.callWith_KW (h₀ := X.base) I.ok.mod.kin hk hall (thn (ha.run pos pins s σ H _ I h) fun us s1 ⟨vs, H1, I1, r, q⟩ => ?_) hpl he
  refine thn (hkw.run pos pins s1 σ H1 _ I1 q) fun ws s2 ⟨zs, H2, I2, rz, l1, l2, q2⟩ => ⟨I2.kIn, ?_⟩
  rw [hks]
  refine wpAny_call (codeAny_mono (run_s F hr hG (us := sel π (us ++ ws)) (hb.to s2 us ws (by rw [← r.length]; exact l1) (by rw [← rz.length]; exact l2)) I2 (sel_vals (r.append rz) π) q2) fun r s' ⟨u, e, q⟩ => ?_)
  subst e
  exact q
theorem pe_callK0 (F : FnS X.prog X.w X.K X.mg X.base k f fd ps sp) (hr : Room k X.A) (hG : X.A.guards = some []) (hg : Gl X x) (hm : X.mg x = some (.ref f)) (hk : PySem.W.keepIn X.K (.ref f) = true) (hb : KBd X.K fd ps ks 0 π)
    (hkw : PK X kws tk) (hall : (backToKw pos (keywordEach kws X.env)).all (·.1.isSome) = true := by rfl) (hks : (backToKw pos (keywordEach kws X.env)).filterMap (·.1) = ks := by rfl)
    (hdb : (x == ("__debug__" : Str)) = false := by decide) (hpl : ((backTo pos (starEach [] X.env)).any (·.1) || (backToKw pos (keywordEach kws X.env)).any (·.1.isNone)) = false := by rfl) :
    PE X (.Call (.Name x p) [] kws pos) (tCallK' sp 0 ks.length π tNil tk) := by
  refine ⟨fun pins s σ H Q I h => ?_⟩
  refine wpAny_Call_Name_kw (ld_glob I hg hm ?_ hdb)
  refine PySem.W.callWith_KW0 (h₀ := X.base) I.ok.mod.kin hk hall (thn (hkw.run pos pins s σ H _ I h) fun ws s2 ⟨zs, H2, I2, rz, l1, l2, q2⟩ => ⟨I2.kIn, ?_⟩) hpl
  rw [hks]
  refine wpAny_call (codeAny_mono (run_s F hr hG (us := sel π ([] ++ ws)) (hb.to s2 [] ws rfl (by rw [← rz.length]; exact l2)) I2 (sel_vals (vs := [] ++ zs) rz π) q2) fun r s' ⟨u, e, q⟩ => ?_)
  subst e
  exact q
/-- by place and by names -/
def fLK (g : FL) (n m : Nat) (π : List Nat) (fa fk : FA) : FE := fun ρ Q => fa ρ fun ds => fk ρ fun es => ds.length = n ∧ es.length = m ∧ Cal g (sel π (ds ++ es)) Q
theorem rd_callK (hg : MoL g) (ha : RdA K t fa) (ma : MoA fa) (hk : RdA K tk fk) (mk : MoA fk) : RdE K (tCallK' (SpD K g) n ks.length π t tk) (fLK g n ks.length π fa fk) := fun M H0 z m H σ ρ Q I q =>
  ha M H0 z m H σ ρ _ I (ma ρ _ _ (fun ds q1 vs H1 s1 i1 => hk M H0 z m H1 σ ρ _ (I.step s1) (mk ρ _ _ (fun es q2 ws H2 s2 i2 => ⟨by rw [i1.length]; exact q2.1, by rw [i2.length]; exact q2.2.1, M, m, sel π (ds ++ es), (I.hx.step s1).step s2, sel_is ((i1.mono ((I.hx.step s1).same s2)).append i2) π, hg _ _ _ (fun d q => q.mono (s1.trans s2)) q2.2.2⟩) q1)) q)
theorem mo_fLK {m : Nat} (hg : MoL g) (ha : MoA fa) (hk : MoA fk) : MoE (fLK g n m π fa fk) := fun ρ Q Q' h q => ha ρ _ _ (fun ds q => hk ρ _ _ (fun es q => ⟨q.1, q.2.1, hg _ _ _ h q.2.2⟩) q) q
theorem e_callK (n : Nat) (π : List Nat) (F : FnG X.prog X.w X.K X.mg X.base k f fd ps g) (hr : Room k X.A) (hG : X.A.guards = some []) (hm : X.mg x = some (.ref f)) (hk : PySem.W.keepIn X.K (.ref f) = true) (hb : KBd X.K fd ps ks n π)
    (ha : DA K X (e :: es) t fa) (hkw : DK K X kws tk fk) (hK : X.K = K := by rfl) (hg : Gl X x := by rfl) (hall : (backToKw pos (keywordEach kws X.env)).all (·.1.isSome) = true := by rfl) (hks : (backToKw pos (keywordEach kws X.env)).filterMap (·.1) = ks := by rfl)
    (hdb : (x == ("__debug__" : Str)) = false := by decide) (he : starEach (e :: es) X.env = (false, eval e X.env) :: starEach es X.env := by rfl)
    (hpl : ((backTo pos (starEach (e :: es) X.env)).any (·.1) || (backToKw pos (keywordEach kws X.env)).any (·.1.isNone)) = false := by rfl) :
    DE K X (.Call (.Name x p) (e :: es) kws pos) (tCallK' (SpD K g) n ks.length π t tk) (fLK g n ks.length π fa fk) := by
  obtain ⟨K, stK⟩ := K
  replace hK : X.K = K := hK
  subst hK
  exact ⟨pe_callK' F.s hr hG hg hm hk hb ha.pa hkw.pk hall hks hdb he hpl, rd_callK F.mo ha.rd ha.mo hkw.rd hkw.mo, mo_fLK F.mo ha.mo hkw.mo⟩
theorem e_callK0 (π : List Nat) (F : FnG X.prog X.w X.K X.mg X.base k f fd ps g) (hr : Room k X.A) (hG : X.A.guards = some []) (hm : X.mg x = some (.ref f)) (hk : PySem.W.keepIn X.K (.ref f) = true) (hb : KBd X.K fd ps ks 0 π)
    (hkw : DK K X kws tk fk) (hK : X.K = K := by rfl) (hg : Gl X x := by rfl) (hall : (backToKw pos (keywordEach kws X.env)).all (·.1.isSome) = true := by rfl) (hks : (backToKw pos (keywordEach kws X.env)).filterMap (·.1) = ks := by rfl)
    (hdb : (x == ("__debug__" : Str)) = false := by decide) (hpl : ((backTo pos (starEach [] X.env)).any (·.1) || (backToKw pos (keywordEach kws X.env)).any (·.1.isNone)) = false := by rfl) :
    DE K X (.Call (.Name x p) [] kws pos) (tCallK' (SpD K g) 0 ks.length π tNil tk) (fLK g 0 ks.length π aNil fk) := by
  obtain ⟨K, stK⟩ := K
  replace hK : X.K = K := hK
  subst hK
  exact ⟨pe_callK0 F.s hr hG hg hm hk hb hkw.pk hall hks hdb hpl, rd_callK F.mo (a_nil (K := ⟨X.K, stK⟩) (X := X)).rd mo_aNil hkw.rd hkw.mo, mo_fLK F.mo mo_aNil hkw.mo⟩
end
end Pl

namespace Pl
open PySem PySem.Spec PyProof.Rows L2

/-! ### the end: the law's def -/
/-- what the law promises: True of every script -/
def SpLaw (K : Fg0) : List V → Hp → VK → Prop := fun vs H Q => ∃ (a : Addr) (ns : List Int), vs = [.ref a] ∧ SqL K H a (ns.map V.int) ∧ ns.length ≤ 63 ∧ ∀ H', Q (.bl true) H'
theorem len_SpLaw {K : Fg0} {x : Str} : ∀ vs H Q, SpLaw K vs H Q → vs.length = [x].length := fun vs H Q ⟨a, ns, e, _⟩ => by rw [e]; rfl
section
variable {P : Program} {w : World} {K : Fg} {mg mb : Str → Option Value} {k : Nat} {fa a : Addr} {fd : FuncData} {x : Str} {s₁ : Shared} {vs : List Value} {ns : List Int}
/-- a heap of the layer in which at most the script is tracked -/
theorem law_core {K : Fg0} (KX : K.In s₁.heap) (hns : s₁.heap.Ns mainGlobals mg) (hb : s₁.heap.Ns builtinsNs mb) (hbb : ∀ x : Str, x ≠ "__name__" → mb x = bootBuiltins x) (hlim : s₁.heap.NoLimit) (hg : s₁.gens = #[])
    (ha : s₁.heap.get? a = some { cls := .type "list", data := .seq vs.toArray }) (hl : ns.length ≤ 63) (hr : Room k callerA)
    (F : ∀ base : Heap, K.In base → base.Ns mainGlobals mg → FnS P w K mg base k fa fd [x] (SpLaw K)) (hbind : ∀ (s : Shared) (u : Value), BindsTo s fd ⟨[u], []⟩ [(x, u)])
    (H : Hp) (hS : SqL K H a (ns.map V.int)) (hok : HOk P w H s₁.heap) (hO : ∀ b u, H b = some u → b = a ∧ ∃ o xs, u = .frz o (.lst xs)) (hK : ∀ u, H a = some u → K.lookup a = none) :
    codeAny (model P w) callerA (.call (.ref fa) ⟨[.ref a], []⟩) (fun r s' => r = .ok (.ret (.bool true)) ∧ OldK s₁.heap s'.heap ∧ s'.os = s₁.os ∧ AllBare s'.gens) s₁ := by
  have keepA : ∀ {b : Addr} {o : Obj}, s₁.heap.get? b = some o → (b ≠ a ∨ H a = none) → (hidT s₁.heap H).get? b = some o := fun {b o} e h => hidT_get e (by
    cases q : H b with
    | none => rfl
    | some u =>
      obtain ⟨rfl, _⟩ := hO b u q
      rcases h with h | h
      · exact absurd rfl h
      · rw [h] at q; cases q)
  have keepD : ∀ {b : Addr} {m : Str → Option Value}, s₁.heap.Ns b m → (hidT s₁.heap H).Ns b m := fun {b m} ⟨o, es, ep, e, d, r⟩ => ⟨o, es, ep, keepA e (.inl fun z => by
    subst z
    rw [ha] at e; cases e; cases d), d, r⟩
  have hKb : K.In (hidT s₁.heap H) := fun b o e => keepA (KX b o e) (by
    cases q : H a with
    | none => exact .inr rfl
    | some u => exact .inl fun z => by subst z; rw [hK u q] at e; cases e)
  have hM : Mod K mg (hidT s₁.heap H) := ⟨hKb, keepD hns, ⟨mb, keepD hb, hbb⟩, let ⟨mc, h1, h2⟩ := hlim; ⟨mc, keepD h1, h2⟩⟩
  have e0 : Env0 P w K mg (hidT s₁.heap H) callerA [] s₁ H := ⟨rfl, hM, fun b o e => of_hidT e, Nat.le_of_eq (hidT_size _ _), trivial, (fun b hb => absurd (show b ∈ ([] : List Addr) from hb) (by simp)), hok, .of_eq hg⟩
  have sp : SpLaw K [.ref a] H fun v _ => v = .bl true := ⟨a, ns, rfl, hS, hl, fun _ => rfl⟩
  refine codeAny_mono ((F _ hKb (keepD hns)).run callerA [] s₁ H ⟨[.ref a], []⟩ [.ref a] [.ref a] _ hr rfl e0 (hbind s₁ (.ref a)) (.cons rfl .nil) sp) fun r s' h => ?_
  cases r with
  | error e => exact h.elim
  | ok fl =>
    cases fl with
    | next => exact h.elim
    | brk => exact h.elim
    | cont => exact h.elim
    | ret u =>
      obtain ⟨v, H', os, bare, un, hok', r', q⟩ := h
      subst q
      cases r'
      refine ⟨rfl, OldK.of_keep fun b o e => ?_, os, bare⟩
      cases q : H b with
      | none => exact un.keep b o e q (fun z => absurd (show b ∈ ([] : List Addr) from z) (by simp)) (by simp)
      | some u =>
        obtain ⟨_, ob, xs, rfl⟩ := hO b u q
        have z2 := un.frzs b ob _ q
        obtain ⟨e1, _⟩ := hok b _ q
        obtain ⟨e2, _⟩ := hok' b _ z2
        exact e2.trans (e1.symm.trans e)
theorem law_callG {K : Fg0} (KX : K.In s₁.heap) (hns : s₁.heap.Ns mainGlobals mg) (hb : s₁.heap.Ns builtinsNs mb) (hbb : ∀ x : Str, x ≠ "__name__" → mb x = bootBuiltins x) (hlim : s₁.heap.NoLimit) (hg : s₁.gens = #[])
    (ha : s₁.heap.get? a = some { cls := .type "list", data := .seq vs.toArray }) (hi : IntsAre vs ns) (hl : ns.length ≤ 63) (hr : Room k callerA)
    (F : ∀ base : Heap, K.In base → base.Ns mainGlobals mg → FnS P w K mg base k fa fd [x] (SpLaw K)) (hbind : ∀ (s : Shared) (u : Value), BindsTo s fd ⟨[u], []⟩ [(x, u)]) :
    codeAny (model P w) callerA (.call (.ref fa) ⟨[.ref a], []⟩) (fun r s' => r = .ok (.ret (.bool true)) ∧ OldK s₁.heap s'.heap ∧ s'.os = s₁.os ∧ AllBare s'.gens) s₁ := by
  have rv := vals_ints hi
  have l63 : ns.length ≤ sizeLine := Nat.le_trans hl (by decide)
  cases hk : K.lookup a with
  | some o =>
    have e := KX a o hk
    rw [ha] at e
    cases e
    refine law_core KX hns hb hbb hlim hg ha hl hr F hbind (fun _ => none) (.inr ⟨_, vs.toArray, _, hk, rfl, rfl, rfl, ?_, by simpa using rv⟩) (fun b u z => by cases z) (fun b u z => by cases z) (fun u z => by cases z)
    rw [List.size_toArray, hi.length]; exact l63
  | none =>
    refine law_core KX hns hb hbb hlim hg ha hl hr F hbind (fun b => if b = a then some (.frz { cls := .type "list", data := .seq vs.toArray } (.lst (ns.map V.int))) else none) (.inl (.inr ⟨_, if_pos rfl⟩)) (fun b u z => ?_) (fun b u z => ?_) (fun _ _ => hk)
    · simp only at z
      split at z
      · rename_i e
        cases z
        subst e
        exact ⟨ha, by rw [List.length_map]; exact l63, vs, _, rv, ha⟩
      · cases z
    · split at z
      · rename_i e
        cases z
        exact ⟨e, _, _, rfl⟩
      · cases z
end
/-- the goal that the head leaves -/
theorem walk_ofG {l : PySem.W.OpenLaw} {k : Nat} {q : Program} {loose : List Str} {XP : (Str → Option Value) → Heap → Prop} {YP : World → Heap → Prop} {d : DefRec} {K : Params → Fg0} {x : Str}
    (hn : l.most = some 63) (hdf : d.params.defaults = []) (hr : Room k callerA) (hY : ∀ (w : World) (h : Heap), YP w h → (K w.params).In h)
    (F : ∀ (w : World) (mg : Str → Option Value) (fa : Addr) (h : Heap), (K w.params).In h → h.Ns mainGlobals mg → mg d.name = some (.ref fa) →
      ∃ fd : FuncData, (∀ (s : Shared) (u : Value), BindsTo s fd ⟨[u], []⟩ [(x, u)]) ∧ ∀ base : Heap, (K w.params).In base → base.Ns mainGlobals mg → FnS l.prog w (K w.params) mg base k fa fd [x] (SpLaw (K w.params))) :
    PySem.W.WalkO q loose XP YP l.row.toRowW d [] (fun f vs => PySem.call f vs) := by
  refine Att.attach_call hn hdf fun w s₀ s₁ mg mb fa o pm cd doc a vs ns G Y ho hd hcd hmg hobj hints hlen hg => ?_
  have KX := hY w _ Y
  obtain ⟨fd, hb, hF⟩ := F w mg fa _ KX G.T.g hmg
  exact law_callG KX G.T.g G.T.b G.T.builtins G.T.nolimit hg hobj hints hlen hr hF hb
end Pl

namespace Pl
open PySem PySem.Spec PyProof.Rows L2

/-! ### repr -/
def rRepr (K : Fg0) : List V → Hp → VK → Prop := fun xs H Q => ∃ x d, xs = [x] ∧ Dp K H x d ∧ d.canLay0 = true ∧ d.showable = true ∧ d.depth ≤ 40 ∧ d.shown.length ≤ sizeLine ∧ Q (.str d.shown) H
theorem call_reprD {X : Cx} (hG : X.A.guards = some []) (hu : X.A.units + 64 < cLine) : CallR X (.builtin "repr") (rRepr X.K) := by
  intro pins s σ H xs us Q I r h
  obtain ⟨x, d, rfl, hd, hc, hs, hp, hz, q⟩ := h
  obtain ⟨u, rfl, rx⟩ := vals1 r
  obtain ⟨as, rr⟩ := Dp.reads I d x u hd rx
  have fin : ∀ (h' : Heap) (t : Tok) (tk : Nat), (∀ b o, s.heap.get? b = some o → h'.get? b = some o) → EP X pins σ Q (.str d.shown t) { s with heap := h', toks := tk } := fun h' t tk k => ⟨.str d.shown, H, I.kept k, ⟨t, rfl⟩, q⟩
  have noD := PyData.hasDict_of_canLay d hc
  have ref : ∀ a, u = .ref a → wpAny (model X.prog X.w) X.A (call (.builtin "repr") [u]) (EP X pins σ Q) X.xe s := fun a e => by
    subst e
    exact repr_of_reads' rr hs (PyData.noDict_hsm noD) hG (by omega) (fun _ _ e => e) (fun h' t tk k => fin h' t tk k) hz
  cases hd with
  | non => cases rx; exact P.repr_of_none (fin s.heap _ _ fun _ _ e => e)
  | bl b => cases rx; exact P.repr_of_bool (fin s.heap _ _ fun _ _ e => e)
  | int i => obtain ⟨t, rfl⟩ := rx; exact P.repr_of_int (by unfold PyData.showable at hs; exact of_decide_eq_true hs) (fin s.heap _ _ fun _ _ e => e)
  | str y => obtain ⟨t, rfl⟩ := rx; exact P.repr_of_str (fin s.heap _ _ fun _ _ e => e) hz
  | lst _ _ => exact ref _ rx
  | tup _ _ => exact ref _ rx
/-- the shown text -/
def shown (d : D) : List Nat := (PyData.shown (toPy d)).cps.toList
/-- ints in it are small -/
def rp (d : D) : Bool := sh d && (toPy d).showable && decide ((shown d).length ≤ sizeLine)
def gRepr : FL := fun ds Q => match ds with
  | [d] => rp d = true ∧ Q (.str (shown d))
  | _ => False
theorem mo_gRepr : MoL gRepr := fun a Q Q' h q => by
  unfold gRepr at q ⊢
  split at q
  · exact ⟨q.1, h _ q.2⟩
  · exact q
theorem b_repr {K : Fg0} {X : Cx} (hG : X.A.guards = some []) (hu : X.A.units + 64 < cLine) (hK : X.K = K := by rfl) : BR K X (.builtin "repr") (rRepr K) gRepr := by
  subst hK
  refine ⟨call_reprD hG hu, fun M m H vs ds Q h ii q => ?_, mo_gRepr⟩
  unfold gRepr at q
  split at q
  · rename_i d
    obtain ⟨v, rfl, i⟩ := ii.one
    obtain ⟨r, q⟩ := q
    unfold rp at r
    simp only [Bool.and_eq_true, decide_eq_true_eq] at r
    obtain ⟨⟨r1, r2⟩, r3⟩ := r
    have r1' := r1
    unfold sh at r1'
    rw [Bool.and_eq_true] at r1'
    have e : PyData.shown (toPy d) = S (shown d) := (S_of _).symm
    refine ⟨v, toPy d, rfl, i.dp r1, canLay_py d r1'.1, r2, by rw [depth_py]; exact of_decide_eq_true r1'.2, by rw [e, S_len]; exact r3, ?_⟩
    rw [e]
    exact Wn.str h q r3
  · exact q.elim
end Pl

namespace Pl
open PySem PySem.Spec PyProof.Rows L2

/-! ### mills -/
/-- a draw: below n, 0 where n is below 2 -/
def gTake (kind : Nat) : FL := fun ds Q => ∃ n : Int, ds = [.ml kind, .int n] ∧ n < 1073741824 ∧ (n < 2 → Q (.int 0)) ∧ (2 ≤ n → ∀ i : Int, 0 ≤ i → i < n → Q (.int i))
theorem mo_gTake {kind : Nat} : MoL (gTake kind) := fun a Q Q' h ⟨n, e, l, q1, q2⟩ => ⟨n, e, l, fun z => h _ (q1 z), fun z i h0 h1 => h _ (q2 z i h0 h1)⟩
theorem len_gTake {kind : Nat} : ∀ ds Q, gTake kind ds Q → ds.length = 2 := fun ds Q ⟨n, e, _⟩ => by rw [e]; rfl
section
variable {a b c : Str} {x y z : V}
abbrev tab3 (a b c : Str) (x y z : V) : List (Key × V) := [(.inr a, x), (.inr b, y), (.inr c, z)]
theorem tab_1 : valV (tab3 a b c x y z) (.inr a) = some x := valV_pos rfl
theorem tab_2 (n : a ≠ b) : valV (tab3 a b c x y z) (.inr b) = some y := (valV_neg fun e => n (Sum.inr.inj e)).trans (valV_pos rfl)
theorem tab_3 (n : a ≠ c) (n' : b ≠ c) : valV (tab3 a b c x y z) (.inr c) = some z := (valV_neg fun e => n (Sum.inr.inj e)).trans ((valV_neg fun e => n' (Sum.inr.inj e)).trans (valV_pos rfl))
theorem put_3 (n : a ≠ c) (n' : b ≠ c) {v : V} : putK (tab3 a b c x y z) (.inr c) v = tab3 a b c x y v := by
  have n1 : ¬ (Sum.inr a : Key) = Sum.inr c := fun e => n (Sum.inr.inj e)
  have n2 : ¬ (Sum.inr b : Key) = Sum.inr c := fun e => n' (Sum.inr.inj e)
  unfold putK
  simp [n1, n2]
theorem put_2 (n : a ≠ b) (n' : c ≠ b) {v : V} : putK (tab3 a b c x y z) (.inr b) v = tab3 a b c x v z := by
  have n1 : ¬ (Sum.inr a : Key) = Sum.inr b := fun e => n (Sum.inr.inj e)
  have n2 : ¬ (Sum.inr c : Key) = Sum.inr b := fun e => n' (Sum.inr.inj e)
  unfold putK
  simp [n1, n2]
theorem get_1 {H : Hp} {μ : Addr} (h : H μ = some (.dK (tab3 a b c x y z))) : DGet H μ (.str a) (some x) := by
  have := DGet.k (k := .inr a) h
  rw [tab_1] at this
  exact this
theorem get_2 {H : Hp} {μ : Addr} (h : H μ = some (.dK (tab3 a b c x y z))) (n : a ≠ b) : DGet H μ (.str b) (some y) := by
  have := DGet.k (k := .inr b) h
  rw [tab_2 n] at this
  exact this
theorem get_3 {H : Hp} {μ : Addr} (h : H μ = some (.dK (tab3 a b c x y z))) (n : a ≠ c) (n' : b ≠ c) : DGet H μ (.str c) (some z) := by
  have := DGet.k (k := .inr c) h
  rw [tab_3 n n'] at this
  exact this
theorem dput_3 {H : Hp} {μ : Addr} {v : V} (h : H μ = some (.dK (tab3 a b c x y z))) (n : a ≠ c) (n' : b ≠ c) : DPut H μ (.str c) v (upd H μ (.dK (tab3 a b c x y v))) := by
  have := DPut.k (k := .inr c) (v := v) h (by show 3 < sizeLine; decide)
  rw [put_3 n n'] at this
  exact this
theorem dput_2 {H : Hp} {μ : Addr} {v : V} (h : H μ = some (.dK (tab3 a b c x y z))) (n : a ≠ b) (n' : c ≠ b) : DPut H μ (.str b) v (upd H μ (.dK (tab3 a b c x v z))) := by
  have := DPut.k (k := .inr b) (v := v) h (by show 3 < sizeLine; decide)
  rw [put_2 n n'] at this
  exact this
end
/-- a list of ints and the empty list, compared -/
theorem eqv_nil (ns : List Int) : PyData.eqv (.list (ns.map PyData.int)) (.list []) = ns.isEmpty := by
  cases ns with
  | nil => rfl
  | cons _ _ => rfl
theorem dp_ints {K : Fg0} {H : Hp} : ∀ ns : List Int, DpAll K H (ns.map V.int) (ns.map PyData.int)
  | [] => .nil
  | n :: ns => .cons (.int n) (dp_ints ns)
theorem lay_ints : ∀ ns : List Int, PyData.canLayAll0 (ns.map PyData.int) = true
  | [] => rfl
  | n :: ns => by
    show (true && PyData.canLayAll0 (ns.map PyData.int)) = true
    rw [lay_ints ns]; rfl
theorem dep_ints : ∀ ns : List Int, PyData.depthAll (ns.map PyData.int) = 0
  | [] => rfl
  | n :: ns => by
    show max 0 (PyData.depthAll (ns.map PyData.int)) = 0
    rw [dep_ints ns]; rfl
theorem shp_ints (ns : List Int) : SeqAt.shaped (.list (ns.map PyData.int)) = true := by
  unfold SeqAt.shaped
  have e1 : (PyData.list (ns.map PyData.int)).canLay0 = true := by unfold PyData.canLay0; exact lay_ints ns
  have e2 : (PyData.list (ns.map PyData.int)).depth = 1 := by unfold PyData.depth; rw [dep_ints]
  rw [e1, e2]
  rfl
/-- the mill of a heap -/
structure Mil (kind : Nat) (H : Hp) (μ δ : Addr) (ns : List Int) (i j : Int) : Prop where
  ne : μ ≠ δ
  hμ : H μ = some (.dK (tab3 (mlNames kind).kd (mlNames kind).k1 (mlNames kind).k2 (.ref δ) (.int i) (.int j)))
  hδ : H δ = some (.lst (ns.map V.int))
  pos : ∀ n ∈ ns, 0 ≤ n
  few : ns.length ≤ 1000
  inn : mlIn kind i j
theorem Mil.ok {kind : Nat} {H : Hp} {μ δ : Addr} {ns : List Int} {i j : Int} (m : Mil kind H μ δ ns i j) : (Ml.at μ δ kind []).ok H := ⟨fun p hp => absurd hp List.not_mem_nil, m.ne, ns, i, j, m.hμ, m.hδ, m.pos, m.few, m.inn⟩
theorem mil_of {kind : Nat} {H : Hp} {μ δ : Addr} {tb : List (Addr × Str)} (h : (Ml.at μ δ kind tb).ok H) : ∃ ns i j, Mil kind H μ δ ns i j := by
  obtain ⟨_, ne, ns, i, j, h1, h2, h3, h4, h5⟩ := h
  exact ⟨ns, i, j, ne, h1, h2, h3, h4, h5⟩
section
variable {kind : Nat} {H : Hp} {μ δ : Addr} {ns : List Int} {i j : Int}
theorem Mil.new (m : Mil kind H μ δ ns i j) {p : Addr} {o : HO} (n : H p = none) : Mil kind (upd H p o) μ δ ns i j :=
  ⟨m.ne, by rw [upd_ne (ne_of_none m.hμ n)]; exact m.hμ, by rw [upd_ne (ne_of_none m.hδ n)]; exact m.hδ, m.pos, m.few, m.inn⟩
theorem Mil.list (m : Mil kind H μ δ ns i j) {ms : List Int} (h0 : ∀ n ∈ ms, 0 ≤ n) (hl : ms.length ≤ 1000) : Mil kind (upd H δ (.lst (ms.map V.int))) μ δ ms i j :=
  ⟨m.ne, by rw [upd_ne m.ne]; exact m.hμ, upd_same, h0, hl, m.inn⟩
theorem Mil.tab (m : Mil kind H μ δ ns i j) {i' j' : Int} (h : mlIn kind i' j') : Mil kind (upd H μ (.dK (tab3 (mlNames kind).kd (mlNames kind).k1 (mlNames kind).k2 (.ref δ) (.int i') (.int j')))) μ δ ns i' j' :=
  ⟨m.ne, upd_same, by rw [upd_ne m.ne.symm]; exact m.hδ, m.pos, m.few, h⟩
/-- the steps -/
theorem stp_mil {tb : List (Addr × Str)} {H H' : Hp} (s : Stp (.at μ δ kind tb) H H') {o : HO} (b : Addr) (hb : b = μ ∨ b = δ) (ok : (Ml.at μ δ kind []).ok (upd H' b o)) : Stp (.at μ δ kind tb) H (upd H' b o) := by
  refine ⟨fun c u n e => ?_, fun c e => ?_, ?_⟩
  · rw [upd_ne fun z => n (by rw [z]; exact hb.elim .inl fun h => .inr (.inl h))]; exact s.keep c u n e
  · by_cases zz : c = b
    · rw [zz, upd_same]; exact fun q => nomatch q
    · rw [upd_ne zz]; exact s.there c e
  · obtain ⟨_, r⟩ := ok
    obtain ⟨t, _, ns, i, j, h1, h2, _⟩ := s.ok
    have nb : ∃ u, H' b = some u ∧ (∀ f, u ≠ .ext f) ∧ ∀ ps, u ≠ .tbl ps := by
      rcases hb with e | e
      · rw [e]; exact ⟨_, h1, (fun _ z => nomatch z), fun _ z => nomatch z⟩
      · rw [e]; exact ⟨_, h2, (fun _ z => nomatch z), fun _ z => nomatch z⟩
    obtain ⟨u, e1, n1, n2⟩ := nb
    refine ⟨fun p hp => ?_, r⟩
    obtain ⟨ps, a1, a2, a3⟩ := t p hp
    refine ⟨ps, ?_, a2, fun pos cv hc => ?_⟩
    · rw [upd_ne fun z => n2 ps (by rw [z, e1] at a1; exact Option.some.inj a1)]; exact a1
    · obtain ⟨c, c1, c2⟩ := a3 pos cv hc
      refine ⟨c, c1, ?_⟩
      by_cases z : c = b
      · subst z
        exact absurd c2 (nc_of e1 n1 _)
      · rw [upd_ne z]; exact c2
end
end Pl

namespace Pl
open PySem PySem.Spec PyProof.Rows L2

/-! ### a mill is made -/
/-- the promise of a def that makes a mill of plain arguments -/
def SpM (K : Fg0) (kind : Nat) (pre : List D → Prop) (vs : List V) (H : Hp) (Q : VK) : Prop := ∃ (z : Addr → Prop) (ds : List D), Hx .no z H ∧ IsA K .no (hid z H) vs ds ∧ pre ds ∧
  ∀ (μ δ : Addr) H', Stp .no H H' → H μ = none → H δ = none → (Ml.at μ δ kind []).ok H' → Q (.ref μ) H'
section
variable {P : Program} {w : World} {K : Fg0} {mg : Str → Option Value} {base : Heap} {f : Addr} {fd : FuncData} {ps : List Str} {k kind : Nat} {pre : List D → Prop}
theorem fnM_of {x qual : Str} {st : Stmt} {N : List Str} (F : Fun K x qual st f fd) (S : FnScope N ps (defScope st)) (len : ∀ ds, pre ds → ds.length = ps.length)
    (body : ∀ (cdv : Value) (A : Around) (outer : List Env) (s : Shared) (H : Hp), Room k (A.deeper (envOfC qual (defScope st) s.heap.objs.size f cdv)) → A.guards = some [] →
      ∃ t b, DSs (Fg.of K) (cxOf CX0 P w K mg base N qual (defScope st) f cdv A outer s H E0).nox (defBody st) t b ∧
        ∀ ds, pre ds → b { nx := fun _ => False, rt := fun _ => False, rm := fun k => k = kind } (ent N.length ds)) : FnS P w K mg base (k + 1) f fd ps (SpM K kind pre) := by
  refine fnS_raw F S (fun vs H Q ⟨z, ds, _, ia, p, _⟩ => ia.length.trans (len _ p)) fun cdv A outer s H vs Q hr hG ⟨z, ds, hx, ia, p, q⟩ => ?_
  obtain ⟨t, b, hbd, hq⟩ := body cdv A outer s H hr hG
  have npl : ps.length ≤ N.length := by have := congrArg List.length S.pre; rw [List.length_take] at this; omega
  have en : EnOk (Fg.of K) .no H z z H (L2.start N vs) (ent N.length ds) := ent_ok trivial hx ia (by rw [len _ p]; exact npl)
  have co : Co (Fg.of K) .no H z z H ({ nx := fun _ H' => Q .non H', rt := Q } : Ends) ({ nx := fun _ => False, rt := fun _ => False, rm := fun k => k = kind } : DEn) :=
    ⟨fun m' σ' H' ρ' I' f q => q.elim, fun m' σ' H' ρ' I' f q => q.elim, fun m' σ' H' ρ' I' f q => q.elim, fun v H' d s i q => q.elim, fun μ δ k' H' s h1 h2 ok e => by
      have e' : k' = kind := e
      subst e'
      exact q μ δ H' s h1 h2 ok⟩
  exact ⟨t, hbd.ps, hbd.rd .no H z z H (L2.start N vs) _ _ _ en co (hq ds p)⟩
end
/-- what a mill may be made of -/
def MlArgs (kind : Nat) (d1 : List D) (d2 d3 : D) : Prop := ∃ (ns : List Int) (i j : Int), d1 = ns.map D.int ∧ d2 = .int i ∧ d3 = .int j ∧ (∀ n ∈ ns, 0 ≤ n) ∧ ns.length ≤ 1000 ∧ mlIn kind i j
section
variable {X : Cx} {K : Fg} {e1 e2 e3 : Expr} {t1 t2 t3 : TE} {f2 f3 : FE} {fa : FA} {s1 s2 s3 x : Str} {j1 j2 j3 : Nat} {p p1 p2 p3 pos pos' : Pos}
theorem tab_new {a b c : Str} {x y z : V} (n1 : a ≠ b) (n2 : a ≠ c) (n3 : b ≠ c) : mergeK [] (tab3 a b c x y z) = tab3 a b c x y z := by
  unfold mergeK putK
  simp [n1, n2, n3]
theorem names_ne (kind : Nat) : (mlNames kind).kd ≠ (mlNames kind).k1 ∧ (mlNames kind).kd ≠ (mlNames kind).k2 ∧ (mlNames kind).k1 ≠ (mlNames kind).k2 := by
  match kind with
  | 0 => exact ⟨by decide, by decide, by decide⟩
  | 1 => exact ⟨by decide, by decide, by decide⟩
  | 2 => exact ⟨by decide, by decide, by decide⟩
  | n + 3 => exact ⟨by show ("deep" : Str) ≠ "mix"; decide, by show ("deep" : Str) ≠ "drawn"; decide, by show ("mix" : Str) ≠ "drawn"; decide⟩
/-- the end of a maker -/
theorem mill_end {K : Fg0} {kind : Nat} {M : Ml} {H0 H2 : Hp} {m : Addr → Prop} {p δ : Addr} {σ : L2.St} {ρ : En} {W : Ends} {E : DEn} {vs : List V} {d1 : List D} {d2 d3 : D} {v2 v3 : V} (hp : H0 p = none) (hδ : H0 δ = none) (ne : p ≠ δ) (s : Stp M H0 H2) (nw : ¬ M.w p) (nc : ∀ q, H2 p ≠ some (LamX.CodeO p q))
    (e : H2 δ = some (.lst vs)) (ia : IsA K M (hid m H2) vs d1) (i2 : Is K M (hid m H2) v2 d2) (i3 : Is K M (hid m H2) v3 d3) (ag : MlArgs kind d1 d2 d3) (c : ∀ (μ δ : Addr) H', Stp M H0 H' → H0 μ = none → H0 δ = none → (Ml.at μ δ kind []).ok H' → W.rt (.ref μ) H') :
    ∃ kvs : List (Key × V), [((V.str (mlNames kind).kd, V.ref δ) : V × V), (V.str (mlNames kind).k1, v2), (V.str (mlNames kind).k2, v3)] = kvs.map (fun kv => (kV kv.1, kv.2)) ∧ kvs.length ≤ 15 ∧ W.rt (.ref p) (upd H2 p (.dK (mergeK [] kvs))) := by
  obtain ⟨ns, i, j, rfl, rfl, rfl, h1, h2, h3⟩ := ag
  cases i2
  cases i3
  have := ia.ints
  subst this
  obtain ⟨n1, n2, n3⟩ := names_ne kind
  refine ⟨tab3 (mlNames kind).kd (mlNames kind).k1 (mlNames kind).k2 (.ref δ) (.int i) (.int j), rfl, (show 3 ≤ 15 by decide), ?_⟩
  rw [tab_new n1 n2 n3]
  refine c p δ _ (stp_wr s hp nw nc) hp hδ ⟨fun p hp => absurd hp List.not_mem_nil, ne, ns, i, j, upd_same, ?_, h1, h2, h3⟩
  rw [upd_ne ne.symm]
  exact e
def sRetM (kind i : Nat) (f2 f3 : FE) : FS := fun E ρ => exS (slL ρ i) fun xs => f2 ρ fun d2 => f3 ρ fun d3 => MlArgs kind xs d2 d3 ∧ E.rm kind
/-- return {kd: the list of slot i, k1: e2, k2: e3} -/
theorem d_retM (kind i : Nat) (h2 : DE K X e2 t2 f2) (h3 : DE K X e3 t3 f3) (g1 : s1 = (mlNames kind).kd := by rfl) (g2 : s2 = (mlNames kind).k1 := by rfl) (g3 : s3 = (mlNames kind).k2 := by rfl) (hN : X.N[i]? = some x := by rfl) (hv : Vis X.env.scope x := by first | exact Or.inl rfl | exact Or.inr (Or.inl rfl) | exact Or.inr (Or.inr rfl)) (hd : (x == ("__debug__" : Str)) = false := by decide)
    (hcd : (x == ("__classdict__" : Str)) = false := by decide) : DS K X (.Return (some (.Dict [some (.Constant (.str s1) j1 p1), some (.Constant (.str s2) j2 p2), some (.Constant (.str s3) j3 p3)] [.Name x p, e2, e3] pos)) pos') (tRet (tDisp [(tC (.str s1), tVar i), (tC (.str s2), t2), (tC (.str s3), t3)])) (sRetM kind i f2 f3) := by
  refine ⟨ps_ret (pe_disp (pps_cons pe_str (pe_var hN hv hd hcd) (pps_cons pe_str h2.pe (pps_cons pe_str h3.pe pps_nil))) rfl rfl (fun z => by cases z) (show 3 ≤ 15 by decide)), fun M H0 z m H σ ρ W E I c q => ?_⟩
  subst g1; subst g2; subst g3
  obtain ⟨xs, e0', q⟩ := q
  have e0 := slL_of e0'
  · obtain ⟨δ, vs, ev, ed, ia, mδ, nw, n0, zl⟩ := I.slot i _ e0
    intro p np
    have n0p : H0 p = none := by
      cases e : H0 p with
      | none => rfl
      | some o => exact absurd np (I.stp.there p (by rw [e]; exact fun q => nomatch q))
    have I1 := I.more (o := .dK []) np
    have nwp : ¬ M.w p := fun z2 => Ml.tr I.ok p z2 np
    have ne : p ≠ δ := fun z2 => by subst z2; rw [np] at ed; cases ed
    refine ⟨.ref δ, ev, ?_⟩
    refine h2.rd M H0 z _ _ σ ρ _ I1 (h2.mo ρ _ _ (fun d2 q2 v2 H2 s2 i2 => ?_) q)
    refine h3.rd M H0 z _ H2 σ ρ _ (I1.step s2) (h3.mo ρ _ _ (fun d3 q3 v3 H3 s3 i3 => ⟨?_, ?_⟩) q2)
    · exact s3.keep _ _ nwp (s2.keep _ _ nwp upd_same)
    · have hx1 := I1.hx
      have s23 := s2.trans s3
      refine mill_end (W := W) (σ := σ) (ρ := ρ) (E := E) n0p n0 ne (I1.stp.trans s23) nwp (nc_of (s23.keep _ _ nwp upd_same) fun _ z => nomatch z) (s23.keep _ _ nw (by rw [upd_ne ne.symm]; exact ed)) ((ia.mono ((hid_more np).trans (hid_same fun b u _ e => by rw [upd_ne (ne_of_none e np)]; exact e))).mono (hx1.same s23)) (i2.mono ((hx1.step s2).same s3)) i3 q3.1 fun μ δ H' s h1 h2 ok => c.rm μ δ kind H' s h1 h2 ok q3.2
def sRetN' (kind : Nat) (fa : FA) (f2 f3 : FE) : FS := fun E ρ => fa ρ fun xs => f2 ρ fun d2 => f3 ρ fun d3 => MlArgs kind xs d2 d3 ∧ E.rm kind
/-- return {kd: a new list, k1: e2, k2: e3} -/
theorem d_retN' (kind : Nat) (h1 : DF K X e1 t1 fa) (h2 : DE K X e2 t2 f2) (h3 : DE K X e3 t3 f3) (g1 : s1 = (mlNames kind).kd := by rfl) (g2 : s2 = (mlNames kind).k1 := by rfl) (g3 : s3 = (mlNames kind).k2 := by rfl) :
    DS K X (.Return (some (.Dict [some (.Constant (.str s1) j1 p1), some (.Constant (.str s2) j2 p2), some (.Constant (.str s3) j3 p3)] [e1, e2, e3] pos)) pos') (tRet (tDisp [(tC (.str s1), t1), (tC (.str s2), t2), (tC (.str s3), t3)])) (sRetN' kind fa f2 f3) := by
  refine ⟨ps_ret (pe_disp (pps_cons pe_str h1.pe (pps_cons pe_str h2.pe (pps_cons pe_str h3.pe pps_nil))) rfl rfl (fun z => by cases z) (show 3 ≤ 15 by decide)), fun M H0 z m H σ ρ W E I c q => ?_⟩
  subst g1; subst g2; subst g3
  intro p np
  have n0 : ∀ p, H p = none → H0 p = none := fun p np => by
    cases e : H0 p with
    | none => rfl
    | some o => exact absurd np (I.stp.there p (by rw [e]; exact fun q => nomatch q))
  have I1 := I.more (o := .dK []) np
  have nwp : ¬ M.w p := fun z2 => Ml.tr I.ok p z2 np
  refine h1.rd M H0 z _ _ σ ρ _ I1 (h1.mo ρ _ _ (fun xs q1 δ vs H1 s1 nδ e1 i1 zl => ?_) q)
  have ne : p ≠ δ := fun z2 => by subst z2; rw [upd_same] at nδ; cases nδ
  have nδ' : H δ = none := by rw [upd_ne ne.symm] at nδ; exact nδ
  have nwd : ¬ M.w δ := fun z2 => Ml.tr I.ok δ z2 nδ'
  have I2 := I1.step s1
  refine h2.rd M H0 z _ H1 σ ρ _ I2 (h2.mo ρ _ _ (fun d2 q2 v2 H2 s2 i2 => ?_) q1)
  refine h3.rd M H0 z _ H2 σ ρ _ (I2.step s2) (h3.mo ρ _ _ (fun d3 q3 v3 H3 s3 i3 => ⟨?_, ?_⟩) q2)
  · exact s3.keep _ _ nwp (s2.keep _ _ nwp (s1.keep _ _ nwp upd_same))
  · have hx2 := I2.hx
    have s23 := s2.trans s3
    refine mill_end (W := W) (σ := σ) (ρ := ρ) (E := E) (n0 p np) (n0 δ nδ') ne (I1.stp.trans (s1.trans s23)) nwp (nc_of (s23.keep _ _ nwp (s1.keep _ _ nwp upd_same)) fun _ z => nomatch z) (s23.keep _ _ nwd e1) ((i1.mono (hid_less fun b h => .inl h)).mono (hx2.same s23)) (i2.mono ((hx2.step s2).same s3)) i3 q3.1 fun μ δ H' s h1 h2 ok => c.rm μ δ kind H' s h1 h2 ok q3.2
end

/-! ### the law's def: first the mill, then the rest -/
section
variable {X : Cx} {K : Fg0} {kind i : Nat} {a : Addr} {ns : List Int} {N : List Str} {u : TS} {b : FS}
theorem law_rest {H H' : Hp} {μ δ : Addr} {W : Ends} (hb : RdS (Fg.of K) u b) (hS : SqL K H a (ns.map V.int)) (hl : ns.length ≤ 63) (s : Stp .no H H') (nμ : H μ = none) (nδ : H δ = none) (ok : (Ml.at μ δ kind []).ok H') (hN : i < N.length) (h1 : 0 < i)
    (hq : b { nx := fun _ => False, rt := fun d => d = .bl true } ((ent N.length [.scr ns]).set i (.d (.ml kind)))) (hW : ∀ v H', v = .bl true → W.rt v H') : u W ((L2.start N [.ref a]).set i (some (.ref μ))) H' := by
  have tr : ∀ b, (Ml.at μ δ kind []).w b → H' b ≠ none := Ml.tr ok
  have I0 : EnOk (Fg.of K) (.at μ δ kind []) H' (Ml.at μ δ kind []).w (Ml.at μ δ kind []).w H' (L2.start N [.ref a]) (ent N.length [.scr ns]) := by
    refine ent_ok trivial ⟨ok, tr, fun _ h => h⟩ (.cons (.scr ?_ hl) .nil) (by simp; omega)
    rcases hS with (e | ⟨o, e⟩) | e
    · refine .inl (.inl ?_)
      rw [hid_in]
      · exact s.keep _ _ (fun z => z) e
      · rintro (z | z | ⟨_, z⟩)
        · rw [z, nμ] at e; cases e
        · rw [z, nδ] at e; cases e
        · exact absurd z List.not_mem_nil
    · refine .inl (.inr ⟨o, ?_⟩)
      rw [hid_in]
      · exact s.keep _ _ (fun z => z) e
      · rintro (z | z | ⟨_, z⟩)
        · rw [z, nμ] at e; cases e
        · rw [z, nδ] at e; cases e
        · exact absurd z List.not_mem_nil
    · exact .inr e
  have I1 := I0.put (i := i) (v := .ref μ) (d := .ml kind) (by rw [← I0.len]; unfold L2.start; rw [List.length_append, List.length_map, List.length_replicate]; simp; omega) (.ml rfl)
  exact hb _ _ _ _ _ _ _ W { nx := fun _ => False, rt := fun d => d = .bl true } I1 ⟨fun _ _ _ _ _ _ q => q.elim, fun _ _ _ _ _ _ q => q.elim, fun _ _ _ _ _ _ q => q.elim, fun v H2 d _ iv e => by
    have e' : d = .bl true := e
    subst e'
    cases iv
    exact hW _ _ rfl, fun _ _ _ _ _ _ _ _ q => q.elim⟩ hq
end
/-- a maker of the script alone; of the script and a seal -/
def pre1 : List D → Prop := fun ds => ∃ ns : List Int, ns.length ≤ 63 ∧ ds = [.scr ns]
def pre2 : List D → Prop := fun ds => ∃ (ns : List Int) (j : Int), ns.length ≤ 63 ∧ 0 ≤ j ∧ j < 4294967291 ∧ ds = [.scr ns, .int j]
section
variable {K : Fg} {H : Hp} {a : Addr} {ns : List Int} {kind : Nat} {Q : VK}
theorem law_is {K : Fg0} (hS : SqL K H a (ns.map V.int)) (hl : ns.length ≤ 63) : Is K .no (hid (fun _ => False) H) (.ref a) (.scr ns) := .scr (same_sqL (fun b o e => by rw [hid_in fun z => z]; exact e) hS) hl
theorem law_make1 {K : Fg0} (hS : SqL K H a (ns.map V.int)) (hl : ns.length ≤ 63) (h : ∀ (μ δ : Addr) H', Stp .no H H' → H μ = none → H δ = none → (Ml.at μ δ kind []).ok H' → Q (.ref μ) H') : SpM K kind pre1 [.ref a] H Q :=
  ⟨fun _ => False, [.scr ns], ⟨trivial, fun b z => z.elim, fun b z => z⟩, .cons (law_is hS hl) .nil, ⟨ns, hl, rfl⟩, h⟩
theorem law_make2 {K : Fg0} {j : Int} (hS : SqL K H a (ns.map V.int)) (hl : ns.length ≤ 63) (h0 : 0 ≤ j) (h1 : j < 4294967291) (h : ∀ (μ δ : Addr) H', Stp .no H H' → H μ = none → H δ = none → (Ml.at μ δ kind []).ok H' → Q (.ref μ) H') : SpM K kind pre2 [.ref a, .int j] H Q :=
  ⟨fun _ => False, [.scr ns, .int j], ⟨trivial, fun b z => z.elim, fun b z => z⟩, .cons (law_is hS hl) (.cons (.int j) .nil), ⟨ns, j, hl, h0, h1, rfl⟩, h⟩
end
end Pl

namespace Pl
open PySem PySem.Spec PyProof.Rows L2

/-- a def of the text: its object, its name -/
structure Df (K : Fg0) (mg : Str → Option Value) (x : String) (st : Stmt) (f : Addr) (fd : FuncData) : Prop where
  fn : Fun K x x st f fd
  mg : mg x = some (.ref f)
theorem u65 {A : Around} {k : Nat} (hr : Room k A) : A.units + 65 < cLine := by have := hr.un; omega
theorem u66 {A : Around} {k : Nat} (hr : Room k A) : A.units + 66 < cLine := by have := hr.un; omega

/-! ### x[::-1] -/
def tRevA (K : Fg0) (te : TE) : TE := fun σ H Q => te σ H fun x H1 => (∃ z, x = .str z ∧ z.length ≤ sizeLine ∧ Q (.str (S z.cps.toList.reverse)) H1) ∨ ∃ a xs, x = .ref a ∧ SqL K H1 a xs ∧ ∀ p, H1 p = none → Q (.ref p) (upd H1 p (.lst xs.reverse))
theorem rev_list (x : Str) (u : Tok) : Txt.sliceBy x none none (-1, u) = S x.cps.toList.reverse := by
  have h := step_rev_list x u
  have e : (List.range x.length).map (fun k => x.cps.getD (x.length - 1 - k) 0) = x.cps.toList.reverse := by
    apply List.ext_getElem?
    intro i
    rw [List.getElem?_map]
    have hl : x.cps.toList.length = x.length := by simp [Str.length]
    by_cases hi : i < x.length
    · rw [List.getElem?_range hi, List.getElem?_reverse (by rw [hl]; exact hi), hl]
      have h2 : x.length - 1 - i < x.cps.size := by show _ < x.length; omega
      simp [Array.getD, h2]
    · rw [List.getElem?_eq_none (by simpa using hi), List.getElem?_eq_none (by simpa [hl] using hi)]
      rfl
  rw [e] at h
  have : Txt.sliceBy x none none (-1, u) = S (Txt.sliceBy x none none (-1, u)).cps.toList := (S_of _).symm
  rw [this, h]
theorem pe_revA {X : Cx} {e : Expr} {te : TE} {k : Nat} {p1 p2 p3 pos : Pos} (he : PE X e te) : PE X (.Subscript e (.Slice none none (some (.UnaryOp .USub (.Constant (.int 1) k p1) p2)) p3) pos) (tRevA X.K te) := by
  refine ⟨fun pins s σ H Q I h => ?_⟩
  refine Subscript_ (thn (he.run pins s σ H _ I h) fun v s1 ⟨x, H1, I1, r1, q1⟩ => ?_)
  have hst : PO X (some (.UnaryOp .USub (.Constant (.int 1) k p1) p2)) (tPart (tUn (rU fun i => .int (-i)) (tC (.int 1)))) := po_some (pe_un un_neg pe_int)
  refine wpAny_Slice (thn (po_none.run pins s1 σ H1 (fun o H2 => o = none ∧ H2 = H1) I1 ⟨rfl, rfl⟩) fun vl s2 ⟨l, H2, I2, pl, el, e2⟩ => ?_)
  subst el e2
  refine thn (po_none.run pins s2 σ H2 (fun o H3 => o = none ∧ H3 = H2) I2 ⟨rfl, rfl⟩) fun vu s3 ⟨u, H3, I3, pu, eu, e3⟩ => ?_
  subst eu e3
  refine thn (hst.run pins s3 σ H3 (fun o H4 => o = some (-1) ∧ H4 = H3) I3 ⟨1, rfl, -1, rfl, rfl, rfl⟩) fun vs s4 ⟨o, H4, I4, ps, eo, e4⟩ => ?_
  subst eo e4
  have I5 : Inv X pins σ H4 { s4 with heap := s4.heap.push { cls := .type "slice", data := .fields #[vl, vu, vs] } } := I4.kept (t' := s4.toks) fun b ob q => Heap.get?_push_of_some _ q
  rcases q1 with ⟨z, ex, hz, q⟩ | ⟨a, xs, ex, hx, q⟩
  · subst ex
    obtain ⟨t, rfl⟩ := r1
    obtain ⟨l, rfl, e1⟩ := IsPart.raw pl
    obtain ⟨u, rfl, e2⟩ := IsPart.raw pu
    obtain ⟨w, rfl, e3⟩ := IsPart.raw ps
    show wpAny (model X.prog X.w) X.A (subscriptTail e (.Slice none none (some (.UnaryOp .USub (.Constant (.int 1) k p1) p2)) p3) (.str z t) (.ref s4.heap.objs.size)) (EP X pins σ Q) X.xe { s4 with heap := s4.heap.push { cls := .type "slice", data := .fields #[_, _, _] } }
    cases l with
    | some l => cases e1
    | none =>
      cases u with
      | some u => cases e2
      | none =>
        cases w with
        | none => cases e3
        | some w =>
          obtain ⟨w1, w2⟩ := w
          cases e3
          refine tail_any (ops := [.ref s4.heap.objs.size, .str z t]) (typeIs_str _ _ _) F.slot_str_getitem.lookup ?_ (by with_unfolding_all rfl)
          refine wpAny_getItem_str_slice (l := none) (u := none) (st := some (-1, w2)) ⟨_, Heap.get?_push_size _ rfl, rfl, rfl⟩ (by rfl) ?_
          refine post_val_or_str (Q := EP X pins σ Q) ⟨Nat.le_trans (Txt.sliceBy_le z none none (-1, w2) (show (-1 : Int) ≠ 0 by decide)) hz, fun t' c => ?_⟩
          refine ⟨.str (Txt.sliceBy z none none (-1, w2)), H4, I5.tok c, ⟨t', rfl⟩, ?_⟩
          rw [rev_list]
          exact q
  · subst ex
    cases r1
    obtain ⟨its, r, ht, hz⟩ := I5.list hx
    have hlen := r.length
    show wpAny (model X.prog X.w) X.A (subscriptTail e (.Slice none none (some (.UnaryOp .USub (.Constant (.int 1) k p1) p2)) p3) (.ref a) (.ref s4.heap.objs.size)) (EP X pins σ Q) X.xe { s4 with heap := s4.heap.push { cls := .type "slice", data := .fields #[vl, vu, vs] } }
    refine tail_any (ops := [.ref a, .ref s4.heap.objs.size]) ht.isList.typeIs (PySem.slot_list_getitem.lookup) ?_ (by with_unfolding_all rfl)
    refine wpAny_getItem_list_slice ht.isList (Heap.IsSliceOf.new _ vl vu vs) pl pu ps (by decide) ?_ (by rw [List.size_toArray]; omega)
    rw [PySem.W.krv_pick]
    refine ⟨.ref _, _, I5.laid (t' := s4.toks) (o := .lst xs.reverse) (fun b ob q => Heap.get?_push_of_some _ q) (Nat.le_refl _) ?_, rfl, q _ (I5.hok.fresh (Nat.le_refl _))⟩
    exact ⟨by rw [List.length_reverse]; exact hz, _, 0, r.reverse, Heap.get?_push_size _ rfl⟩
def gRev : F1 := fun a Q => match a with
  | .str x => Q (.str x.reverse)
  | .lst x => Q (.lst x.reverse)
  | _ => False
theorem mo_gRev : Mo1 gRev := fun a Q Q' h q => by
  unfold gRev at q ⊢
  split at q
  · exact h _ q
  · exact h _ q
  · exact q
theorem e_rev {K : Fg} {X : Cx} {e : Expr} {te : TE} {f : FE} {k : Nat} {p1 p2 p3 pos : Pos} (h : DT K X e te f) (hK : X.K = K := by rfl) : DE K X (.Subscript e (.Slice none none (some (.UnaryOp .USub (.Constant (.int 1) k p1) p2)) p3) pos) (tRevA K te) (f1 gRev f) := by
  obtain ⟨K, stK⟩ := K
  replace hK : X.K = K := hK
  subst hK
  refine ⟨pe_revA h.pe, fun M H0 z m H σ ρ Q I q => ?_, mo_f1 mo_gRev h.mo⟩
  refine h.rd M H0 z m H σ ρ _ I (h.mo ρ _ _ (fun d q v H' s i => ?_) q)
  have hx := I.hx.step s
  unfold gRev at q
  split at q
  · obtain ⟨rfl, zl⟩ := i.str
    refine .inl ⟨_, rfl, by rw [S_len]; exact zl, ?_⟩
    rw [S_list]
    exact Wn.str hx (Wn.mono s q) (by rw [List.length_reverse]; exact zl)
  · obtain ⟨p, vs, rfl, r, k, zl⟩ := i.lst
    exact .inr ⟨p, vs, rfl, .of r, fun p n => Wn.lst hx (Wn.mono s q) n k.reverse (by rw [List.length_reverse]; exact zl)⟩
  · exact q.elim
end Pl

namespace Pl
open PySem PySem.Spec PyProof.Rows L2

/-! ### how often one letter stands in a text -/
theorem at_one {x : List Nat} {c k : Nat} : StrLaws.At (S x) (S [c]) (S x).length k ↔ x[k]? = some c := by
  rw [at_S]
  unfold atL
  rw [Bool.and_eq_true, decide_eq_true_eq, decide_eq_true_eq]
  show k + 1 ≤ x.length ∧ (x.drop k).take 1 = [c] ↔ _
  by_cases h : k < x.length
  · rw [List.drop_eq_getElem_cons h, List.take_succ_cons, List.take_zero, List.getElem?_eq_getElem h]
    constructor
    · rintro ⟨_, e⟩; rw [List.cons.injEq] at e; rw [e.1]
    · intro e; cases e; exact ⟨h, rfl⟩
  · rw [List.getElem?_eq_none (by omega)]
    constructor
    · rintro ⟨h2, _⟩; omega
    · intro e; cases e
theorem chain_count {x : List Nat} {c : Nat} : ∀ (cuts : List Nat) (a f : Nat), StrLaws.ChainG (S x) (S [c]) (S x).length a cuts f → (∀ k, f ≤ k → ¬ StrLaws.At (S x) (S [c]) (S x).length k) → cuts.length = (x.drop a).count c
  | [], a, f, h, hn => by
    have e : f = a := h
    subst e
    rw [List.length_nil]
    symm
    rw [List.count_eq_zero]
    intro hm
    obtain ⟨j, e⟩ := List.mem_iff_getElem?.mp hm
    rw [List.getElem?_drop] at e
    exact hn (f + j) (Nat.le_add_right _ _) (at_one.mpr e)
  | q :: r, a, f, h, hn => by
    obtain ⟨h1, h2, h3, h4⟩ := h
    have e2 := at_one.mp h2
    have ih := chain_count r (q + 1) f h4 hn
    have hq : q < x.length := (List.getElem?_eq_some_iff.mp e2).1
    rw [List.length_cons, ih]
    have split : x.drop a = (x.drop a).take (q - a) ++ (x.drop q) := by
      have := (List.take_append_drop (q - a) (x.drop a)).symm
      rw [List.drop_drop, show a + (q - a) = q by omega] at this
      exact this
    rw [split, List.count_append]
    have z : ((x.drop a).take (q - a)).count c = 0 := by
      rw [List.count_eq_zero]
      intro hm
      obtain ⟨j, e⟩ := List.mem_iff_getElem?.mp hm
      rw [List.getElem?_take] at e
      split at e
      · rw [List.getElem?_drop] at e
        exact h3 (a + j) (Nat.le_add_right _ _) (by omega) (at_one.mpr e)
      · cases e
    rw [z, Nat.zero_add, List.drop_eq_getElem_cons hq]
    have e3 : x[q] = c := (List.getElem?_eq_some_iff.mp e2).2
    rw [e3, List.count_cons_self]
theorem count_S (x : List Nat) (c : Nat) : Txt.count (S x) (S [c]) = (x.count c : Nat) := by
  obtain ⟨f, h, hn⟩ := StrLaws.occ_tight (S x) (S [c]) (Nat.le_refl 1)
  have := chain_count _ 0 f h hn
  rw [List.drop_zero] at this
  unfold Txt.count
  rw [this]
/-- s.count(letter) -/
def gSCount : FM := fun o ds Q => match o, ds with
  | .str x, [.str [c]] => Q (.int (x.count c : Nat))
  | _, _ => False
theorem mo_gSCount : MoM gSCount := fun o a Q Q' h q => by
  unfold gSCount at q ⊢
  split at q
  · exact h _ q
  · exact q
def rSCount : V → List V → Hp → VK → Prop := fun x xs H Q => ∃ a b, x = .str a ∧ xs = [.str b] ∧ Q (.int (Txt.count a b)) H
theorem m_scount {K : Fg0} {X : Cx} : MR K X "str.count" rSCount gSCount := by
  refine ⟨mt_count, fun M m H v vs d ds Q h i ii q => ?_, mo_gSCount⟩
  unfold gSCount at q
  split at q
  · rename_i x c
    obtain ⟨w, rfl, j⟩ := ii.one
    refine ⟨_, _, i.str.1, by rw [j.str.1], ?_⟩
    rw [count_S]
    exact Wn.int h q
  · exact q.elim

/-! ### new lists by built-in functions -/
/-- a new list by values -/
def RFd (K : Fg0) (r : List V → Hp → VK → Prop) (g : List D → (List D → Prop) → Prop) : Prop := ∀ (M : Ml) m H vs ds (Q : VK), Hx M m H → ITA K M m H vs ds → g ds (fun xs => ∀ p ws, H p = none → IsA K M (hid m H) ws xs → xs.length ≤ sizeLine → Q (.ref p) (upd H p (.lst ws))) → r vs H Q
structure LR (K : Fg0) (X : Cx) (f : Value) (r : List V → Hp → VK → Prop) (g : List D → (List D → Prop) → Prop) : Prop where
  cr : CallR X f r
  rd : RFd K r g
  mo : ∀ a (Q Q' : List D → Prop), (∀ d, Q d → Q' d) → g a Q → g a Q'
def lL (g : List D → (List D → Prop) → Prop) (fa : FA) : FA := fun ρ Q => fa ρ fun ds => g ds Q
section
variable {K : Fg} {X : Cx} {x : Str} {p pos : Pos} {e : Expr} {es : List Expr} {t : TA} {fa : FA} {id T : String} {r : List V → Hp → VK → Prop} {g : List D → (List D → Prop) → Prop}
theorem rd_lL (hr : RFd K r g) (mg : ∀ a (Q Q' : List D → Prop), (∀ d, Q d → Q' d) → g a Q → g a Q') (ha : RdAT K t fa) (ma : MoA fa) : RdF K (tCB r t) (lL g fa) := fun M H0 z m H σ ρ Q I q =>
  ha M H0 z m H σ ρ _ I (ma ρ _ _ (fun xs q vs H1 s1 i1 => by
    have h1 := I.hx.step s1
    refine hr M m H1 vs xs Q h1 i1 (mg _ _ _ (fun ds q p ws np a zl => ?_) q)
    have s2 : Stp M H1 (upd H1 p (.lst ws)) := .new h1.ok np
    refine q p ws _ (s1.trans s2) ?_ upd_same (a.mono ((hid_more np).trans (hid_same fun b u _ e => by rw [upd_ne (ne_of_none e np)]; exact e))) zl
    cases e : H p with
    | none => rfl
    | some o => exact absurd np (s1.there p (by rw [e]; exact fun q => nomatch q))) q)
theorem l_bi (b : LR K X (.builtin id) r g) (hm : X.mg x = none) (hv : bootBuiltins x = some (.builtin id)) (ha : DAT K X (e :: es) t fa) (hg : Gl X x := by rfl) (hn : x ≠ "__name__" := by decide) (hdb : (x == ("__debug__" : Str)) = false := by decide)
    (he : starEach (e :: es) X.env = (false, eval e X.env) :: starEach es X.env := by rfl) (hpl : (backTo pos (starEach es X.env)).any (·.1) = false := by rfl) : DF K X (.Call (.Name x p) (e :: es) [] pos) (tCB r t) (lL g fa) :=
  ⟨pe_callB b.cr hg hm hv ha.pa hn hdb he hpl, rd_lL b.rd b.mo ha.rd ha.mo, fun ρ Q Q' h q => ha.mo ρ _ _ (fun ds q => b.mo _ _ _ h q) q⟩
theorem l_ty (b : LR K X (.type T) r g) (hm : X.mg x = none) (hv : bootBuiltins x = some (.type T)) (ha : DAT K X (e :: es) t fa) (hg : Gl X x := by rfl) (hn : x ≠ "__name__" := by decide) (hdb : (x == ("__debug__" : Str)) = false := by decide)
    (he : starEach (e :: es) X.env = (false, eval e X.env) :: starEach es X.env := by rfl) (hpl : (backTo pos (starEach es X.env)).any (·.1) = false := by rfl) : DF K X (.Call (.Name x p) (e :: es) [] pos) (tCB r t) (lL g fa) :=
  ⟨pe_callTy b.cr hg hm hv ha.pa hn hdb he hpl, rd_lL b.rd b.mo ha.rd ha.mo, fun ρ Q Q' h q => ha.mo ρ _ _ (fun ds q => b.mo _ _ _ h q) q⟩
end
/-- list(x) -/
def gListL : List D → (List D → Prop) → Prop := fun ds Q => match ds with
  | [.lst xs] => Q xs
  | [.tup xs] => Q xs
  | [.str x] => Q (x.map fun c => D.str [c])
  | _ => False
def rListA (K : Fg0) : List V → Hp → VK → Prop := fun xs H Q => (∃ p ys, xs = [.ref p] ∧ (SqL K H p ys ∨ SqT K H p ys) ∧ ∀ l, H l = none → Q (.ref l) (upd H l (.lst ys))) ∨ ∃ z, xs = [.str z] ∧ z.length ≤ sizeLine ∧ ∀ l, H l = none → Q (.ref l) (upd H l (.lst (z.cps.toList.map fun c => V.str (S [c]))))
theorem call_listS {X : Cx} (hh : X.A.handled = none) : CallR X (.type "list") (fun xs H Q => ∃ z, xs = [.str z] ∧ z.length ≤ sizeLine ∧ ∀ l, H l = none → Q (.ref l) (upd H l (.lst (z.cps.toList.map fun c => V.str (S [c]))))) := by
  intro pins s σ H xs us Q I r h
  obtain ⟨z, rfl, hz, q⟩ := h
  obtain ⟨u, rfl, rx⟩ := vals1 r
  obtain ⟨t, rfl⟩ := rx
  refine PySem.call_list_str hh z t (fun h' tk acc c' k e ia => ?_) hz
  obtain ⟨hs, ha⟩ := ia
  refine ⟨.ref s.heap.objs.size, _, I.laid (t' := tk) k (Nat.le_refl _) (show ObjOk X.prog X.w _ h' _ (.lst (z.cps.toList.map fun c => V.str (S [c]))) from ⟨by rw [List.length_map]; simpa [Str.length] using hz, acc.toList, c', ?_, by simpa using e⟩), rfl, q _ (I.hok.fresh (Nat.le_refl _))⟩
  have key : ∀ (l : List Nat) (vs : List Value), vs.length = l.length → (∀ (j : Nat) (v : Value), vs[j]? = some v → ∃ c u, l[j]? = some c ∧ v = Value.str ⟨#[c]⟩ u) → Vals (l.map fun c => V.str (S [c])) vs := by
    intro l
    induction l with
    | nil => intro vs hl _; cases vs with
      | nil => exact .nil
      | cons _ _ => cases hl
    | cons c l ih =>
      intro vs hl hv
      cases vs with
      | nil => cases hl
      | cons v vs =>
        obtain ⟨c', u, e1, e2⟩ := hv 0 v rfl
        have e1' : c = c' := by simpa using e1
        subst e1'
        exact .cons ⟨u, e2⟩ (ih vs (by simpa using hl) fun j v h => hv (j + 1) v (by simpa using h))
  refine key _ _ (by simpa using hs) fun j v h => ?_
  obtain ⟨c, u, e1, e2⟩ := ha j v (by simpa using h)
  exact ⟨c, u, by simpa using e1, e2⟩
theorem lr_list {K : Fg0} {X : Cx} (hh : X.A.handled = none) (hK : X.K = K := by rfl) : LR K X (.type "list") (rListA K) gListL := by
  subst hK
  refine ⟨call_list_of.or (call_listS hh), fun M m H vs ds Q h ii q => ?_, fun a Q Q' h q => ?_⟩
  · unfold gListL at q
    split at q
    · obtain ⟨v, rfl, i⟩ := ii.one
      obtain ⟨p, ws, rfl, r, k, zl⟩ := i.lst
      exact .inl ⟨p, ws, rfl, .inl (.of r), fun l n => q l ws n k zl⟩
    · obtain ⟨v, rfl, i⟩ := ii.one
      obtain ⟨p, ws, rfl, r, k, _, zl⟩ := i.tup
      exact .inl ⟨p, ws, rfl, .inr r, fun l n => q l ws n k zl⟩
    · rename_i x
      obtain ⟨v, rfl, i⟩ := ii.one
      obtain ⟨rfl, zl⟩ := i.str
      refine .inr ⟨_, rfl, by rw [S_len]; exact zl, fun l n => q l _ n ?_ (by rw [List.length_map]; exact zl)⟩
      rw [S_list]
      have f : ∀ x : List Nat, IsA X.K M (hid m H) (x.map fun c => V.str (S [c])) (x.map fun c => D.str [c]) := fun x => by
        induction x with
        | nil => exact .nil
        | cons c x ih => exact .cons (.str [c] (by show 1 ≤ sizeLine; decide)) ih
      exact f x
    · exact q.elim
  · unfold gListL at q ⊢
    split at q <;> first | exact h _ q | exact q
end Pl

namespace Pl
open PySem PySem.Spec PyProof.Rows L2

/-! ### zip of two lists, of two tuples -/
def zipD : List D → List D → List D
  | x :: xs, y :: ys => .tup [x, y] :: zipD xs ys
  | _, _ => []
theorem zipD_get : ∀ {xs ys : List D} {i : Nat} {d : D}, (zipD xs ys)[i]? = some d → ∃ x y, xs[i]? = some x ∧ ys[i]? = some y ∧ d = .tup [x, y]
  | x :: xs, y :: ys, 0, d, h => ⟨x, y, rfl, rfl, by simpa [zipD] using h.symm⟩
  | x :: xs, y :: ys, i + 1, d, h => by
    obtain ⟨a, b, h1, h2, h3⟩ := zipD_get (xs := xs) (ys := ys) (i := i) (by simpa [zipD] using h)
    exact ⟨a, b, by simpa using h1, by simpa using h2, h3⟩
  | [], _, _, _, h => by simp [zipD] at h
  | _ :: _, [], _, _, h => by simp [zipD] at h
theorem zipD_len : ∀ xs ys : List D, (zipD xs ys).length = min xs.length ys.length
  | x :: xs, y :: ys => by simp [zipD, zipD_len xs ys]
  | [], _ => by simp [zipD]
  | _ :: _, [] => by simp [zipD]
theorem pair_new {K : Fg0} {M : Ml} {mm : Addr → Prop} {H' : Hp} {T : Addr} {v w : V} {x y : D} (h : Hx M mm H') (n : H' T = none) (i : Is K M (hid mm H') v x) (j : Is K M (hid mm H') w y) : Stp M H' (upd H' T (.tup [v, w])) ∧ Is K M (hid mm (upd H' T (.tup [v, w]))) (.ref T) (.tup [x, y]) := by
  have s : Stp M H' (upd H' T (.tup [v, w])) := .new h.ok n
  exact ⟨s, .tup (.inl (.inl (by rw [hid_in (h.fresh n)]; exact upd_same))) (.cons (i.mono (h.same s)) (.cons (j.mono (h.same s)) .nil)) (show 2 ≤ sizeLine by decide)⟩
section
variable {K : Fg} {M : Ml} {mm : Addr → Prop} {H' : Hp} {a b : Addr} {vs ws : List V} {xs ys : List D}
theorem zip_stop {K : Fg0} (k : IsA K M (hid mm H') vs xs) (l : IsA K M (hid mm H') ws ys) : vs.length ≤ (zipD xs ys).length ∨ ws.length ≤ (zipD xs ys).length := by
  rw [zipD_len, k.length, l.length]
  by_cases h : xs.length ≤ ys.length
  · exact .inl (by omega)
  · exact .inr (by omega)
theorem go_zip {K : Fg0} (h : Hx M mm H') (e : SqL K H' a vs) (f : SqL K H' b ws) (k : IsA K M (hid mm H') vs xs) (l : IsA K M (hid mm H') ws ys) :
    (∀ (i : Nat) d, (zipD xs ys)[i]? = some d → (Itz K a b).go i H' ∧ ∀ v H'', (Itz K a b).yld i H' v H'' → Stp M H' H'' ∧ Is K M (hid mm H'') v d) ∧ (Itz K a b).stop (zipD xs ys).length H' := by
  refine ⟨fun i d q => ?_, vs, ws, e, f, zip_stop k l⟩
  obtain ⟨x, y, q1, q2, rfl⟩ := zipD_get q
  obtain ⟨v, e1, i1⟩ := k.get q1
  obtain ⟨w, e2, i2⟩ := l.get q2
  refine ⟨⟨vs, ws, v, w, e, f, e1, e2⟩, fun u H'' ⟨T, v', w', eu, n, eH, y1, y2⟩ => ?_⟩
  subst eu; subst eH
  have z1 := y1 vs e
  have z2 := y2 ws f
  rw [e1] at z1; cases z1
  rw [e2] at z2; cases z2
  exact pair_new h n i1 i2
theorem go_zipT {K : Fg0} (h : Hx M mm H') (e : SqT K H' a vs) (f : SqT K H' b ws) (k : IsA K M (hid mm H') vs xs) (l : IsA K M (hid mm H') ws ys) :
    (∀ (i : Nat) d, (zipD xs ys)[i]? = some d → (RZ.ItzT K a b).go i H' ∧ ∀ v H'', (RZ.ItzT K a b).yld i H' v H'' → Stp M H' H'' ∧ Is K M (hid mm H'') v d) ∧ (RZ.ItzT K a b).stop (zipD xs ys).length H' := by
  refine ⟨fun i d q => ?_, vs, ws, e, f, zip_stop k l⟩
  obtain ⟨x, y, q1, q2, rfl⟩ := zipD_get q
  obtain ⟨v, e1, i1⟩ := k.get q1
  obtain ⟨w, e2, i2⟩ := l.get q2
  refine ⟨⟨vs, ws, v, w, e, f, e1, e2⟩, fun u H'' ⟨T, v', w', eu, n, eH, y1, y2⟩ => ?_⟩
  subst eu; subst eH
  have z1 := y1 vs e
  have z2 := y2 ws f
  rw [e1] at z1; cases z1
  rw [e2] at z2; cases z2
  exact pair_new h n i1 i2
end
def iZ (f : FA) : FI := fun ρ Q => f ρ fun ds => match ds with
  | [.lst x, .lst y] => Q (zipD x y)
  | [.tup x, .tup y] => Q (zipD x y)
  | _ => False
theorem mo_iZ {f : FA} (h : MoA f) : MoA (iZ f) := fun ρ Q Q' k q => h ρ _ _ (fun ds q => by
  revert q
  split
  · exact fun q => k _ q
  · exact fun q => k _ q
  · exact fun q => q) q
/-- a source that may be the frame's own, as it goes on to stand -/
theorem IsT.lstC {K : Fg0} {M : Ml} {m : Addr → Prop} {H : Hp} {v : V} {ds : List D} (q : IsT K M m H v (.lst ds)) : ∃ a vs, v = .ref a ∧ H a = some (.lst vs) ∧ IsA K M (hid m H) vs ds ∧ ds.length ≤ sizeLine ∧ (¬ m a ∨ ¬ M.w a) := by
  rcases q with q | ⟨p, vs, ds', e1, e2, h, n, a, z⟩ | ⟨p, vs, ds, e1, e2, _⟩
  · cases q with | lst h a z => obtain ⟨n, h⟩ := hid_some h; exact ⟨_, _, rfl, h, a, z, .inl n⟩
  · cases e2; exact ⟨_, _, e1, h, a, z, .inr n⟩
  · cases e2
section
variable {K : Fg} {X : Cx} {e1 e2 : Expr} {elts : List Expr} {kk : Nat} {tpos p pos : Pos} {ta : TA} {fa : FA}
theorem keepL {M : Ml} {m m' : Addr → Prop} {H1 H' : Hp} {a : Addr} {vs : List V} (s2 : Stp M H1 H') (fw : Fw m H1 m' H') (n : ¬ m a ∨ ¬ M.w a) (r : H1 a = some (.lst vs)) : H' a = some (.lst vs) := by
  rcases n with n | n
  · exact (fw.keep _ _ n r).1
  · exact s2.keep _ _ n r
theorem i_zipc (hm : X.mg "zip" = none) (ha : DAT K X [e1, e2] ta fa) (hK : X.K = K := by rfl) (hg : Gl X "zip" := by rfl) (hs : starEach [e1, e2] X.env = (false, eval e1 X.env) :: starEach [e2] X.env := by rfl) (hpl : (backTo pos (starEach [e2] X.env)).any (·.1) = false := by rfl) :
    DIC K X (.Tuple elts kk tpos) (.Call (.Name "zip" p) [e1, e2] [] pos) (RZ.iZipA K ta) (iZ fa) := by
  obtain ⟨K, stK⟩ := K
  replace hK : X.K = K := hK
  subst hK
  refine ⟨RZ.pi_zipA hg hm ha.pa hs hpl, fun M H0 z m H σ ρ R I q => ha.rd M H0 z m H σ ρ _ I (ha.mo ρ _ _ (fun ds q vs H1 s1 i1 => ?_) q), mo_iZ ha.mo⟩
  have hx := I.hx.step s1
  revert q
  split
  · intro q
    obtain ⟨v, w, rfl, i, j⟩ := i1.two
    obtain ⟨a, vs, rfl, r1, k1, z1, n1⟩ := i.lstC
    obtain ⟨b, ws, rfl, r2, k2, z2, n2⟩ := j.lstC
    refine ⟨a, b, vs, ws, rfl, .inl ⟨.of r1, .of r2, q _ H1 s1 (fun m' H' s2 fw hx' => ?_) ?_⟩⟩
    · exact go_zip hx' (.of (keepL s2 fw n1 r1)) (.of (keepL s2 fw n2 r2)) (k1.mono fw.same) (k2.mono fw.same)
    · rw [zipD_len]; omega
  · intro q
    obtain ⟨v, w, rfl, i, j⟩ := i1.two
    obtain ⟨a, vs, rfl, _, k1, r1, z1⟩ := i.tup
    obtain ⟨b, ws, rfl, _, k2, r2, z2⟩ := j.tup
    refine ⟨a, b, vs, ws, rfl, .inr ⟨same_sqT hid_all r1, same_sqT hid_all r2, q _ H1 s1 (fun m' H' s2 fw hx' => ?_) ?_⟩⟩
    · exact go_zipT hx' (same_sqT hid_all (same_sqT fw.same r1)) (same_sqT hid_all (same_sqT fw.same r2)) (k1.mono fw.same) (k2.mono fw.same)
    · rw [zipD_len]; omega
  · exact fun q => q.elim
theorem i_zipf (hm : X.mg "zip" = none) (ha : DA K X [e1, e2] ta fa) (hK : X.K = K := by rfl) (hg : Gl X "zip" := by rfl) (hs : starEach [e1, e2] X.env = (false, eval e1 X.env) :: starEach [e2] X.env := by rfl) (hpl : (backTo pos (starEach [e2] X.env)).any (·.1) = false := by rfl) :
    DIF K X (.Tuple elts kk tpos) (.Call (.Name "zip" p) [e1, e2] [] pos) (RZ.iZipA K ta) (iZ fa) := by
  obtain ⟨K, stK⟩ := K
  replace hK : X.K = K := hK
  subst hK
  refine ⟨RZ.pi_zipA hg hm ha.pa hs hpl, fun M H0 z m H σ ρ R I q => ha.rd M H0 z m H σ ρ _ I (ha.mo ρ _ _ (fun ds q vs H1 s1 i1 => ?_) q), mo_iZ ha.mo⟩
  have hx := I.hx.step s1
  revert q
  split
  · intro q
    cases i1 with
    | cons i i1 =>
      cases i1 with
      | cons j i1 =>
        cases i1
        cases i with
        | lst r1 k1 z1 =>
          cases j with
          | lst r2 k2 z2 =>
            obtain ⟨n1, r1'⟩ := hid_some r1
            obtain ⟨n2, r2'⟩ := hid_some r2
            refine ⟨_, _, _, _, rfl, .inl ⟨.of r1', .of r2', q _ H1 s1 fun m' H' fw hx' => ?_⟩⟩
            exact go_zip hx' (.of (fw.keep _ _ n1 r1').1) (.of (fw.keep _ _ n2 r2').1) (k1.mono fw.same) (k2.mono fw.same)
  · intro q
    cases i1 with
    | cons i i1 =>
      cases i1 with
      | cons j i1 =>
        cases i1
        cases i with
        | tup r1 k1 z1 =>
          cases j with
          | tup r2 k2 z2 =>
            refine ⟨_, _, _, _, rfl, .inr ⟨same_sqT hid_all r1, same_sqT hid_all r2, q _ H1 s1 fun m' H' fw hx' => ?_⟩⟩
            exact go_zipT hx' (same_sqT hid_all (same_sqT fw.same r1)) (same_sqT hid_all (same_sqT fw.same r2)) (k1.mono fw.same) (k2.mono fw.same)
  · exact fun q => q.elim
end
end Pl

namespace Pl
open PySem PySem.Spec PyProof.Rows L2

/-! ### a, b = e1, e2 where lists and dicts may be new ones of the frame's own -/
/-- new objects among values: H the heap ahead of them -/
inductive ArgOk (K : Fg0) (M : Ml) (H0 : Hp) (m' : Addr → Prop) (H' H : Hp) : List V → List Sl → Prop
  | nil : ArgOk K M H0 m' H' H [] []
  | cons {v : V} {s : Sl} {vs : List V} {ss : List Sl} : SlOk K M H0 m' H' (some (some v)) s → (Own s → ∀ p, v = .ref p → H p = none ∧ ∀ (k : Nat) t, ss[k]? = some t → Own t → vs[k]? ≠ some (.ref p)) → ArgOk K M H0 m' H' H vs ss → ArgOk K M H0 m' H' H (v :: vs) (s :: ss)
theorem ArgOk.fresh {K : Fg0} {M : Ml} {H0 : Hp} {m' : Addr → Prop} {H' H : Hp} : ∀ {vs : List V} {ss : List Sl}, ArgOk K M H0 m' H' H vs ss → ∀ (k : Nat) t p, ss[k]? = some t → Own t → vs[k]? = some (.ref p) → H p = none
  | _, _, .nil, k, t, p, e, _, _ => by simp at e
  | _, _, .cons h f r, 0, t, p, e, o, ev => by
    simp at e ev
    subst e
    exact (f o p ev).1
  | _, _, .cons h f r, k + 1, t, p, e, o, ev => ArgOk.fresh r k t p (by simpa using e) o (by simpa using ev)
abbrev FX := En → (List Sl → Prop) → Prop
def RdX (K : Fg) (t : TA) (f : FX) : Prop := ∀ (M : Ml) H0 z m H σ ρ (Q : List V → Hp → Prop), EnOk K M H0 z m H σ ρ → f ρ (fun ss => ∀ vs H' m', EnOk K M H0 z m' H' σ ρ → Stp M H H' → (∀ b, m b → m' b) → (∀ b, m' b → m b ∨ H b = none) → ArgOk K M H0 m' H' H vs ss → Q vs H') → t σ H Q
def MoX (f : FX) : Prop := ∀ ρ (Q Q' : List Sl → Prop), (∀ d, Q d → Q' d) → f ρ Q → f ρ Q'
structure DX (K : Fg) (X : Cx) (es : List Expr) (t : TA) (f : FX) : Prop where
  pa : PA X es t
  rd : RdX K t f
  mo : MoX f
def xNil : FX := fun _ Q => Q []
def xD (f : FE) (g : FX) : FX := fun ρ Q => f ρ fun d => g ρ fun ss => Q (.d d :: ss)
def xL (f : FA) (g : FX) : FX := fun ρ Q => f ρ fun ds => g ρ fun ss => Q (.ol ds :: ss)
theorem mo_xNil : MoX xNil := fun _ _ _ h q => h _ q
theorem mo_xD {f : FE} {g : FX} (hf : MoE f) (hg : MoX g) : MoX (xD f g) := fun ρ Q Q' h q => hf ρ _ _ (fun x q => hg ρ _ _ (fun xs q => h _ q) q) q
theorem mo_xL {f : FA} {g : FX} (hf : MoA f) (hg : MoX g) : MoX (xL f g) := fun ρ Q Q' h q => hf ρ _ _ (fun x q => hg ρ _ _ (fun xs q => h _ q) q) q
section
variable {K : Fg} {M : Ml} {H0 H H' : Hp} {z m m' : Addr → Prop} {σ : L2.St} {ρ : En}
theorem EnOk.hide (I : EnOk K M H0 z m H σ ρ) (s : Stp M H H') {p : Addr} (n : H p = none) {o : HO} (e : H' p = some o) : EnOk K M H0 z (fun b => m b ∨ b = p) H' σ ρ := by
  have I' := I.step s
  have sm : Same (hid m H) (hid (fun b => m b ∨ b = p) H') := (hid_more n).trans (hid_same fun b u k e => s.keep b u (fun w => k (.inl (I.mw b w))) e)
  refine ⟨I'.st, I'.stp, I.zw, fun b h => .inl (I.zm b h), I.zt, fun b h => ?_, I.len, fun j sl e1 => (I.slot j sl e1).step sm (fun b u h _ e => s.keep b u h e) (fun _ _ h => .inl h), I.apart⟩
  rcases h with h | h
  · exact I'.tr b h
  · rw [h, e]; exact fun q => nomatch q
theorem fw_of (I : EnOk K M H0 z m H σ ρ) (s : Stp M H H') (up : ∀ b, m' b → m b ∨ H b = none) : Fw m H m' H' :=
  ⟨fun b o n e => ⟨s.keep b o (fun w => n (I.mw b w)) e, fun h => (up b h).elim n fun h => by rw [h] at e; cases e⟩, s.there⟩
theorem none_of {b : Addr} (s : ∀ b, H b ≠ none → H' b ≠ none) (n : H' b = none) : H b = none := by
  cases e : H b with
  | none => rfl
  | some o => exact absurd n (s b (by rw [e]; exact fun q => nomatch q))
end
section
variable {K : Fg} {X : Cx} {e : Expr} {es : List Expr} {te : TE} {t : TA} {f : FE} {fa : FA} {g : FX}
theorem x_nil : DX K X [] tNil xNil := ⟨pa_nil, fun M H0 z m H σ ρ Q I q => q [] H m I I.hx.rfl (fun _ h => h) (fun _ h => .inl h) .nil, mo_xNil⟩
theorem x_d (h : DE K X e te f) (k : DX K X es t g) (hs : starEach (e :: es) X.env = (false, eval e X.env) :: starEach es X.env := by rfl) : DX K X (e :: es) (tCons te t) (xD f g) := by
  refine ⟨pa_cons h.pe k.pa hs, fun M H0 z m H σ ρ Q I q => ?_, mo_xD h.mo k.mo⟩
  refine h.rd M H0 z m H σ ρ _ I (h.mo ρ _ _ (fun d q v H1 s1 i1 => ?_) q)
  refine k.rd M H0 z m H1 σ ρ _ (I.step s1) (k.mo ρ _ _ (fun ss q vs H2 m2 I2 s2 up dn ok => ?_) q)
  have fw := fw_of (I.step s1) s2 dn
  refine q (v :: vs) H2 m2 I2 (s1.trans s2) up (fun b h => (dn b h).elim .inl fun h => .inr (none_of s1.there h)) (.cons ⟨v, rfl, i1.mono fw.same⟩ (fun o => o.elim) ?_)
  have mono : ∀ {vs : List V} {ss : List Sl}, ArgOk K M H0 m2 H2 H1 vs ss → ArgOk K M H0 m2 H2 H vs ss := fun {vs ss} ok => by
    induction ok with
    | nil => exact .nil
    | cons h f r ih => exact .cons h (fun o p e => ⟨none_of s1.there (f o p e).1, (f o p e).2⟩) ih
  exact mono ok
theorem x_l (h : DF K X e te fa) (k : DX K X es t g) (hs : starEach (e :: es) X.env = (false, eval e X.env) :: starEach es X.env := by rfl) : DX K X (e :: es) (tCons te t) (xL fa g) := by
  refine ⟨pa_cons h.pe k.pa hs, fun M H0 z m H σ ρ Q I q => ?_, mo_xL h.mo k.mo⟩
  refine h.rd M H0 z m H σ ρ _ I (h.mo ρ _ _ (fun ds q p ws H1 s1 np e1 i1 zl => ?_) q)
  have I1 := I.hide s1 np e1
  have nm : ¬ m p := I.hx.fresh np
  have nw : ¬ M.w p := fun w => nm (I.mw p w)
  refine k.rd M H0 z _ H1 σ ρ _ I1 (k.mo ρ _ _ (fun ss q vs H2 m2 I2 s2 up dn ok => ?_) q)
  have fw := fw_of I1 s2 dn
  have n0 : H0 p = none := none_of I.stp.there np
  refine q (.ref p :: vs) H2 m2 I2 (s1.trans s2) (fun b h => up b (.inl h)) (fun b h => ?_) (.cons ⟨p, ws, rfl, s2.keep _ _ nw e1, i1.mono fw.same, up p (.inr rfl), nw, n0, zl⟩ (fun _ p' e => ?_) ?_)
  · rcases dn b h with (h | h) | h
    · exact .inl h
    · right; rw [h]; exact np
    · exact .inr (none_of s1.there h)
  · cases e
    refine ⟨np, fun k t e o ev => ?_⟩
    have := ok.fresh k t p e o ev
    rw [e1] at this
    cases this
  · have mono : ∀ {vs : List V} {ss : List Sl}, ArgOk K M H0 m2 H2 H1 vs ss → ArgOk K M H0 m2 H2 H vs ss := fun {vs ss} ok => by
      induction ok with
      | nil => exact .nil
      | cons h f r ih => exact .cons h (fun o p e => ⟨none_of s1.there (f o p e).1, (f o p e).2⟩) ih
    exact mono ok
end
/-- a slot is set -/
theorem EnOk.putS {K : Fg} {M : Ml} {H0 H : Hp} {z m : Addr → Prop} {σ : L2.St} {ρ : En} {i : Nat} {v : V} {s : Sl} (I : EnOk K M H0 z m H σ ρ) (hi : i < ρ.length) (h : SlOk K M H0 m H (some (some v)) s) (no : Own s → ∀ p, v = .ref p → ∀ (j : Nat) t, ρ[j]? = some t → Own t → σ[j]? ≠ some (some (.ref p))) :
    EnOk K M H0 z m H (σ.set i (some v)) (ρ.set i s) := by
  refine ⟨I.st, I.stp, I.zw, I.zm, I.zt, I.tr, by rw [List.length_set, List.length_set, I.len], fun j t e => ?_, fun j k p t u e1 e2 o1 o2 e3 e4 => ?_⟩
  · by_cases hj : i = j
    · subst hj
      rw [List.getElem?_set_self hi] at e
      cases e
      rw [List.getElem?_set_self (by rw [I.len]; exact hi)]
      exact h
    · rw [List.getElem?_set_ne hj] at e ⊢
      exact I.slot j t e
  · by_cases hj : i = j
    · subst hj
      rw [List.getElem?_set_self hi] at e1
      cases e1
      rw [List.getElem?_set_self (by rw [I.len]; exact hi)] at e3
      cases e3
      by_cases hk : i = k
      · exact hk
      · rw [List.getElem?_set_ne hk] at e2 e4
        exact absurd e4 (no o1 p rfl k u e2 o2)
    · rw [List.getElem?_set_ne hj] at e1 e3
      by_cases hk : i = k
      · subst hk
        rw [List.getElem?_set_self hi] at e2
        cases e2
        rw [List.getElem?_set_self (by rw [I.len]; exact hi)] at e4
        cases e4
        exact absurd e3 (no o2 p rfl j t e1 o1)
      · rw [List.getElem?_set_ne hk] at e2 e4
        exact I.apart j k p t u e1 e2 o1 o2 e3 e4
/-- own slots of a frame with one more -/
theorem own_set {σ : L2.St} {ρ : En} {i : Nat} {v : V} {s : Sl} {p : Addr} (hl : σ.length = ρ.length) (hi : i < ρ.length) (no : ∀ (j : Nat) t, ρ[j]? = some t → Own t → σ[j]? ≠ some (some (.ref p))) (nv : Own s → v ≠ .ref p) : ∀ (j : Nat) t, (ρ.set i s)[j]? = some t → Own t → (σ.set i (some v))[j]? ≠ some (some (.ref p)) := by
  intro j t e o ev
  by_cases hj : i = j
  · subst hj
    rw [List.getElem?_set_self hi] at e
    cases e
    rw [List.getElem?_set_self (by rw [hl]; exact hi)] at ev
    cases ev
    exact nv o rfl
  · rw [List.getElem?_set_ne hj] at e ev
    exact no j t e o ev
def sPar2 (i j : Nat) (f : FX) : FS := fun E ρ => i < ρ.length ∧ j < ρ.length ∧ f ρ fun ss => match ss with
  | [s, t] => E.nx ((ρ.set i s).set j t)
  | _ => False
def sPar3 (i j l : Nat) (f : FX) : FS := fun E ρ => i < ρ.length ∧ j < ρ.length ∧ l < ρ.length ∧ f ρ fun ss => match ss with
  | [s, t, u] => E.nx (((ρ.set i s).set j t).set l u)
  | _ => False
section
variable {K : Fg} {X : Cx} {x y w : Str} {a b c : Expr} {ta : TA} {fa : FX} {px py pw pt pos : Pos} {kt k2 : Nat} {pt2 : Pos}
theorem d_par2 (i j : Nat) (ha : DX K X [a, b] ta fa) (hN : X.N.Nodup) (hc : X.calm = true := by rfl) (hi : X.N[i]? = some x := by rfl) (hj : X.N[j]? = some y := by rfl) (hij : i ≠ j := by decide)
    (hx : X.env.scope.names.lookup x = some .local := by rfl) (hy : X.env.scope.names.lookup y = some .local := by rfl)
    (hw : swappedStores [.Tuple [.Name x px, .Name y py] kt pt] (.Tuple [a, b] k2 pt2) X.env = pure (some [x, y]) := by rfl)
    (hs : swapsWithSole [.Tuple [.Name x px, .Name y py] kt pt] (.Tuple [a, b] k2 pt2) pos.line X.env = pure false := by rfl) :
    DS K X (.Assign [.Tuple [.Name x px, .Name y py] kt pt] (.Tuple [a, b] k2 pt2) pos) (tPar i j ta) (sPar2 i j fa) := by
  refine ⟨ps_par hc hN hi hj hij hx hy ha.pa hw hs, fun M H0 z m H σ ρ W E I c q => ?_⟩
  refine ha.rd M H0 z m H σ ρ _ I (ha.mo ρ _ _ (fun ss q' vs H' m' I' s up dn ok => ?_) q.2.2)
  have fw := fw_of I s dn
  revert q'
  split
  · rename_i s1 s2
    intro q'
    cases ok with
    | cons k1 f1 ok =>
      rename_i v1 vs1
      cases ok with
      | cons k2 f2 ok =>
        cases ok
        rename_i v2
        refine ⟨_, _, rfl, c.nx m' _ H' _ ((I'.putS q.1 k1 fun o p e => I.own_there (f1 o p e).1).putS (by rw [List.length_set]; exact q.2.1) k2 fun o p e => own_set I'.len q.1 (I.own_there (f2 o p e).1) fun o1 e1 => ?_) fw q'⟩
        exact (f1 o1 p e1).2 0 _ rfl o (by rw [e]; rfl)
  · exact fun q' => q'.elim
theorem d_par3 (i j l : Nat) (ha : DX K X [a, b, c] ta fa) (hN : X.N.Nodup) (hc : X.calm = true := by rfl) (hi : X.N[i]? = some x := by rfl) (hj : X.N[j]? = some y := by rfl) (hl : X.N[l]? = some w := by rfl) (hij : i ≠ j := by decide) (hil : i ≠ l := by decide) (hjl : j ≠ l := by decide)
    (hx : X.env.scope.names.lookup x = some .local := by rfl) (hy : X.env.scope.names.lookup y = some .local := by rfl) (hz : X.env.scope.names.lookup w = some .local := by rfl)
    (hw : swappedStores [.Tuple [.Name x px, .Name y py, .Name w pw] kt pt] (.Tuple [a, b, c] k2 pt2) X.env = pure (some [x, y, w]) := by rfl)
    (hs : swapsWithSole [.Tuple [.Name x px, .Name y py, .Name w pw] kt pt] (.Tuple [a, b, c] k2 pt2) pos.line X.env = pure false := by rfl) :
    DS K X (.Assign [.Tuple [.Name x px, .Name y py, .Name w pw] kt pt] (.Tuple [a, b, c] k2 pt2) pos) (tPar3 i j l ta) (sPar3 i j l fa) := by
  refine ⟨ps_par3 hc hN hi hj hl hij hil hjl hx hy hz ha.pa hw hs, fun M H0 z m H σ ρ W E I c q => ?_⟩
  refine ha.rd M H0 z m H σ ρ _ I (ha.mo ρ _ _ (fun ss q' vs H' m' I' s up dn ok => ?_) q.2.2.2)
  have fw := fw_of I s dn
  revert q'
  split
  · rename_i s1 s2 s3
    intro q'
    cases ok with
    | cons k1 f1 ok =>
      rename_i v1 vs1
      cases ok with
      | cons k2 f2 ok =>
        rename_i v2 vs2
        cases ok with
        | cons k3 f3 ok =>
          rename_i v3 vs3
          cases ok
          have I1 := I'.putS q.1 k1 fun o p e => I.own_there (f1 o p e).1
          have I2 := I1.putS (by rw [List.length_set]; exact q.2.1) k2 fun o p e => own_set I'.len q.1 (I.own_there (f2 o p e).1) fun o1 e1 => (f1 o1 p e1).2 0 _ rfl o (by rw [e]; rfl)
          refine ⟨_, _, _, rfl, c.nx m' _ H' _ (I2.putS (by rw [List.length_set, List.length_set]; exact q.2.2.1) k3 fun o p e => own_set I1.len (by rw [List.length_set]; exact q.2.1) (own_set I'.len q.1 (I.own_there (f3 o p e).1) fun o1 e1 => ?_) fun o1 e1 => ?_) fw q'⟩
          · exact (f1 o1 p e1).2 1 _ rfl o (by rw [e]; rfl)
          · exact (f2 o1 p e1).2 0 _ rfl o (by rw [e]; rfl)
  · exact fun q' => q'.elim
end
end Pl

namespace Pl
open PySem PySem.Spec PyProof.Rows L2

/-! ### pops of the frame's own lists -/
abbrev FP := En → (D → En → Prop) → Prop
def RdP (K : Fg) (t : TE) (f : FP) : Prop := ∀ (M : Ml) H0 z m H σ ρ (Q : VK), EnOk K M H0 z m H σ ρ → f ρ (fun d ρ' => ∀ v H', EnOk K M H0 z m H' σ ρ' → Fw m H m H' → Is K M (hid m H') v d → Q v H') → t σ H Q
def MoP (f : FP) : Prop := ∀ ρ (Q Q' : D → En → Prop), (∀ d ρ, Q d ρ → Q' d ρ) → f ρ Q → f ρ Q'
structure DP (K : Fg) (X : Cx) (e : Expr) (t : TE) (f : FP) : Prop where
  pe : PE X e t
  rd : RdP K t f
  mo : MoP f
/-- what stands in a slot's list, taken out -/
theorem EnOk.popL {K : Fg} {M : Ml} {H0 H : Hp} {z m : Addr → Prop} {σ : L2.St} {ρ : En} {i : Nat} {p : Addr} {xs ys : List D} {ws : List V} {v : V} {d : D} (I : EnOk K M H0 z m H σ ρ) (e : ρ[i]? = some (.ol xs)) (es : σ[i]? = some (some (.ref p))) (a : IsA K M (hid m H) ws ys) (zl : ys.length ≤ sizeLine) (iv : Is K M (hid m H) v d) :
    EnOk K M H0 z m (upd H p (.lst ws)) σ (ρ.set i (.ol ys)) ∧ Fw m H m (upd H p (.lst ws)) ∧ Is K M (hid m (upd H p (.lst ws))) v d := by
  obtain ⟨I', f⟩ := I.wrL e es a zl
  exact ⟨I', f, iv.mono f.same⟩
def fPop (j : Nat) : FP := fun ρ Q => exS (slL ρ j) fun xs => exS xs.getLast? fun d => Q d (ρ.set j (.ol xs.dropLast))
def fPopA (j : Nat) (f : FE) : FP := fun ρ Q => exS (slL ρ j) fun xs => f ρ fun d => match d with
    | .int k => ∃ (n : Nat), -(2 ^ 63) ≤ k ∧ k < 2 ^ 63 ∧ seqIndex? k xs.length = some n ∧ exS xs[n]? fun y => Q y (ρ.set j (.ol (xs.eraseIdx n)))
    | _ => False
theorem IsA.erase {K : Fg0} {M : Ml} {H : Hp} : ∀ {v : List V} {d : List D} (n : Nat), IsA K M H v d → IsA K M H (v.eraseIdx n) (d.eraseIdx n)
  | _, _, _, .nil => .nil
  | _, _, 0, .cons _ t => t
  | _, _, n + 1, .cons h t => .cons h (IsA.erase n t)
section
variable {K : Fg} {X : Cx} {x : Str} {e : Expr} {te : TE} {f : FE} {p apos cpos : Pos}
theorem p_pop (j : Nat) (hN : X.N[j]? = some x := by rfl) (hv : Vis X.env.scope x := by first | exact Or.inl rfl | exact Or.inr (Or.inl rfl) | exact Or.inr (Or.inr rfl)) (hd : (x == ("__debug__" : Str)) = false := by decide)
    (hcd : (x == ("__classdict__" : Str)) = false := by decide) (hK : X.K = K := by rfl)
    (hbase : attributeBase (.Name x p) "pop" X.env (eval (.Name x p) X.env) = eval (.Name x p) X.env := by rfl) (hline : (apos.endLine == cpos.line) = true := by rfl) :
    DP K X (.Call (.Attribute (.Name x p) "pop" apos) [] [] cpos) (tBM0 K "list" rPop (tVar j)) (fPop j) := by
  obtain ⟨K, stK⟩ := K
  replace hK : X.K = K := hK
  subst hK
  refine ⟨pe_bm0 PySem.F.plainAttrs_list PySem.F.slot_list_pop PySem.F.type_list_pop mt_pop (pe_var hN hv hd hcd) hbase hline, fun M H0 z m H σ ρ Q I q => ?_, fun ρ Q Q' h q => ?_⟩
  · obtain ⟨xs, e0', d, el, q⟩ := q
    have e0 := slL_of e0'
    obtain ⟨p, vs, e1, e2, ia, mp, nw, n0, zl⟩ := I.slot j _ e0
    rw [List.getLast?_eq_getElem?] at el
    obtain ⟨v, ev, iv⟩ := ia.get el
    refine ⟨.ref p, e1, .inl ⟨rfl, vs, .of e2⟩, p, vs, v, rfl, rfl, e2, by rw [ia.length]; exact ev, ?_⟩
    have ia' : IsA X.K M (hid m H) vs.dropLast xs.dropLast := by
      rw [List.dropLast_eq_take, List.dropLast_eq_take, ia.length]
      exact ia.take _
    obtain ⟨I', f', i'⟩ := I.popL e0 e1 ia' (by rw [List.length_dropLast]; omega) iv
    exact q v _ I' f' i'
  · exact exS_mo (fun xs q => exS_mo (fun d q => h _ _ q) q) q
theorem p_popA (j : Nat) (h : DE K X e te f) (hN : X.N[j]? = some x := by rfl) (hv : Vis X.env.scope x := by first | exact Or.inl rfl | exact Or.inr (Or.inl rfl) | exact Or.inr (Or.inr rfl)) (hd : (x == ("__debug__" : Str)) = false := by decide)
    (hcd : (x == ("__classdict__" : Str)) = false := by decide) (hK : X.K = K := by rfl)
    (hbase : attributeBase (.Name x p) "pop" X.env (eval (.Name x p) X.env) = eval (.Name x p) X.env := by rfl)
    (hfew : ((backTo cpos (starEach [e] X.env)).all (fun x => !x.1) && (backToKw cpos (keywordEach [] X.env)).all (fun x => x.1.isSome)
      && decide ([e].length + ([] : List Keyword).length + (if ([] : List Keyword).isEmpty then 0 else 1) < 30)) = true := by rfl)
    (hline : (apos.endLine == cpos.line) = true := by rfl) (hst : starEach [e] X.env = (false, eval e X.env) :: starEach [] X.env := by rfl) (hplain : (backTo cpos (starEach [] X.env)).any (·.1) = false := by rfl) :
    DP K X (.Call (.Attribute (.Name x p) "pop" apos) [e] [] cpos) (tBM K "list" rPopAt (tVar j) (tCons te tNil)) (fPopA j f) := by
  obtain ⟨K, stK⟩ := K
  replace hK : X.K = K := hK
  subst hK
  refine ⟨pe_bm PySem.F.plainAttrs_list PySem.F.slot_list_pop PySem.F.type_list_pop mt_popAt (pe_var hN hv hd hcd) (pa_cons h.pe pa_nil hst) hbase hfew hline hst hplain, fun M H0 z m H σ ρ Q I q => ?_, fun ρ Q Q' k q => ?_⟩
  · obtain ⟨xs, e0', q⟩ := q
    have e0 := slL_of e0'
    obtain ⟨p, vs, e1, e2, ia, mp, nw, n0, zl⟩ := I.slot j _ e0
    refine ⟨.ref p, e1, .inl ⟨rfl, vs, .of e2⟩, ?_⟩
    refine h.rd M H0 z m H σ ρ _ I (h.mo ρ _ _ (fun d q v H1 s1 i1 => ?_) q)
    cases d with
    | int k =>
      cases i1
      obtain ⟨n, b1, b2, si, y, ey, q⟩ := q
      have I1 := I.step s1
      have e2' := s1.keep _ _ nw e2
      have ia1 := ia.mono (I.same s1)
      obtain ⟨w, ew, iw⟩ := ia1.get ey
      refine ⟨p, vs, k, n, w, rfl, rfl, e2', b1, b2, by rw [ia.length]; exact si, ew, ?_⟩
      obtain ⟨I', f', i'⟩ := I1.popL e0 e1 (ia1.erase n) (Nat.le_trans (List.length_eraseIdx_le _ _) zl) iw
      exact q w _ I' ((I.fw s1).trans f') i'
    | _ => exact q.elim
  · refine exS_mo (fun xs q => h.mo ρ _ _ (fun d q => ?_) q) q
    cases d with
    | int i => obtain ⟨n, b1, b2, si, q⟩ := q; exact ⟨n, b1, b2, si, exS_mo (fun y q => k _ _ q) q⟩
    | _ => exact q
end
/-- a + (a pop) -/
def fAddP (g : F2) (f : FE) (u : FP) : FP := fun ρ Q => f ρ fun a => u ρ fun b ρ' => g a b fun d => Q d ρ'
section
variable {K : Fg} {X : Cx} {a b : Expr} {ta tb : TE} {fa : FE} {u : FP} {pos pos' : Pos} {x : Str}
theorem p_add (ha : DE K X a ta fa) (hb : DP K X b tb u) (hK : X.K = K := by rfl) : DP K X (.BinOp a .Add b pos) (tOp (rAddS K) ta tb) (fAddP gAdd fa u) := by
  obtain ⟨K, stK⟩ := K
  replace hK : X.K = K := hK
  subst hK
  refine ⟨pe_op op_addS ha.pe hb.pe, fun M H0 z m H σ ρ Q I q => ?_, fun ρ Q Q' k q => ha.mo ρ _ _ (fun x q => hb.mo ρ _ _ (fun y ρ' q => mo_gAdd _ _ _ _ (fun d q => k _ _ q) q) q) q⟩
  refine ha.rd M H0 z m H σ ρ _ I (ha.mo ρ _ _ (fun d q v H1 s1 i1 => ?_) q)
  refine hb.rd M H0 z m H1 σ ρ _ (I.step s1) (hb.mo ρ _ _ (fun e ρ' q w H2 I2 f2 i2 => ?_) q)
  refine rd_addS M m H2 v w d e Q I2.hx (.of (i1.mono f2.same)) (.of i2) (mo_gAdd _ _ _ _ (fun r q y H3 s3 i3 => ?_) q)
  exact q y H3 (I2.step s3) (((I.fw s1).trans f2).trans (I2.fw s3)) i3
def sSetP (i : Nat) (u : FP) : FS := fun E ρ => u ρ fun d ρ' => i < ρ'.length ∧ E.nx (ρ'.set i (.d d))
theorem d_setP (i : Nat) (h : DP K X b tb u) (hN : X.N.Nodup) (hi : X.N[i]? = some x := by rfl) (hx : Loc X.env.scope x := by first | exact Or.inl rfl | exact Or.inr rfl) (hs : swapsWith b (some (.Name x pos')) pos.line X.env = pure false := by rfl) (hf : X.fn x = true ∨ X.env.scope.names.lookup x = some .local := by first | exact .inl rfl | exact .inr rfl) :
    DS K X (.Assign [.Name x pos'] b pos) (tAsg tb (gName i)) (sSetP i u) :=
  ⟨ps_set hN hi hx h.pe hs hf, fun M H0 z m H σ ρ W E I c q => h.rd M H0 z m H σ ρ _ I (h.mo ρ _ _ (fun d ρ' q v H' I' f' iv => c.nx m _ H' _ (I'.put q.1 iv) f' q.2) q)⟩
def sDropP (u : FP) : FS := fun E ρ => u ρ fun d ρ' => E.nx ρ'
theorem d_exprP (h : DP K X b tb u) (hs : swapsWith b none pos.line X.env = pure false := by rfl) : DS K X (.Expr b pos) (tDrop tb) (sDropP u) :=
  ⟨ps_expr h.pe hs, fun M H0 z m H σ ρ W E I c q => h.rd M H0 z m H σ ρ _ I (h.mo ρ _ _ (fun d ρ' q v H' I' f' iv => c.nx m σ H' ρ' I' f' q) q)⟩
def sAsgP (u : FP) (g : FG) : FS := fun E ρ => u ρ fun d ρ' => g d ρ' E.nx
theorem d_asgP {tg : Expr} {ss : List Nat} {g : TG} {gg : FG} (h : DP K X b tb u) (hg : DG K X tg ss g gg) (hs : swapsWithSole [tg] b pos.line X.env = pure false := by rfl) (hw : swappedStores [tg] b X.env = pure none := by rfl)
    (h1 : (assignEach [tg] X.env).map (·.2) = [assign tg X.env] := by rfl) : DS K X (.Assign [tg] b pos) (tAsg tb g) (sAsgP u gg) := by
  refine ⟨ps_asg h.pe hg.pg hs hw h1, fun M H0 z m H σ ρ W E I c q => ?_⟩
  refine h.rd M H0 z m H σ ρ _ I (h.mo ρ _ _ (fun d ρ' q' v H' I' f' iv => ?_) q)
  exact hg.rd M H0 z m H' σ ρ' v d _ I' iv (hg.mo _ _ _ _ (fun ρ2 q2 σ' I2 _ => c.nx m σ' H' ρ2 I2 f' q2) q')
end
/-- x.append(pop) -/
def sAppP (i : Nat) (u : FP) : FS := fun E ρ => exS (slL ρ i) fun _ => u ρ fun d ρ' => exS (slL ρ' i) fun xs => xs.length < sizeLine ∧ E.nx (ρ'.set i (.ol (xs ++ [d])))
section
variable {K : Fg} {X : Cx} {x : Str} {e : Expr} {te : TE} {u : FP} {p apos cpos pos : Pos}
theorem d_appP (i : Nat) (h : DP K X e te u) (hN : X.N[i]? = some x := by rfl) (hv : Vis X.env.scope x := by first | exact Or.inl rfl | exact Or.inr (Or.inl rfl) | exact Or.inr (Or.inr rfl)) (hd : (x == ("__debug__" : Str)) = false := by decide)
    (hcd : (x == ("__classdict__" : Str)) = false := by decide) (hK : X.K = K := by rfl)
    (hs : swapsWith (.Call (.Attribute (.Name x p) "append" apos) [e] [] cpos) none pos.line X.env = pure false := by rfl)
    (hbase : attributeBase (.Name x p) "append" X.env (eval (.Name x p) X.env) = eval (.Name x p) X.env := by rfl)
    (hfew : ((backTo cpos (starEach [e] X.env)).all (fun x => !x.1) && (backToKw cpos (keywordEach [] X.env)).all (fun x => x.1.isSome)
      && decide ([e].length + ([] : List Keyword).length + (if ([] : List Keyword).isEmpty then 0 else 1) < 30)) = true := by rfl)
    (hline : (apos.endLine == cpos.line) = true := by rfl) (hst : starEach [e] X.env = (false, eval e X.env) :: starEach [] X.env := by rfl) (hplain : (backTo cpos (starEach [] X.env)).any (·.1) = false := by rfl) :
    DS K X (.Expr (.Call (.Attribute (.Name x p) "append" apos) [e] [] cpos) pos) (tApp K i te) (sAppP i u) := by
  obtain ⟨K, stK⟩ := K
  replace hK : X.K = K := hK
  subst hK
  refine ⟨ps_expr (pe_bm PySem.F.plainAttrs_list PySem.F.slot_list_append PySem.F.type_list_append mt_append (pe_var hN hv hd hcd) (pa_cons h.pe pa_nil hst) hbase hfew hline hst hplain) hs, fun M H0 z m H σ ρ W E I c ⟨xs0, e0', q⟩ => ?_⟩
  have e0 := slL_of e0'
  obtain ⟨p, vs, e1, e2, ia, mp, nw, n0, zl⟩ := I.slot i _ e0
  refine ⟨.ref p, e1, .inl ⟨rfl, vs, .of e2⟩, ?_⟩
  refine h.rd M H0 z m H σ ρ _ I (h.mo ρ _ _ (fun d ρ' q' v H' I' f' iv => ?_) q)
  obtain ⟨xs, e3', q'⟩ := q'
  have e3 := slL_of e3'
  obtain ⟨p', vs', e1', e2', ia', mp', nw', n0', zl'⟩ := I'.slot i _ e3
  rw [e1] at e1'
  cases e1'
  refine ⟨p, vs', v, rfl, rfl, e2', by rw [ia'.length]; exact q'.1, ?_⟩
  obtain ⟨I2, f2⟩ := I'.wrL e3 e1 (ia'.append (.one iv)) (by rw [List.length_append]; exact q'.1)
  exact c.nx m σ _ _ I2 (f'.trans f2) q'.2
end
end Pl

namespace Pl
open PySem PySem.Spec PyProof.Rows L2

/-! ### a token is out behind it -/
def PEo (X : Cx) (e : Expr) (t : TE) : Prop := ∀ (pins : List (Addr × Obj)) (s : Shared) (σ : L2.St) (H : Hp) (Q : VK), Inv X pins σ H s → t σ H Q → wpAny (model X.prog X.w) X.A (eval e X.env) (fun v s1 => EP X pins σ Q v s1 ∧ 1 ≤ s1.toks) X.xe s
def PAo (X : Cx) (es : List Expr) (t : TA) : Prop := ∀ (pos : Pos) (pins : List (Addr × Obj)) (s : Shared) (σ : L2.St) (H : Hp) (Q : List V → Hp → Prop), Inv X pins σ H s → t σ H Q → wpAny (model X.prog X.w) X.A (spliced (backTo pos (starEach es X.env))) (fun us s1 => AP X pins σ Q us s1 ∧ 1 ≤ s1.toks) X.xe s
def PSo (X : Cx) (st : Stmt) (t : TS) : Prop := ∀ (pins : List (Addr × Obj)) (s : Shared) (σ : L2.St) (H : Hp) (D : Ends), Inv X pins σ H s → t D σ H → wpAny (model X.prog X.w) X.A (exec st X.env) (fun fl s1 => SP X pins D fl s1 ∧ 1 ≤ s1.toks) X.xe s
section
variable {X : Cx} {e : Expr} {es : List Expr} {te : TE} {ta : TA} {pos : Pos} {st : Stmt} {rest : List Stmt} {t u : TS}
theorem peo_int {i j p} : PEo X (.Constant (.int i) j p) (tC (.int i)) := fun pins s σ H Q I h => wpAny_Constant_int ⟨⟨.int i, H, I.tok _, ⟨_, rfl⟩, h⟩, by show 1 ≤ s.toks + 1; omega⟩
theorem pao_here (ha : PEo X e te) (hr : PA X es ta) (hs : starEach (e :: es) X.env = (false, eval e X.env) :: starEach es X.env := by rfl) : PAo X (e :: es) (tCons te ta) := by
  intro pos pins s σ H Q I h
  rw [hs]
  show wpAny _ _ (spliced ((false, eval e X.env) :: backTo pos (starEach es X.env))) _ _ s
  refine Calls.spliced_cons (thn (ha pins s σ H _ I h) fun v s1 ⟨⟨x, H1, I1, r1, q1⟩, tk⟩ => ?_)
  refine wpAny_mono (PySem.wpAny_toks (hr.run pos pins s1 σ H1 _ I1 q1)) (fun us s2 q => ?_) fun _ _ z => z.2
  obtain ⟨hk, xs, H2, I2, r2, q2⟩ := q
  exact ⟨⟨x :: xs, H2, I2, .cons r1 r2, q2⟩, Nat.le_trans tk hk⟩
theorem pao_later (ha : PE X e te) (hr : PAo X es ta) (hs : starEach (e :: es) X.env = (false, eval e X.env) :: starEach es X.env := by rfl) : PAo X (e :: es) (tCons te ta) := by
  intro pos pins s σ H Q I h
  rw [hs]
  show wpAny _ _ (spliced ((false, eval e X.env) :: backTo pos (starEach es X.env))) _ _ s
  refine Calls.spliced_cons (thn (ha.run pins s σ H _ I h) fun v s1 ⟨x, H1, I1, r1, q1⟩ => ?_)
  exact thn (hr pos pins s1 σ H1 _ I1 q1) fun us s2 ⟨⟨xs, H2, I2, r2, q2⟩, tk⟩ => ⟨⟨x :: xs, H2, I2, .cons r1 r2, q2⟩, tk⟩
theorem peo_lst (h : PAo X es ta) : PEo X (.List es pos) (tLst ta) := by
  intro pins s σ H Q I hq
  refine wpAny_List_spliced (thn (h pos pins s σ H _ I hq) fun us s1 ⟨⟨xs, H1, I1, r, z, q⟩, tk⟩ => ⟨by rw [← r.length]; exact z, ?_⟩)
  have hf : H1 s1.heap.objs.size = none := I1.hok.fresh (Nat.le_refl _)
  refine ⟨⟨.ref s1.heap.objs.size, upd H1 s1.heap.objs.size (.lst xs), I1.laid (t' := s1.toks) (fun b u e => Heap.get?_push_of_some _ e) (Nat.le_refl _) ?_, rfl, q _ hf⟩, tk⟩
  exact ⟨z, us, 0, r, Heap.get?_push_size _ rfl⟩
theorem peo_callS {k : Nat} {f : Addr} {fd : FuncData} {ps : List Str} {x : Str} {p : Pos} {sp : List V → Hp → VK → Prop} (F : FnS X.prog X.w X.K X.mg X.base k f fd ps sp) (hr : Room k X.A) (hG : X.A.guards = some []) (hg : Gl X x) (hm : X.mg x = some (.ref f)) (hk : PySem.W.keepIn X.K (.ref f) = true) (hb : Binds X.K fd ps [])
    (ha : PAo X (e :: es) ta) (hdb : (x == ("__debug__" : Str)) = false := by decide) (he : starEach (e :: es) X.env = (false, eval e X.env) :: starEach es X.env := by rfl) (hpl : (backTo pos (starEach es X.env)).any (·.1) = false := by rfl) :
    PEo X (.Call (.Name x p) (e :: es) [] pos) (tCallS sp ta) := by
  intro pins s σ H Q I h
  refine wpAny_Call_Name_kw (ld_glob I hg hm ?_ hdb)
  refine PySem.W.callWith_K (h₀ := X.base) I.ok.mod.kin hk (thn (ha pos pins s σ H _ I h) fun us s1 ⟨⟨vs, H1, I1, r, q⟩, tk⟩ => ⟨I1.kIn, ?_⟩) he hpl
  refine wpAny_mono (PySem.wpAny_toks (E := X.xe) (wpAny_call (codeAny_mono (run_s F hr hG (us := us) (by have := hb s1 us I1.kIn (by rw [List.append_nil, ← r.length]; exact F.len _ _ _ q); rwa [List.append_nil] at this) I1 r q) fun r s' ⟨u, e, q⟩ => ?_))) (fun v s2 ⟨hk, q⟩ => ⟨q, Nat.le_trans tk hk⟩) fun _ _ z => z.2
  subst e
  exact q
theorem pso_set {i : Nat} {x : Str} {pos' : Pos} (hN : X.N.Nodup) (hi : X.N[i]? = some x) (hx : Loc X.env.scope x) (he : PEo X e te) (hs : swapsWith e (some (.Name x pos')) pos.line X.env = pure false) (hf : X.fn x = true ∨ X.env.scope.names.lookup x = some .local) :
    PSo X (.Assign [.Name x pos'] e pos) (tAsg te (gName i)) := by
  intro pins s σ H D I h
  refine wpAny_Assign_Name (thn (he pins s σ H _ I h) fun v s1 ⟨⟨y, H1, I1, r1, q1⟩, tk⟩ => ?_) hs
  refine wpAny_mono (PySem.wpAny_toks (E := X.xe) (store_ok (Q := fun _ s2 => Inv X pins (σ.set i (some y)) H1 s2) I1 hN hi hx r1 (fun s2 I2 => I2) hf)) (fun _ s2 ⟨hk, I2⟩ => ⟨⟨_, H1, I2, q1⟩, Nat.le_trans tk hk⟩) fun _ _ z => z.2
theorem pss_tok (h1 : PSo X st t) (h2 : PSsT X rest u) : PSs X (st :: rest) (tSeq t u) := by
  refine ⟨fun pins s σ H D I h => ?_⟩
  refine wpAny_execs_cons (thn (h1 pins s σ H { D with nx := u D } I h) fun f s1 ⟨q, tk⟩ => ?_)
  cases f with
  | next =>
    obtain ⟨σ', H', I', q⟩ := q
    exact h2 pins s1 σ' H' D tk I' q
  | ret v => exact q
  | brk => exact q
  | cont => exact q
theorem pst_set {i : Nat} {x : Str} {pos' : Pos} (hN : X.N.Nodup) (hi : X.N[i]? = some x) (hx : Loc X.env.scope x) (he : PET X e te) (hs : swapsWith e (some (.Name x pos')) pos.line X.env = pure false) (hf : X.fn x = true ∨ X.env.scope.names.lookup x = some .local) :
    PST X (.Assign [.Name x pos'] e pos) (tAsg te (gName i)) := by
  intro pins s σ H D h0 I h
  refine wpAny_Assign_Name (thn (he pins s σ H _ h0 I h) fun v s1 ⟨y, H1, I1, r1, q1⟩ => ?_) hs
  exact store_ok I1 hN hi hx r1 (fun s2 I2 => ⟨_, H1, I2, q1⟩) hf
end
theorem peK (K : Fg) {X : Cx} {e : Expr} {t : TE} {f : FE} (h : DE K X e t f) : PE X e t := h.pe
theorem paK (K : Fg) {X : Cx} {es : List Expr} {t : TA} {f : FA} (h : DA K X es t f) : PA X es t := h.pa
/-- blocks where a token is out at the start -/
structure DTs' (K : Fg) (X : Cx) (st : List Stmt) (t : TS) (f : FS) : Prop where
  ps : PSsT X st t
  rd : RdS K t f
structure DTe (K : Fg) (X : Cx) (e : Expr) (t : TE) (f : FE) : Prop where
  pe : PET X e t
  rd : RdE K t f
  mo : MoE f
section
variable {K : Fg} {X : Cx} {st : Stmt} {rest : List Stmt} {t u : TS} {f g : FS} {e : Expr} {te : TE} {fe : FE} {pos pos' : Pos} {x : Str}
theorem rd_seq (h : RdS K t f) (k : RdS K u g) : RdS K (tSeq t u) (sSeq f g) := fun M H0 z m H σ ρ W E I c q =>
  h M H0 z m H σ ρ { W with nx := u W } { E with nx := g E } I ⟨fun m' σ' H' ρ' I' f' q' => k M H0 z m' H' σ' ρ' W E I' (c.fw f') q', c.bk, c.ct, c.rt, c.rm⟩ q
/-- behind st a token is out -/
theorem d_seqO (o : PSo X st t) (h : DS K X st t f) (k : DTs' K X rest u g) : DSs K X (st :: rest) (tSeq t u) (sSeq f g) := ⟨pss_tok o k.ps, rd_seq h.rd k.rd⟩
theorem d_seqT (h : DS K X st t f) (k : DTs' K X rest u g) : DTs' K X (st :: rest) (tSeq t u) (sSeq f g) := ⟨psst_cons (PST.of h.ps) k.ps, rd_seq h.rd k.rd⟩
theorem d_setT (i : Nat) (h : DTe K X e te fe) (k : DSs K X rest u g) (hN : X.N.Nodup) (hi : X.N[i]? = some x := by rfl) (hx : Loc X.env.scope x := by first | exact Or.inl rfl | exact Or.inr rfl) (hs : swapsWith e (some (.Name x pos')) pos.line X.env = pure false := by rfl) (hf : X.fn x = true ∨ X.env.scope.names.lookup x = some .local := by first | exact .inl rfl | exact .inr rfl) :
    DTs' K X (.Assign [.Name x pos'] e pos :: rest) (tSeq (tAsg te (gName i)) u) (sSeq (sSet i fe) g) := ⟨psst_cons (pst_set hN hi hx h.pe hs hf) (PSsT.of k.ps), rd_seq (rd_set h.rd h.mo) k.rd⟩
end

/-! ### e.replace(y, z) of written texts -/
def gRepl (y z : List Nat) : F1 := fun a Q => match a with
  | .str x => x.length + (x.length + 1) * z.length ≤ 16777216 ∧ Q (.str (StrLaws.replL y z x))
  | _ => False
theorem mo_gRepl {y z : List Nat} : Mo1 (gRepl y z) := fun a Q Q' h q => by
  unfold gRepl at q ⊢
  split at q
  · exact ⟨q.1, h _ q.2⟩
  · exact q
theorem repl_S {x y z : List Nat} (hy : 1 ≤ y.length) : Txt.replace (S x) (S y) (S z) = S (StrLaws.replL y z x) := by
  have h := StrLaws.replace_list (x := S x) (y := S y) (z := S z) (by rw [S_len]; exact hy)
  rw [S_list, S_list, S_list] at h
  have e : Txt.replace (S x) (S y) (S z) = S (Txt.replace (S x) (S y) (S z)).cps.toList := (S_of _).symm
  rw [e, h]
section
variable {K : Fg} {X : Cx} {o : Expr} {to : TE} {fo : FE} {y z : Str} {j k : Nat} {c0 c1 apos pos : Pos}
theorem rd_repl (ys zs : List Nat) (hy : y = S ys) (hz : z = S zs) (h1 : 1 ≤ ys.length) (h : RdT K to fo) (mo : MoE fo) : RdE K (CwR.tReplC to y z) (f1 (gRepl ys zs) fo) := fun M H0 zz m H σ ρ Q I q => by
  subst hy; subst hz
  refine h M H0 zz m H σ ρ _ I (mo ρ _ _ (fun d q v H' s i => ?_) q)
  unfold gRepl at q
  split at q
  · rename_i x
    obtain ⟨rfl, zl⟩ := i.str
    have b : x.length + (x.length + 1) * zs.length ≤ 16777216 := q.1
    refine ⟨_, rfl, by rw [S_len, S_len]; exact b, ?_⟩
    have hl := TK.replace_len (S x) (S ys) (S zs)
    rw [repl_S h1, S_len, S_len, S_len] at hl
    rw [repl_S h1]
    exact Wn.str (I.hx.step s) (Wn.mono s q.2) (by rw [sizeLine_eq]; exact Nat.le_trans hl b)
  · exact q.elim
theorem e_repl (ys zs : List Nat) (ho : DE K X o to fo) (hy : y = S ys := by rfl) (hz : z = S zs := by rfl) (h1 : 1 ≤ ys.length := by decide) (hyz : (y == z) = false := by decide)
    (hst : starEach [.Constant (.str y) j c0, .Constant (.str z) k c1] X.env = [(false, eval (.Constant (.str y) j c0) X.env), (false, eval (.Constant (.str z) k c1) X.env)] := by rfl)
    (hbase : attributeBase o "replace" X.env (eval o X.env) = eval o X.env := by rfl) (hline : (apos.endLine == pos.line) = true := by rfl) :
    DTe K X (.Call (.Attribute o "replace" apos) [.Constant (.str y) j c0, .Constant (.str z) k c1] [] pos) (CwR.tReplC to y z) (f1 (gRepl ys zs) fo) :=
  ⟨CwR.pet_replC ho.pe hyz hst hbase hline, rd_repl ys zs hy hz h1 ho.top.rd ho.mo, mo_f1 mo_gRepl ho.mo⟩
theorem e_replT (ys zs : List Nat) (ho : DTe K X o to fo) (hy : y = S ys := by rfl) (hz : z = S zs := by rfl) (h1 : 1 ≤ ys.length := by decide) (hyz : (y == z) = false := by decide)
    (hst : starEach [.Constant (.str y) j c0, .Constant (.str z) k c1] X.env = [(false, eval (.Constant (.str y) j c0) X.env), (false, eval (.Constant (.str z) k c1) X.env)] := by rfl)
    (hbase : attributeBase o "replace" X.env (eval o X.env) = eval o X.env := by rfl) (hline : (apos.endLine == pos.line) = true := by rfl) :
    DTe K X (.Call (.Attribute o "replace" apos) [.Constant (.str y) j c0, .Constant (.str z) k c1] [] pos) (CwR.tReplC to y z) (f1 (gRepl ys zs) fo) := by
  refine ⟨CwR.pet_replT ho.pe hyz hst hbase hline, rd_repl ys zs hy hz h1 (fun M H0 zz m H σ ρ Q I q => ho.rd M H0 zz m H σ ρ Q I (ho.mo _ _ _ (fun d q v H' s i => q v H' s (.of i)) q)) ho.mo, mo_f1 mo_gRepl ho.mo⟩
end
end Pl

namespace Pl
open PySem PySem.Spec PyProof.Rows L2

/-! ### constants of the module -/
section
variable {K : Fg} {X : Cx} {x : Str} {s : Str} {pos : Pos}
theorem e_gstr (ys : List Nat) (hm : ∃ t, X.mg x = some (.str s t)) (h : s = S ys := by rfl) (z : ys.length ≤ sizeLine := by decide) (hg : Gl X x := by rfl) (hd : (x == ("__debug__" : Str)) = false := by decide) : DE K X (.Name x pos) (tC (.str s)) (fC (.str ys)) := by
  subst h
  obtain ⟨t, hm⟩ := hm
  exact e_glob hg hm ⟨t, rfl⟩ (fun _ _ => .str ys z) hd
theorem e_gint {i : Int} (hm : ∃ t, X.mg x = some (.int i t)) (hg : Gl X x := by rfl) (hd : (x == ("__debug__" : Str)) = false := by decide) : DE K X (.Name x pos) (tC (.int i)) (fC (.int i)) := by
  obtain ⟨t, hm⟩ := hm
  exact e_glob hg hm ⟨t, rfl⟩ (fun _ _ => .int i) hd
end

/-! ### readings: loops -/
theorem for_searchV {α β : Type} {g : FG} {b : FS} {E : DEn} (mk : α → D) (v : β → D) (r : α → Option β) (S : En → Prop) :
    ∀ (l : List α), (∀ a ∈ l, ∀ ρ, S ρ → ∀ (nx : En → Prop), (∀ ρ', S ρ' → r a = none → nx ρ') → (∀ d, r a = some d → E.rt (v d)) → g (mk a) ρ fun ρ' => b { nx := nx, ct := nx, bk := E.nx, rt := E.rt, rm := E.rm } ρ') →
      (∀ ρ, S ρ → l.findSome? r = none → E.nx ρ) → (∀ d, l.findSome? r = some d → E.rt (v d)) → ∀ ρ, S ρ → forGo g b E (l.map mk) ρ
  | [], _, he, _, ρ, hs => he ρ hs rfl
  | a :: l, hstep, he, hr, ρ, hs => by
    show g (mk a) ρ fun ρ' => b { nx := forGo g b E (l.map mk), ct := forGo g b E (l.map mk), bk := E.nx, rt := E.rt, rm := E.rm } ρ'
    refine hstep a List.mem_cons_self ρ hs _ (fun ρ' hs' hn => ?_) fun d hd => hr d (by rw [List.findSome?_cons, hd])
    refine for_searchV mk v r S l (fun x hx => hstep x (List.mem_cons_of_mem _ hx)) (fun ρ h1 h2 => he ρ h1 (by rw [List.findSome?_cons, hn]; exact h2)) (fun d hd => hr d (by rw [List.findSome?_cons, hn]; exact hd)) ρ' hs'
theorem for_search {α : Type} {g : FG} {b : FS} {E : DEn} (mk : α → D) (r : α → Option D) (S : En → Prop) (l : List α) (hstep : ∀ a ∈ l, ∀ ρ, S ρ → ∀ (nx : En → Prop), (∀ ρ', S ρ' → r a = none → nx ρ') → (∀ d, r a = some d → E.rt d) → g (mk a) ρ fun ρ' => b { nx := nx, ct := nx, bk := E.nx, rt := E.rt, rm := E.rm } ρ')
    (he : ∀ ρ, S ρ → l.findSome? r = none → E.nx ρ) (hr : ∀ d, l.findSome? r = some d → E.rt d) : ∀ ρ, S ρ → forGo g b E (l.map mk) ρ := for_searchV mk id r S l hstep he hr
/-- a loop that runs to its end -/
theorem for_all {α : Type} {g : FG} {b : FS} {E : DEn} (mk : α → D) (S : List α → En → Prop) :
    ∀ (l : List α), (∀ a r ρ, (∃ p, l = p ++ a :: r) → S (a :: r) ρ → ∀ (nx : En → Prop), (∀ ρ', S r ρ' → nx ρ') → g (mk a) ρ fun ρ' => b { nx := nx, ct := nx, bk := E.nx, rt := E.rt, rm := E.rm } ρ') →
      (∀ ρ, S [] ρ → E.nx ρ) → ∀ ρ, S l ρ → forGo g b E (l.map mk) ρ := by
  intro l hstep he
  have key : ∀ (r p : List α), l = p ++ r → ∀ ρ, S r ρ → forGo g b E (r.map mk) ρ := by
    intro r
    induction r with
    | nil => intro p e ρ hs; exact he ρ hs
    | cons a r ih =>
      intro p e ρ hs
      show g (mk a) ρ fun ρ' => b { nx := forGo g b E (r.map mk), ct := forGo g b E (r.map mk), bk := E.nx, rt := E.rt, rm := E.rm } ρ'
      exact hstep a r ρ ⟨p, e⟩ hs _ fun ρ' hs' => ih (p ++ [a]) (by rw [e]; simp) ρ' hs'
  exact fun ρ hs => key l [] rfl ρ hs
/-- a cut in a block -/
theorem seq_cut {f g : FS} {E : DEn} {ρ : En} (S : En → Prop) (h2 : ∀ ρ', S ρ' → g E ρ') (h1 : ∀ K : En → Prop, (∀ ρ', S ρ' → K ρ') → f { E with nx := K } ρ) : sSeq f g E ρ := h1 (g E) h2
/-- while: S n holds ahead of a turn, at most n turns are left -/
theorem wh_inv {c : FB} {b : FS} {E : DEn} (S : Nat → En → Prop) (hs : ∀ n ρ, S n ρ → ∀ K : En → Prop, (∀ n', n = n' + 1 → ∀ ρ', S n' ρ' → K ρ') → c ρ fun t => ifB t (b { nx := K, ct := K, bk := E.nx, rt := E.rt, rm := E.rm } ρ) (E.nx ρ)) : ∀ n ρ, S n ρ → whGo c b E (n + 1) ρ
  | 0, ρ, h => hs 0 ρ h (whGo c b E 0) fun n' e => by cases e
  | n + 1, ρ, h => hs (n + 1) ρ h (whGo c b E (n + 1)) fun n' e ρ' h' => by
    cases e
    exact wh_inv S hs n ρ' h'
theorem wh_of {c : FB} {b : FS} {E : DEn} (S : Nat → En → Prop) {n : Nat} {ρ : En} (h : S n ρ) (hs : ∀ n ρ, S n ρ → ∀ K : En → Prop, (∀ n', n = n' + 1 → ∀ ρ', S n' ρ' → K ρ') → c ρ fun t => ifB t (b { nx := K, ct := K, bk := E.nx, rt := E.rt, rm := E.rm } ρ) (E.nx ρ)) : sWh c b E ρ := ⟨n + 1, wh_inv S hs n ρ h⟩
theorem lc_detG {α : Type} {g : FG} {tt : FB} {fe : FE} {ρ : En} {Q : List D → Prop} (mk : α → D) (c : α → Bool) (h : α → D) :
    ∀ (l : List α) (acc : List D), (∀ a ∈ l, ∀ (Qt : D → Prop) (Qf : Prop), (c a = true → Qt (h a)) → (c a = false → Qf) → g (mk a) ρ fun ρ' => tt ρ' fun b => ifB b (fe ρ' Qt) Qf) →
      Q (acc ++ (l.filter c).map h) → lcGo g tt fe ρ Q (l.map mk) acc
  | [], acc, _, q => by simpa [lcGo] using q
  | a :: l, acc, hs, q => by
    show g (mk a) ρ fun ρ' => tt ρ' fun b => if b = true then fe ρ' fun y => lcGo g tt fe ρ Q (l.map mk) (acc ++ [y]) else lcGo g tt fe ρ Q (l.map mk) acc
    refine hs a List.mem_cons_self _ _ (fun e => ?_) fun e => ?_
    · refine lc_detG mk c h l _ (fun x hx => hs x (List.mem_cons_of_mem _ hx)) ?_
      rw [List.filter_cons_of_pos e, List.map_cons] at q
      simpa using q
    · refine lc_detG mk c h l _ (fun x hx => hs x (List.mem_cons_of_mem _ hx)) ?_
      rw [List.filter_cons_of_neg (by rw [e]; exact Bool.false_ne_true)] at q
      exact q
theorem lc_det {α : Type} {g : FG} {tt : FB} {fe : FE} {ρ : En} {Q : List D → Prop} {k : Dep Q} (mk : α → D) (c : α → Bool) (h : α → D) (l : List α) (hs : ∀ a ∈ l, ∀ (Qt : D → Prop) (Qf : Prop), (c a = true → Qt (h a)) → (c a = false → Qf) → g (mk a) ρ fun ρ' => tt ρ' fun b => ifB b (fe ρ' Qt) Qf) (q : Q ((l.filter c).map h)) : Lc g tt fe ρ Q (l.map mk) k :=
  lc_detG mk c h l [] hs (by rw [List.nil_append]; exact q)
/-- with no test -/
theorem lc_map {α : Type} {g : FG} {tt : FB} {fe : FE} {ρ : En} {Q : List D → Prop} {k : Dep Q} (mk : α → D) (h : α → D) (l : List α) (hs : ∀ a ∈ l, ∀ (Qt : D → Prop) (Qf : Prop), Qt (h a) → g (mk a) ρ fun ρ' => tt ρ' fun b => ifB b (fe ρ' Qt) Qf) (q : Q (l.map h)) : Lc g tt fe ρ Q (l.map mk) k :=
  lc_det mk (fun _ => true) h l (fun a ha Qt Qf h1 _ => hs a ha Qt Qf (h1 rfl)) (by rw [List.filter_eq_self.mpr fun _ _ => rfl]; exact q)
inductive Rel2 {α β : Type} (R : α → β → Prop) : List α → List β → Prop
  | nil : Rel2 R [] []
  | cons {a : α} {b : β} {as : List α} {bs : List β} : R a b → Rel2 R as bs → Rel2 R (a :: as) (b :: bs)
theorem Rel2.length {α β : Type} {R : α → β → Prop} : ∀ {as : List α} {bs : List β}, Rel2 R as bs → as.length = bs.length
  | _, _, .nil => rfl
  | _, _, .cons _ t => by rw [List.length_cons, List.length_cons, t.length]
/-- each item is one of some -/
theorem lc_relG {α : Type} {g : FG} {tt : FB} {fe : FE} {ρ : En} {Q : List D → Prop} (mk : α → D) (R : α → D → Prop) :
    ∀ (l : List α) (acc : List D), (∀ a ∈ l, ∀ (Qt : D → Prop) (Qf : Prop), (∀ d, R a d → Qt d) → g (mk a) ρ fun ρ' => tt ρ' fun b => ifB b (fe ρ' Qt) Qf) →
      (∀ ys : List D, Rel2 R l ys → Q (acc ++ ys)) → lcGo g tt fe ρ Q (l.map mk) acc
  | [], acc, _, q => by simpa [lcGo] using q [] .nil
  | a :: l, acc, hs, q => by
    show g (mk a) ρ fun ρ' => tt ρ' fun b => if b = true then fe ρ' fun y => lcGo g tt fe ρ Q (l.map mk) (acc ++ [y]) else lcGo g tt fe ρ Q (l.map mk) acc
    refine hs a List.mem_cons_self _ _ fun d hd => ?_
    refine lc_relG mk R l _ (fun x hx => hs x (List.mem_cons_of_mem _ hx)) fun ys hy => ?_
    have := q (d :: ys) (.cons hd hy)
    simpa using this

theorem lc_rel {α : Type} {g : FG} {tt : FB} {fe : FE} {ρ : En} {Q : List D → Prop} {k : Dep Q} (mk : α → D) (R : α → D → Prop) (l : List α) (hs : ∀ a ∈ l, ∀ (Qt : D → Prop) (Qf : Prop), (∀ d, R a d → Qt d) → g (mk a) ρ fun ρ' => tt ρ' fun b => ifB b (fe ρ' Qt) Qf) (q : ∀ ys : List D, Rel2 R l ys → Q ys) : Lc g tt fe ρ Q (l.map mk) k :=
  lc_relG mk R l [] hs (by simpa using q)

theorem erase_map {α β : Type} (f : α → β) : ∀ (l : List α) (i : Nat), (l.map f).eraseIdx i = (l.eraseIdx i).map f
  | [], _ => rfl
  | _ :: _, 0 => rfl
  | a :: l, i + 1 => by
    show f a :: (l.map f).eraseIdx i = f a :: (l.eraseIdx i).map f
    rw [erase_map f l i]
/-! ### parts -/
theorem cut_nat {α : Type} (xs : List α) (a b : Nat) : cut xs (some (a : Int)) (some (b : Int)) = (xs.drop a).take (b - a) := by
  unfold cut
  rw [HT.sIx_nat, HT.sIx_nat]
  by_cases h : a ≤ xs.length
  · rw [Nat.min_eq_left h]
    by_cases h2 : b ≤ xs.length
    · rw [Nat.min_eq_left h2]
    · rw [Nat.min_eq_right (by omega), List.take_of_length_le (by rw [List.length_drop]; omega), List.take_of_length_le (by rw [List.length_drop]; omega)]
  · rw [List.drop_eq_nil_of_le (by omega), List.drop_eq_nil_of_le (by omega)]; simp
theorem cut_from {α : Type} (xs : List α) (a : Nat) : cut xs (some (a : Int)) none = xs.drop a := by
  unfold cut
  rw [HT.sIx_nat, HT.sIx_none]
  by_cases h : a ≤ xs.length
  · rw [Nat.min_eq_left h, List.take_of_length_le (by rw [List.length_drop]; omega)]
  · rw [List.drop_eq_nil_of_le (by omega), List.drop_eq_nil_of_le (by omega)]; simp
theorem cut_to {α : Type} (xs : List α) (b : Nat) : cut xs none (some (b : Int)) = xs.take b := by
  unfold cut
  rw [HT.sIx_nat, HT.sIx_none, List.drop_zero, Nat.sub_zero]
  by_cases h : b ≤ xs.length
  · rw [Nat.min_eq_left h]
  · rw [Nat.min_eq_right (by omega), List.take_of_length_le (Nat.le_refl _), List.take_of_length_le (by omega)]
theorem cut_all {α : Type} (xs : List α) : cut xs none none = xs := by
  unfold cut
  rw [HT.sIx_none, HT.sIx_none, List.drop_zero, Nat.sub_zero, List.take_length]
theorem atI_nat {α : Type} (xs : List α) (i : Nat) : atI xs (i : Int) = xs[i]? := by
  unfold atI ixN
  rw [if_pos (by omega)]
  by_cases h : i < xs.length
  · rw [if_pos (by omega)]; simp
  · rw [if_neg (by omega), List.getElem?_eq_none (by omega)]; rfl
theorem atI_last {α : Type} (xs : List α) : atI xs (-1) = xs.getLast? := by
  unfold atI ixN
  rw [if_neg (by decide), List.getLast?_eq_getElem?]
  by_cases h : xs = []
  · subst h; rfl
  · have : 0 < xs.length := List.length_pos_iff.mpr h
    rw [if_pos (by omega)]
    show xs[(-1 + (xs.length : Int)).toNat]? = _
    rw [show (-1 + (xs.length : Int)).toNat = xs.length - 1 by omega]

/-! ### ints in tuples and lists -/
theorem okA_ints (x : List Int) : okA (x.map D.int) = true := by
  induction x with
  | nil => rfl
  | cons a x ih => rw [List.map_cons]; unfold okA; rw [ih]; rfl
theorem depA_ints (x : List Int) : depA (x.map D.int) = 0 := by
  induction x with
  | nil => rfl
  | cons a x ih => rw [List.map_cons]; unfold depA; rw [ih]; rfl
theorem sh_tupI (x : List Int) : sh (.tup (x.map D.int)) = true := by
  unfold sh okD dep
  rw [okA_ints, depA_ints]; rfl
theorem sh_lstI (x : List Int) : sh (.lst (x.map D.int)) = true := by
  unfold sh okD dep
  rw [okA_ints, depA_ints]; rfl
theorem toPyA_ints (x : List Int) : toPyA (x.map D.int) = x.map PyData.int := by
  rw [toPyA_map, List.map_map]; rfl
theorem eqvAll_ints : ∀ x y : List Int, PyData.eqvAll (x.map PyData.int) (y.map PyData.int) = decide (x = y)
  | [], [] => by simp [PyData.eqvAll]
  | [], _ :: _ => by simp [PyData.eqvAll]
  | _ :: _, [] => by simp [PyData.eqvAll]
  | a :: x, b :: y => by
    rw [List.map_cons, List.map_cons, PyData.eqvAll, eqvAll_ints x y]
    by_cases h : a = b
    · subst h; simp [PyData.eqv]
    · simp [PyData.eqv, h]
theorem eqv_tupI (x y : List Int) : eqv (.tup (x.map D.int)) (.tup (y.map D.int)) = decide (x = y) := by
  unfold eqv toPy
  rw [toPyA_ints, toPyA_ints, PyData.eqv, eqvAll_ints]
theorem eqv_lstI (x y : List Int) : eqv (.lst (x.map D.int)) (.lst (y.map D.int)) = decide (x = y) := by
  unfold eqv toPy
  rw [toPyA_ints, toPyA_ints, PyData.eqv, eqvAll_ints]
theorem sh_int (i : Int) : sh (.int i) = true := rfl
theorem sh_bl (i : Bool) : sh (.bl i) = true := rfl
theorem sh_non : sh .non = true := rfl
theorem sh_nil : sh (.lst []) = true := rfl
theorem sh_nilT : sh (.tup []) = true := rfl
theorem eqv_int (i j : Int) : eqv (.int i) (.int j) = decide (i = j) := by
  unfold eqv toPy
  rw [PyData.eqv]
  by_cases h : i = j
  · subst h; simp
  · simp [h]
theorem eqv_bl (i j : Bool) : eqv (.bl i) (.bl j) = decide (i = j) := by
  cases i <;> cases j <;> rfl
theorem eqv_nilL (x : List D) : eqv (.lst x) (.lst []) = x.isEmpty := by
  cases x with
  | nil => rfl
  | cons a x => rfl
theorem eqv_nilT (x : List D) : eqv (.tup x) (.tup []) = x.isEmpty := by
  cases x with
  | nil => rfl
  | cons a x => rfl
theorem zipD_ints : ∀ x y : List Int, zipD (x.map D.int) (y.map D.int) = (x.zip y).map fun p => D.tup [.int p.1, .int p.2]
  | [], _ => rfl
  | _ :: _, [] => rfl
  | a :: x, b :: y => by
    rw [List.map_cons, List.map_cons, zipD, zipD_ints x y]; rfl
theorem rng_nat (lo n : Nat) : rng (lo : Int) n = (List.range n).map fun i : Nat => D.int ((lo + i : Nat) : Int) := by
  unfold rng
  exact List.map_congr_left fun i _ => by congr 1

theorem rng_0 (n : Nat) : rng 0 n = (List.range n).map fun i : Nat => D.int (i : Int) := by
  have := rng_nat 0 n
  simp only [Nat.zero_add] at this
  exact this
theorem rng_1 (n : Nat) : rng 1 n = (List.range n).map fun i : Nat => D.int ((1 + i : Nat) : Int) := rng_nat 1 n
theorem b62 {i : Int} (h1 : -16777216 ≤ i := by omega) (h2 : i ≤ 16777216 := by omega) : B62 i := ⟨h1, h2⟩
theorem p64 : (2 : Int) ^ 64 = 18446744073709551616 := by decide
theorem cmulL {i j : Int} (h1 : -18446744073709551616 < i := by omega) (h2 : i < 18446744073709551616 := by omega) : CMul i j ∨ CMulW i j := .inl (.inl (by rw [p64]; exact ⟨h1, h2⟩))
theorem cmulR {i j : Int} (h1 : -18446744073709551616 < j := by omega) (h2 : j < 18446744073709551616 := by omega) : CMul i j ∨ CMulW i j := .inl (.inr (by rw [p64]; exact ⟨h1, h2⟩))
theorem cdiv {i j : Int} (h1 : 0 < j := by omega) (h2 : j < 1073741824 := by omega) : CDivN i j ∨ CDivW i j := .inl ⟨by omega, by omega⟩
theorem fdiv_nat (a b : Nat) : (a : Int).fdiv (b : Int) = ((a / b : Nat) : Int) := by
  rw [Int.fdiv_eq_ediv_of_nonneg _ (by omega)]; exact (Int.natCast_ediv a b).symm
theorem fmod_nat (a b : Nat) : (a : Int).fmod (b : Int) = ((a % b : Nat) : Int) := by
  rw [Int.fmod_eq_emod_of_nonneg _ (by omega)]; exact (Int.natCast_emod a b).symm
theorem nat1 (n : Nat) : (n : Int) + 1 = ((n + 1 : Nat) : Int) := rfl
theorem nat1' (n : Nat) : (1 : Int) + (n : Int) = ((1 + n : Nat) : Int) := by omega
theorem nats1 (n : Nat) : ((n + 1 : Nat) : Int) - 1 = (n : Int) := by omega

/-! ### lists of texts -/
/-- signs that a text may hold -/
def okS (x : List Nat) : Bool := x.all (· < 1114112)
theorem okA_strs {x : List (List Nat)} (h : ∀ y ∈ x, okS y = true) : okA (x.map D.str) = true := by
  induction x with
  | nil => rfl
  | cons a x ih =>
    rw [List.map_cons]
    unfold okA okD
    rw [ih fun y hy => h y (List.mem_cons_of_mem _ hy)]
    have := h a List.mem_cons_self
    unfold okS at this
    rw [this]; rfl
theorem depA_strs (x : List (List Nat)) : depA (x.map D.str) = 0 := by
  induction x with
  | nil => rfl
  | cons a x ih => rw [List.map_cons]; unfold depA; rw [ih]; rfl
theorem sh_lstS {x : List (List Nat)} (h : ∀ y ∈ x, okS y = true) : sh (.lst (x.map D.str)) = true := by
  unfold sh okD dep
  rw [okA_strs h, depA_strs]; rfl
theorem sh_tupS {x : List (List Nat)} (h : ∀ y ∈ x, okS y = true) : sh (.tup (x.map D.str)) = true := by
  unfold sh okD dep
  rw [okA_strs h, depA_strs]; rfl
theorem sh_str {x : List Nat} (h : okS x = true) : sh (.str x) = true := by
  unfold sh okD dep
  unfold okS at h
  rw [h]; rfl

/-- a draw below n (of 0 and 1: 0) -/
theorem gTake_nat {k n : Nat} {Q : D → Prop} (hn : n ≤ 1000000) (h : ∀ i : Nat, i < max 1 n → Q (.int (i : Int))) : gTake k [.ml k, .int (n : Int)] Q := by
  refine ⟨n, rfl, by omega, fun z => h 0 (by omega), fun z i h0 h1 => ?_⟩
  have e : i = ((i.toNat : Nat) : Int) := by omega
  rw [e]
  exact h _ (by omega)
theorem gTake_int {k : Nat} {n : Int} {Q : D → Prop} (h0 : 0 ≤ n) (hn : n ≤ 1000000) (h : ∀ i : Nat, i < max 1 n.toNat → Q (.int (i : Int))) : gTake k [.ml k, .int n] Q := by
  have e : n = ((n.toNat : Nat) : Int) := by omega
  rw [e]
  exact gTake_nat (by omega) h

theorem isTy_str {x : List Nat} : isTy "str" (.str x) = True := eq_true trivial
theorem isTy_lst {x : List D} : isTy "list" (.lst x) = True := eq_true trivial
theorem isTy_dk {x : List (Key × D)} : isTy "dict" (.dk x) = True := eq_true trivial

/-! ### the frame, spelt out -/
end Pl

namespace Pl
open PySem PySem.Spec PyProof.Rows L2

/-! ### what may be shown -/
mutual
def rpOk : D → Bool
  | .non => true
  | .bl _ => true
  | .int i => decide (i.natAbs < 1000000000000)
  | .str x => okS x
  | .tup xs => rpA xs
  | .lst xs => rpA xs
  | .dk _ => false
  | .ml _ => false
  | .scr _ => false
def rpA : List D → Bool
  | [] => true
  | x :: xs => rpOk x && rpA xs
end
mutual
def wgt : D → Nat
  | .str x => x.length
  | .tup xs => wgtA xs
  | .lst xs => wgtA xs
  | .non => 0
  | .bl _ => 0
  | .int _ => 40
  | .dk _ => 0
  | .ml _ => 0
  | .scr _ => 0
def wgtA : List D → Nat
  | [] => 0
  | x :: xs => wgt x + 1 + wgtA xs
end
mutual
theorem ok_rp : ∀ d : D, rpOk d = true → okD d = true
  | .non, _ => rfl
  | .bl _, _ => rfl
  | .int _, _ => rfl
  | .str x, h => by unfold rpOk okS at h; unfold okD; exact h
  | .tup xs, h => by unfold okD; exact okA_rp xs (by unfold rpOk at h; exact h)
  | .lst xs, h => by unfold okD; exact okA_rp xs (by unfold rpOk at h; exact h)
  | .dk _, h => by unfold rpOk at h; cases h
  | .ml _, h => by unfold rpOk at h; cases h
  | .scr _, h => by unfold rpOk at h; cases h
theorem okA_rp : ∀ d : List D, rpA d = true → okA d = true
  | [], _ => rfl
  | x :: xs, h => by
    unfold rpA at h
    rw [Bool.and_eq_true] at h
    unfold okA
    rw [ok_rp x h.1, okA_rp xs h.2]; rfl
end
theorem log_40 {n : Nat} (h : n < 1000000000000) : (if n = 0 then 0 else n.log2 + 1) ≤ 40 := by
  by_cases z : n = 0
  · rw [if_pos z]; exact Nat.zero_le _
  · rw [if_neg z]
    exact (Nat.log2_lt (n := n) (k := 40) z).mpr (Nat.lt_of_lt_of_le h (by decide))
theorem log_small {n : Nat} (h : n < 1000000000000) : n.log2 < 1920 := by
  have := log_40 h
  by_cases z : n = 0
  · subst z; decide
  · rw [if_neg z] at this; omega
mutual
theorem weight_py : ∀ d : D, rpOk d = true → (toPy d).weight ≤ wgt d
  | .non, _ => Nat.le_refl _
  | .bl _, _ => Nat.le_refl _
  | .int i, h => by
    unfold rpOk at h
    have h := log_40 (of_decide_eq_true h)
    unfold toPy PyData.weight wgt
    by_cases z : i = 0
    · subst z; decide
    · rw [if_neg (by simpa using z)]
      rw [if_neg (by omega)] at h
      exact h
  | .str x, _ => by unfold toPy PyData.weight wgt S; simp
  | .tup xs, h => by unfold toPy PyData.weight wgt; exact weight_pyA xs (by unfold rpOk at h; exact h)
  | .lst xs, h => by unfold toPy PyData.weight wgt; exact weight_pyA xs (by unfold rpOk at h; exact h)
  | .dk _, h => by unfold rpOk at h; cases h
  | .ml _, h => by unfold rpOk at h; cases h
  | .scr _, h => by unfold rpOk at h; cases h
theorem weight_pyA : ∀ d : List D, rpA d = true → PyData.weightAll (toPyA d) ≤ wgtA d
  | [], _ => Nat.le_refl _
  | x :: xs, h => by
    unfold rpA at h
    rw [Bool.and_eq_true] at h
    have a := weight_py x h.1
    have b := weight_pyA xs h.2
    unfold toPyA PyData.weightAll wgtA
    omega
end
mutual
theorem show_py : ∀ d : D, rpOk d = true → (toPy d).showable = true ∧ (toPy d).leavesShort 13 = true
  | .non, _ => ⟨rfl, rfl⟩
  | .bl _, _ => ⟨rfl, rfl⟩
  | .int i, h => by
    unfold rpOk at h
    have h := of_decide_eq_true h
    unfold toPy PyData.showable PyData.leavesShort
    refine ⟨decide_eq_true (log_small h), decide_eq_true ?_⟩
    unfold PyData.shown
    rw [PySem.ofString_length]
    exact PySem.int_text_length_le10 (k := 12) (by decide) (by rw [show (10 : Nat) ^ 12 = 1000000000000 by decide]; exact h)
  | .str x, h => by
    unfold rpOk okS at h
    unfold toPy PyData.showable PyData.leavesShort
    refine ⟨rfl, ?_⟩
    rw [S_list, List.all_eq_true]
    intro c hc
    have := of_decide_eq_true (List.all_eq_true.mp h c hc)
    exact decide_eq_true (by rw [show (16 : Nat) ^ 8 = 4294967296 by decide]; omega)
  | .tup xs, h => by
    unfold toPy PyData.showable PyData.leavesShort
    exact show_pyA xs (by unfold rpOk at h; exact h)
  | .lst xs, h => by
    unfold toPy PyData.showable PyData.leavesShort
    exact show_pyA xs (by unfold rpOk at h; exact h)
  | .dk _, h => by unfold rpOk at h; cases h
  | .ml _, h => by unfold rpOk at h; cases h
  | .scr _, h => by unfold rpOk at h; cases h
theorem show_pyA : ∀ d : List D, rpA d = true → PyData.showableAll (toPyA d) = true ∧ PyData.leavesShortAll 13 (toPyA d) = true
  | [], _ => ⟨rfl, rfl⟩
  | x :: xs, h => by
    unfold rpA at h
    rw [Bool.and_eq_true] at h
    obtain ⟨a, b⟩ := show_py x h.1
    obtain ⟨c, d⟩ := show_pyA xs h.2
    unfold toPyA PyData.showableAll PyData.leavesShortAll
    rw [a, b, c, d]
    exact ⟨rfl, rfl⟩
end
theorem rp_of {d : D} (h1 : rpOk d = true) (h2 : dep d ≤ 40) (h3 : wgt d ≤ 1000000) : rp d = true := by
  obtain ⟨a, b⟩ := show_py d h1
  have z := PyData.shown_fits (B := 13) (by decide) (by decide) b (Nat.le_trans (weight_py d h1) (Nat.le_trans h3 (by decide)))
  unfold rp sh
  rw [ok_rp d h1, a, decide_eq_true h2]
  have : (shown d).length = (toPy d).shown.length := by
    unfold shown
    simp [Str.length]
  rw [this, decide_eq_true z]
  rfl
end Pl

namespace Pl
open PySem PySem.Spec PyProof.Rows L2
open PySem.W (EachIs AllAlike Sortable dataLe)

/-! ### sorted(list), any length -/
/-- may be sorted -/
structure SrtOk (ds : List D) : Prop where
  ok : ∀ d ∈ ds, okD d = true ∧ dep d ≤ 40
  al : AllAlike (ds.map toPy)
  so : Sortable (ds.map toPy)
/-- the order of sorted -/
def leD : D → D → Bool := dataLe false toPy
def rSortedD (K : Fg0) : List V → Hp → VK → Prop := fun vs H Q => ∃ (a : Addr) (xs : List V) (ds : List D) (B : V → D → Prop), vs = [.ref a] ∧ SqL K H a xs ∧ EachIs B xs ds ∧ EachIs (fun v d => Dp K H v (toPy d)) xs ds ∧ SrtOk ds ∧ ds.length ≤ sizeLine ∧
  ∀ p ws, H p = none → EachIs B ws (ds.mergeSort leD) → Q (.ref p) (upd H p (.lst ws))
theorem each_val {B : V → D → Prop} : ∀ {xs : List V} {ds : List D} {us : List Value}, EachIs B xs ds → Vals xs us → EachIs (fun u d => ∃ v, RelV v u ∧ B v d) us ds
  | _, _, _, .nil, .nil => .nil
  | _, _, _, .cons h t, .cons r rs => .cons ⟨_, r, h⟩ (each_val t rs)
theorem val_each {B : V → D → Prop} : ∀ {us : List Value} {ds : List D}, EachIs (fun u d => ∃ v, RelV v u ∧ B v d) us ds → ∃ ws, Vals ws us ∧ EachIs B ws ds
  | _, _, .nil => ⟨[], .nil, .nil⟩
  | _, _, .cons ⟨v, r, h⟩ t => by
    obtain ⟨ws, a, b⟩ := val_each t
    exact ⟨v :: ws, .cons r a, .cons h b⟩
theorem each_len {α β : Type} {R : α → β → Prop} : ∀ {as : List α} {bs : List β}, EachIs R as bs → as.length = bs.length
  | _, _, .nil => rfl
  | _, _, .cons _ t => by rw [List.length_cons, List.length_cons, each_len t]
theorem each_mono {α β : Type} {R S : α → β → Prop} (h : ∀ a b, R a b → S a b) : ∀ {as : List α} {bs : List β}, EachIs R as bs → EachIs S as bs
  | _, _, .nil => .nil
  | _, _, .cons k t => .cons (h _ _ k) (each_mono h t)
theorem each_memR {α β : Type} {R : α → β → Prop} : ∀ {as : List α} {bs : List β}, EachIs R as bs → EachIs (fun a b => R a b ∧ b ∈ bs) as bs
  | _, _, .nil => .nil
  | _, _, .cons k t => .cons ⟨k, List.mem_cons_self⟩ (each_mono (fun _ _ h => ⟨h.1, List.mem_cons_of_mem _ h.2⟩) (each_memR t))
theorem IsA.each {K : Fg0} {M : Ml} {H : Hp} : ∀ {vs : List V} {ds : List D}, IsA K M H vs ds → EachIs (Is K M H) vs ds
  | _, _, .nil => .nil
  | _, _, .cons h t => .cons h (IsA.each t)
theorem each_isA {K : Fg0} {M : Ml} {H : Hp} : ∀ {vs : List V} {ds : List D}, EachIs (Is K M H) vs ds → IsA K M H vs ds
  | _, _, .nil => .nil
  | _, _, .cons h t => .cons h (each_isA t)
theorem cr_sortedD {X : Cx} (hu : X.A.units + 64 < cLine) : CallR X (.builtin "sorted") (rSortedD X.K) := by
  intro pins s σ H xs us Q I r h
  obtain ⟨a, xs, ds, B, rfl, hs, hB, hD, ok, hL, q⟩ := h
  obtain ⟨its, rv, hl, zl⟩ := I.list hs
  rw [Vals.ref1 r]
  have er : EachIs (fun u d => ∃ as, Reads s.heap u (toPy d) as) its ds := each_mono (fun u d ⟨v, hr, hd⟩ => Dp.reads I _ _ _ hd hr) (each_val hD rv)
  refine PySem.W.sorted_data (R := fun u d => ∃ v, RelV v u ∧ B v d) hl.isList (each_val hB rv) er ok.al ok.so hL (fun d hd => ?_) fun out ho eo => ?_
  · have := (ok.ok d hd).2
    rw [depth_py]
    omega
  · obtain ⟨ws, h1, h2⟩ := val_each eo
    obtain ⟨ep, he'⟩ := PyProof.Rows.sortedAll_at s.heap its out.toArray
    have hlen : ws.length ≤ sizeLine := by rw [each_len h2, List.length_mergeSort]; exact hL
    exact ⟨.ref _, upd H (s.heap.objs.size + 1) (.lst ws), I.laid (t' := s.toks) (fun _ _ => PyProof.Rows.sortedAll_old) (Nat.le_succ _) ⟨hlen, out.toArray.toList, ep, h1, he'⟩, rfl, q _ ws (I.hok.fresh (Nat.le_succ _)) h2⟩
def gSorted : List D → (List D → Prop) → Prop := fun ds Q => match ds with
  | [.lst xs] => SrtOk xs ∧ Q (xs.mergeSort leD)
  | _ => False
theorem lr_sorted {K : Fg0} {X : Cx} (hu : X.A.units + 64 < cLine) (hK : X.K = K := by rfl) : LR K X (.builtin "sorted") (rSortedD K) gSorted := by
  subst hK
  refine ⟨cr_sortedD hu, fun M m H vs ds Q h ii q => ?_, fun a Q Q' h q => ?_⟩
  · unfold gSorted at q
    split at q
    · rename_i xs
      obtain ⟨ok, q⟩ := q
      obtain ⟨v, rfl, i⟩ := ii.one
      obtain ⟨p, ws, rfl, r, k, zl⟩ := i.lst
      refine ⟨p, ws, xs, Is X.K M (hid m H), rfl, .of r, k.each, ?_, ok, zl, fun l us n e => q l us n (each_isA e) (by rw [List.length_mergeSort]; exact zl)⟩
      exact each_mono (fun v d h => (h.1.mono hid_all).dp (ok.ok d h.2).1) (each_memR k.each)
    · exact q.elim
  · unfold gSorted at q ⊢
    split at q <;> first | exact ⟨q.1, h _ q.2⟩ | exact q

/-! what may be sorted, and the order in plain words -/
theorem srt_str {xs : List (List Nat)} (h : ∀ x ∈ xs, okS x = true) : SrtOk (xs.map D.str) := by
  refine ⟨fun d hd => ?_, ?_, ?_⟩
  · obtain ⟨x, hx, rfl⟩ := List.mem_map.mp hd
    exact ⟨by unfold okD; exact h x hx, by show (0 : Nat) ≤ 40; decide⟩
  · rw [List.map_map]
    exact AllAlike.of fun b b' => by simp [toPy, PySem.W.alike]
  · rw [List.map_map]
    exact Sortable.others fun b => ⟨(fun z => nomatch z), (fun xs z => nomatch z)⟩
theorem srt_int {xs : List Int} : SrtOk (xs.map D.int) := by
  refine ⟨fun d hd => ?_, ?_, ?_⟩
  · obtain ⟨x, hx, rfl⟩ := List.mem_map.mp hd
    exact ⟨rfl, by show (0 : Nat) ≤ 40; decide⟩
  · rw [List.map_map]
    exact AllAlike.of fun b b' => by simp [toPy, PySem.W.alike]
  · rw [List.map_map]
    exact Sortable.others fun b => ⟨(fun z => nomatch z), (fun xs z => nomatch z)⟩
theorem le_str (x y : List Nat) : leD (.str x) (.str y) = decide (x ≤ y) := by
  have := congrFun (congrFun (PySem.W.dataLe_str (fun x : List Nat => S x)) x) y
  rw [S_list, S_list] at this
  exact this
theorem le_int (x y : Int) : leD (.int x) (.int y) = decide (x ≤ y) := congrFun (congrFun (PySem.W.dataLe_int (fun x : Int => x)) x) y
/-- the list, sorted -/
def srS (xs : List (List Nat)) : List (List Nat) := xs.mergeSort fun x y => decide (x ≤ y)
def srI (xs : List Int) : List Int := xs.mergeSort fun x y => decide (x ≤ y)
theorem sorted_str (xs : List (List Nat)) : (xs.map D.str).mergeSort leD = (srS xs).map D.str :=
  (List.map_mergeSort (f := D.str) (fun x _ y _ => (le_str x y).symm)).symm
theorem sorted_int (xs : List Int) : (xs.map D.int).mergeSort leD = (srI xs).map D.int :=
  (List.map_mergeSort (f := D.int) (fun x _ y _ => (le_int x y).symm)).symm
theorem srS_perm (xs : List (List Nat)) : (srS xs).Perm xs := List.mergeSort_perm _ _
theorem srI_perm (xs : List Int) : (srI xs).Perm xs := List.mergeSort_perm _ _
theorem srS_sorted (xs : List (List Nat)) : (srS xs).Pairwise (· ≤ ·) := by
  have := List.pairwise_mergeSort (le := fun x y : List Nat => decide (x ≤ y)) (fun a b c h1 h2 => decide_eq_true (List.le_trans (of_decide_eq_true h1) (of_decide_eq_true h2))) (fun a b => by
    rcases List.le_total a b with h | h
    · rw [decide_eq_true h]; rfl
    · rw [decide_eq_true h, Bool.or_true]) xs
  exact this.imp fun h => of_decide_eq_true h
theorem srI_sorted (xs : List Int) : (srI xs).Pairwise (· ≤ ·) := by
  have := List.pairwise_mergeSort (le := fun x y : Int => decide (x ≤ y)) (fun a b c h1 h2 => decide_eq_true (Int.le_trans (of_decide_eq_true h1) (of_decide_eq_true h2))) (fun a b => by
    rcases Int.le_total a b with h | h
    · rw [decide_eq_true h]; rfl
    · rw [decide_eq_true h, Bool.or_true]) xs
  exact this.imp fun h => of_decide_eq_true h
end Pl

namespace Pl
open PySem PySem.Spec PyProof.Rows L2

/-! ### the frame's own objects, any kind -/
theorem own_at {K : Fg0} {M : Ml} {H0 H : Hp} {m : Addr → Prop} {p : Addr} {s : Sl} (h : SlOk K M H0 m H (some (some (.ref p))) s) (o : Own s) : m p ∧ ¬ M.w p ∧ H0 p = none ∧ H p ≠ none := by
  cases s with
  | un => exact o.elim
  | ex _ _ _ => exact o.elim
  | d x => exact o.elim
  | ol xs => obtain ⟨q, vs, e, h, _, a, b, c, _⟩ := h; cases e; exact ⟨a, b, c, by rw [h]; exact fun z => nomatch z⟩
  | od xs => obtain ⟨q, vs, e, h, _, a, b, c⟩ := h; cases e; exact ⟨a, b, c, by rw [h]; exact fun z => nomatch z⟩
  | ot xs => obtain ⟨q, vs, e, h, _, a, b, c, _⟩ := h; cases e; exact ⟨a, b, c, by rw [h]; exact fun z => nomatch z⟩
theorem own_ref {K : Fg0} {M : Ml} {H0 H : Hp} {m : Addr → Prop} {v : Option (Option V)} {s : Sl} (h : SlOk K M H0 m H v s) (o : Own s) : ∃ p, v = some (some (.ref p)) := by
  cases s with
  | un => exact o.elim
  | ex _ _ _ => exact o.elim
  | d x => exact o.elim
  | ol xs => obtain ⟨q, vs, e, _⟩ := h; exact ⟨q, e⟩
  | od xs => obtain ⟨q, vs, e, _⟩ := h; exact ⟨q, e⟩
  | ot xs => obtain ⟨q, vs, e, _⟩ := h; exact ⟨q, e⟩
theorem own_nc {K : Fg0} {M : Ml} {H0 H : Hp} {m : Addr → Prop} {p : Addr} {s : Sl} (h : SlOk K M H0 m H (some (some (.ref p))) s) (o : Own s) : ∀ q, H p ≠ some (LamX.CodeO p q) := by
  cases s with
  | un => exact o.elim
  | ex _ _ _ => exact o.elim
  | d x => exact o.elim
  | ol xs => obtain ⟨q, vs, e, h, _⟩ := h; cases e; exact nc_of h fun _ z => nomatch z
  | od xs => obtain ⟨q, vs, e, h, _⟩ := h; cases e; exact nc_of h fun _ z => nomatch z
  | ot xs => obtain ⟨q, vs, e, h, _⟩ := h; cases e; exact nc_of h fun _ z => nomatch z
/-- an object of a slot is written -/
theorem EnOk.wrO {K : Fg} {M : Ml} {H0 H : Hp} {z m : Addr → Prop} {σ : L2.St} {ρ : En} {i : Nat} {p : Addr} {s0 s1 : Sl} {o : HO} (I : EnOk K M H0 z m H σ ρ) (e : ρ[i]? = some s0) (w0 : Own s0) (w1 : Own s1) (es : σ[i]? = some (some (.ref p)))
    (hn : SlOk K M H0 m (upd H p o) (some (some (.ref p))) s1) : EnOk K M H0 z m (upd H p o) σ (ρ.set i s1) ∧ Fw m H m (upd H p o) := by
  have sl0 := I.slot i _ e
  rw [es] at sl0
  obtain ⟨mp, nw, n0, _⟩ := own_at sl0 w0
  have hi : i < ρ.length := (List.getElem?_eq_some_iff.mp e).1
  refine ⟨⟨I.st, stp_wr I.stp n0 nw (own_nc sl0 w0), I.zw, I.zm, I.zt, fun b h => ?_, by rw [List.length_set]; exact I.len, fun j s e3 => ?_, fun j k q s t e3 e4 o1 o2 e5 e6 => ?_⟩, ⟨fun b o n e => ⟨by rw [upd_ne fun q => n (by rw [q]; exact mp)]; exact e, n⟩, fun b h => ?_⟩⟩
  · by_cases zz : b = p
    · rw [zz, upd_same]; exact fun q => nomatch q
    · rw [upd_ne zz]; exact I.tr b h
  · by_cases hj : i = j
    · subst hj
      rw [List.getElem?_set_self hi] at e3
      cases e3
      rw [es]
      exact hn
    · rw [List.getElem?_set_ne hj] at e3
      have sl := I.slot j s e3
      have np : Own s → σ[j]? ≠ some (some (.ref p)) := fun o c => hj (I.apart i j p _ _ e e3 w0 o es c)
      cases s with
      | un => trivial
      | ex _ _ _ => obtain ⟨e1, k⟩ := sl; exact ⟨e1, k.mono (same_wr mp)⟩
      | d x => obtain ⟨v, e1, k⟩ := sl; exact ⟨v, e1, k.mono (same_wr mp)⟩
      | ol xs' =>
        obtain ⟨q, vs', e4, e5, k, r⟩ := sl
        refine ⟨q, vs', e4, ?_, k.mono (same_wr mp), r⟩
        rw [upd_ne fun zz => by subst zz; exact np trivial e4]
        exact e5
      | od xs' =>
        obtain ⟨q, vs', e4, e5, k, r⟩ := sl
        refine ⟨q, vs', e4, ?_, k.mono (same_wr mp), r⟩
        rw [upd_ne fun zz => by subst zz; exact np trivial e4]
        exact e5
      | ot xs' =>
        obtain ⟨q, vs', e4, e5, k, r⟩ := sl
        refine ⟨q, vs', e4, ?_, k.mono (same_wr mp), r⟩
        rw [upd_ne fun zz => by subst zz; exact np trivial e4]
        exact e5
  · have f : ∀ (j : Nat) s, (ρ.set i s1)[j]? = some s → Own s → ∃ s', ρ[j]? = some s' ∧ Own s' := fun j s e' o => by
      by_cases hj : i = j
      · subst hj; exact ⟨s0, e, w0⟩
      · rw [List.getElem?_set_ne hj] at e'; exact ⟨s, e', o⟩
    obtain ⟨s', e3', o1'⟩ := f j s e3 o1
    obtain ⟨t', e4', o2'⟩ := f k t e4 o2
    exact I.apart j k q s' t' e3' e4' o1' o2' e5 e6
  · by_cases zz : b = p
    · rw [zz, upd_same]; exact fun q => nomatch q
    · rw [upd_ne zz]; exact h
/-- a new object is put into a slot -/
theorem EnOk.putO {K : Fg} {M : Ml} {H0 H : Hp} {z m : Addr → Prop} {σ : L2.St} {ρ : En} {i : Nat} {p : Addr} {s1 : Sl} (I : EnOk K M H0 z m H σ ρ) (hi : i < ρ.length) (n : ¬ m p) (e : H p ≠ none) (w1 : Own s1)
    (hn : SlOk K M H0 (fun b => m b ∨ b = p) H (some (some (.ref p))) s1)
    (old : ∀ (j : Nat) s, ρ[j]? = some s → SlOk K M H0 (fun b => m b ∨ b = p) H σ[j]? s) : EnOk K M H0 z (fun b => m b ∨ b = p) H (σ.set i (some (.ref p))) (ρ.set i s1) := by
  have np : ∀ (j : Nat) s, ρ[j]? = some s → Own s → σ[j]? ≠ some (some (.ref p)) := fun j s e1 o c => by
    have sl := I.slot j s e1
    rw [c] at sl
    exact n (own_at sl o).1
  refine ⟨I.st, I.stp, I.zw, fun b h => .inl (I.zm b h), I.zt, fun b h => ?_, by rw [List.length_set, List.length_set, I.len], fun j s e1 => ?_, fun j k q s t e1 e2 o1 o2 e3 e4 => ?_⟩
  · rcases h with h | h
    · exact I.tr b h
    · rw [h]; exact e
  · by_cases hj : i = j
    · subst hj
      rw [List.getElem?_set_self hi] at e1
      cases e1
      rw [List.getElem?_set_self (by rw [I.len]; exact hi)]
      exact hn
    · rw [List.getElem?_set_ne hj] at e1 ⊢
      exact old j s e1
  · by_cases hj : i = j
    · by_cases hk : i = k
      · exact hj.symm.trans hk
      · subst hj
        rw [List.getElem?_set_self (by rw [I.len]; exact hi)] at e3
        cases e3
        rw [List.getElem?_set_ne hk] at e2 e4
        exact absurd e4 (np k t e2 o2)
    · by_cases hk : i = k
      · subst hk
        rw [List.getElem?_set_self (by rw [I.len]; exact hi)] at e4
        cases e4
        rw [List.getElem?_set_ne hj] at e1 e3
        exact absurd e3 (np j s e1 o1)
      · rw [List.getElem?_set_ne hj] at e1 e3
        rw [List.getElem?_set_ne hk] at e2 e4
        exact I.apart j k q s t e1 e2 o1 o2 e3 e4

/-! ### x = {} (a dict of the frame's own) -/
def sNewT (i : Nat) : FS := fun E ρ => i < ρ.length ∧ E.nx (ρ.set i (.ot []))
def sNewK (i : Nat) : FS := fun E ρ => i < ρ.length ∧ E.nx (ρ.set i (.od []))
theorem rd_newO {K : Fg} {i : Nat} {o : HO} {s1 : Sl} {te : TE} (ht : ∀ σ H Q, (∀ p, H p = none → Q (.ref p) (upd H p o)) → te σ H Q) (w1 : Own s1)
    (hs : ∀ (M : Ml) (H0 H : Hp) (m : Addr → Prop) (p : Addr), m p → ¬ M.w p → H0 p = none → H p = some o → SlOk K M H0 m H (some (some (.ref p))) s1) :
    RdS K (tAsg te (gName i)) fun E ρ => i < ρ.length ∧ E.nx (ρ.set i s1) := fun M H0 z m H σ ρ W E I c q => by
  refine ht _ _ _ fun p np => ?_
  have n0 : H0 p = none := by
    cases e0 : H0 p with
    | none => rfl
    | some o => exact absurd np (I.stp.there p (by rw [e0]; exact fun q => nomatch q))
  have nm : ¬ m p := I.hx.fresh np
  have s : Stp M H (upd H p o) := .new I.ok np
  have I' := I.step s
  have sm : Same (hid m H) (hid (fun b => m b ∨ b = p) (upd H p o)) := (hid_more np).trans (hid_same fun b u k e => s.keep b u (fun w => k (.inl (I.mw b w))) e)
  refine c.nx (fun b => m b ∨ b = p) _ _ _ (I'.putO q.1 nm (by rw [upd_same]; exact fun z => nomatch z) w1 (hs M H0 _ _ p (.inr rfl) (fun w => nm (I.mw p w)) n0 upd_same) fun j sl e1 => (I.slot j sl e1).step sm (fun b u h _ e => s.keep b u h e) (fun _ _ h => .inl h)) ?_ q.2
  exact ⟨fun b o k e1 => ⟨s.keep b o (fun w => k (I.mw b w)) e1, fun w => w.elim k fun w => by subst w; rw [np] at e1; cases e1⟩, s.there⟩
section
variable {K : Fg} {X : Cx} {pos pos' dpos : Pos} {x : Str}
theorem d_newT (i : Nat) (hN : X.N.Nodup) (hi : X.N[i]? = some x := by rfl) (hx : Loc X.env.scope x := by first | exact Or.inl rfl | exact Or.inr rfl) (hs : swapsWith (.Dict [] [] dpos) (some (.Name x pos')) pos.line X.env = pure false := by rfl) (hf : X.fn x = true ∨ X.env.scope.names.lookup x = some .local := by first | exact .inl rfl | exact .inr rfl) :
    DS K X (.Assign [.Name x pos'] (.Dict [] [] dpos) pos) (tAsg tDNewT (gName i)) (sNewT i) :=
  ⟨ps_set hN hi hx pe_dnewT hs hf, rd_newO (o := .dT []) (fun _ _ _ h => h) trivial fun M H0 H m p a b c e => ⟨p, [], rfl, e, .nil, a, b, c, rfl⟩⟩
theorem d_newK (i : Nat) (hN : X.N.Nodup) (hi : X.N[i]? = some x := by rfl) (hx : Loc X.env.scope x := by first | exact Or.inl rfl | exact Or.inr rfl) (hs : swapsWith (.Dict [] [] dpos) (some (.Name x pos')) pos.line X.env = pure false := by rfl) (hf : X.fn x = true ∨ X.env.scope.names.lookup x = some .local := by first | exact .inl rfl | exact .inr rfl) :
    DS K X (.Assign [.Name x pos'] (.Dict [] [] dpos) pos) (tAsg tDNewK (gName i)) (sNewK i) :=
  ⟨ps_set hN hi hx pe_dnewK hs hf, rd_newO (o := .dK []) (fun _ _ _ h => h) trivial fun M H0 H m p a b c e => ⟨p, [], rfl, e, .nil, a, b, c⟩⟩
end

/-! ### x[e] = v of the frame's own list -/
theorem ixN_nat {n a : Nat} (h : a < n) : ixN n (a : Int) = some a := by
  unfold ixN
  rw [if_pos (by omega), if_pos (by omega)]; rfl
def sPutL (i : Nat) (fi f : FE) : FS := fun E ρ => exS (slL ρ i) fun xs => f ρ fun d => fi ρ fun k => ∃ (n : Int) (j : Nat), k = .int n ∧ ixN xs.length n = some j ∧ E.nx (ρ.set i (.ol (xs.set j d)))
section
variable {K : Fg} {X : Cx} {pos pos' npos : Pos} {x : Str} {e ie : Expr} {te ti : TE} {f fi : FE}
theorem d_lput (i : Nat) (h : DE K X e te f) (hi' : DE K X ie ti fi) (hN : X.N[i]? = some x := by rfl) (hv : Vis X.env.scope x := by first | exact Or.inl rfl | exact Or.inr (Or.inl rfl) | exact Or.inr (Or.inr rfl)) (hd : (x == ("__debug__" : Str)) = false := by decide)
    (hcd : (x == ("__classdict__" : Str)) = false := by decide)
    (hs : swapsWithSole [.Subscript (.Name x npos) ie pos'] e pos.line X.env = pure false := by rfl) (hw : swappedStores [.Subscript (.Name x npos) ie pos'] e X.env = pure none := by rfl)
    (h1 : (assignEach [.Subscript (.Name x npos) ie pos'] X.env).map (·.2) = [assign (.Subscript (.Name x npos) ie pos') X.env] := by rfl)
    (ha : ∀ v, assign (.Subscript (.Name x npos) ie pos') X.env v = (do
      let ov ← holding [v] (eval (.Name x npos) X.env)
      let iv ← holding [v, ov] (eval ie X.env)
      standAt pos'
      holding [v, ov, iv] (setItem ov iv v)
      release [v, ov, iv] []) := by intro _; rfl) :
    DS K X (.Assign [.Subscript (.Name x npos) ie pos'] e pos) (tAsg te (L2.gSub (tVar i) ti rSetL)) (sPutL i fi f) := by
  refine ⟨ps_asg h.pe (pg_sub (pos := pos') (o := .Name x npos) (i := ie) (pe_var hN hv hd hcd) hi'.pe set_list ha) hs hw h1, fun M H0 z m H σ ρ W E I c q => ?_⟩
  obtain ⟨xs, e0', q⟩ := q
  have e0 := slL_of e0'
  obtain ⟨p, vs, e1, e2, ia, mp, nw, n0, zl⟩ := I.slot i _ e0
  refine h.rd M H0 z m H σ ρ _ I (h.mo ρ _ _ (fun d q1 v H1 s1 iv => ?_) q)
  refine ⟨.ref p, e1, ?_⟩
  refine hi'.rd M H0 z m H1 σ ρ _ (I.step s1) (hi'.mo ρ _ _ (fun k q2 u H2 s2 iu => ?_) q1)
  obtain ⟨n, j, rfl, ej, q3⟩ := q2
  have s := s1.trans s2
  have e2' := s.keep p _ nw e2
  have ia' := ia.mono (I.same s)
  have iu' : u = .int n := by cases iu; rfl
  refine ⟨p, vs, n, j, rfl, iu', e2', by rw [ia.length]; exact ej, ?_⟩
  obtain ⟨I', f'⟩ := (I.step s).wrL e0 e1 (IsA.set (iv.mono ((I.step s1).same s2)) j ia') (by rw [List.length_set]; exact zl)
  exact c.nx m σ _ _ I' ((I.fw s).trans f') q3
end
end Pl

namespace Pl
open PySem PySem.Spec PyProof.Rows L2

/-! ### s.count(letter, from, to) -/
theorem occ_tight2 (x y : Str) (lo hi : Nat) (hw : 1 ≤ y.length) (hh : hi ≤ x.length) : ∃ f, StrLaws.ChainG x y hi lo (Builtin.Str.occurrences x y lo hi (x.length + 1)) f ∧ ∀ k, f ≤ k → ¬ StrLaws.At x y hi k := by
  rw [StrLaws.occ_eq]
  have key := StrLaws.tight_run x y hi (x.length + 1) lo hw (hi + 1 - lo) lo ((#[] : Array Nat), lo) rfl (fun k h1 h2 => by omega) (by simp; omega)
  refine ⟨_, key.1, fun k hk hA => ?_⟩
  exact key.2 k hk (by have := hA.1; omega) hA
theorem at_two {x : List Nat} {c k hi : Nat} (hh : hi ≤ x.length) : StrLaws.At (S x) (S [c]) hi k ↔ (x.take hi)[k]? = some c := by
  have h1 := at_one (x := x) (c := c) (k := k)
  unfold StrLaws.At at h1 ⊢
  have e1 : (S [c]).length = 1 := rfl
  have e2 : (S x).length = x.length := S_len x
  rw [e1, e2] at h1
  rw [e1, List.getElem?_take]
  constructor
  · rintro ⟨a, b⟩
    rw [if_pos (by omega)]
    exact h1.mp ⟨by omega, b⟩
  · intro e
    split at e
    · obtain ⟨_, b⟩ := h1.mpr e
      exact ⟨by omega, b⟩
    · cases e
theorem chain_count2 {x : List Nat} {c hi : Nat} (hh : hi ≤ x.length) : ∀ (cuts : List Nat) (a f : Nat), StrLaws.ChainG (S x) (S [c]) hi a cuts f → (∀ k, f ≤ k → ¬ StrLaws.At (S x) (S [c]) hi k) → cuts.length = ((x.take hi).drop a).count c
  | [], a, f, h, hn => by
    have e : f = a := h
    subst e
    rw [List.length_nil]
    symm
    rw [List.count_eq_zero]
    intro hm
    obtain ⟨j, e⟩ := List.mem_iff_getElem?.mp hm
    rw [List.getElem?_drop] at e
    exact hn (f + j) (Nat.le_add_right _ _) ((at_two hh).mpr e)
  | q :: r, a, f, h, hn => by
    obtain ⟨h1, h2, h3, h4⟩ := h
    have e2 := (at_two hh).mp h2
    have ih := chain_count2 hh r (q + 1) f h4 hn
    have h3' : ∀ k, a ≤ k → k < q → (x.take hi)[k]? ≠ some c := fun k k1 k2 e => h3 k k1 k2 ((at_two hh).mpr e)
    generalize x.take hi = y at e2 ih h3' ⊢
    have hq : q < y.length := (List.getElem?_eq_some_iff.mp e2).1
    rw [List.length_cons, ih]
    have split : y.drop a = (y.drop a).take (q - a) ++ (y.drop q) := by
      have := (List.take_append_drop (q - a) (y.drop a)).symm
      rw [List.drop_drop, show a + (q - a) = q by omega] at this
      exact this
    rw [split, List.count_append]
    have z : ((y.drop a).take (q - a)).count c = 0 := by
      rw [List.count_eq_zero]
      intro hm
      obtain ⟨j, e⟩ := List.mem_iff_getElem?.mp hm
      rw [List.getElem?_take] at e
      split at e
      · rw [List.getElem?_drop] at e
        exact h3' (a + j) (Nat.le_add_right _ _) (by omega) e
      · cases e
    rw [z, Nat.zero_add, List.drop_eq_getElem_cons hq]
    have e3 : y[q] = c := (List.getElem?_eq_some_iff.mp e2).2
    rw [e3, List.count_cons_self]
theorem count4_S (x : List Nat) (c i j : Nat) (hi : i ≤ j) (hj : j ≤ x.length) : Txt.countIn (S x) (S [c]) i j = (((x.drop i).take (j - i)).count c : Nat) := by
  unfold Txt.countIn
  have e1 : fromIndex (S x).length (i : Int) = i := by unfold fromIndex; rw [if_neg (by omega)]; omega
  have e2 : toIndexW (S x).length (j : Int) = j := by unfold toIndexW; rw [if_neg (by omega), S_len]; omega
  rw [e1, e2]
  obtain ⟨f, h, hn⟩ := occ_tight2 (S x) (S [c]) i j (Nat.le_refl 1) (by rw [S_len]; exact hj)
  rw [chain_count2 hj _ i f h hn, List.drop_take]
/-- s.count(letter, from, to) -/
def gSCount3 : FM := fun o ds Q => match o, ds with
  | .str x, [.str [c], .int i, .int j] => ∃ a b : Nat, i = a ∧ j = b ∧ a ≤ b ∧ b ≤ x.length ∧ Q (.int (((x.drop a).take (b - a)).count c : Nat))
  | _, _ => False
theorem mo_gSCount3 : MoM gSCount3 := fun o a Q Q' h q => by
  unfold gSCount3 at q ⊢
  split at q
  · obtain ⟨a, b, e1, e2, h1, h2, q⟩ := q
    exact ⟨a, b, e1, e2, h1, h2, h _ q⟩
  · exact q
def rSCount3 : V → List V → Hp → VK → Prop := fun x xs H Q => ∃ (a b : Str) (i j : Int), x = .str a ∧ xs = [.str b, .int i, .int j] ∧ Q (.int (Txt.countIn a b i j)) H
theorem m_scount3 {K : Fg0} {X : Cx} : MR K X "str.count" rSCount3 gSCount3 := by
  refine ⟨mt_count4, fun M m H x vs d ds Q h i ii q => ?_, mo_gSCount3⟩
  unfold gSCount3 at q
  split at q
  · rename_i x c i' j'
    obtain ⟨a, b, rfl, rfl, h1, h2, q⟩ := q
    cases ii with
    | cons j1 t1 =>
      cases t1 with
      | cons j2 t2 =>
        cases t2 with
        | cons j3 t3 =>
          cases t3
          refine ⟨_, _, _, _, i.str.1, by rw [j1.str.1, j2.int, j3.int], ?_⟩
          rw [count4_S x c a b h1 h2]
          exact Wn.int h q
  · exact q.elim
end Pl

namespace Pl
open PySem PySem.Spec PyProof.Rows L2

/-! ### len(set(rows)), rows a list of tuples of ints -/
/-- each once -/
def dd {α : Type} [DecidableEq α] : List α → List α
  | [] => []
  | x :: xs => if x ∈ xs then dd xs else x :: dd xs
theorem mem_dd {α : Type} [DecidableEq α] {y : α} : ∀ {xs : List α}, y ∈ dd xs ↔ y ∈ xs
  | [] => Iff.rfl
  | x :: xs => by
    unfold dd
    split
    · rename_i h
      rw [mem_dd, List.mem_cons]
      exact ⟨.inr, fun z => z.elim (fun e => by rw [e]; exact h) id⟩
    · rw [List.mem_cons, List.mem_cons, mem_dd]
theorem nodup_dd {α : Type} [DecidableEq α] : ∀ xs : List α, (dd xs).Nodup
  | [] => .nil
  | x :: xs => by
    unfold dd
    split
    · exact nodup_dd xs
    · rename_i h
      exact List.nodup_cons.mpr ⟨fun z => h (mem_dd.mp z), nodup_dd xs⟩
theorem nodup_len {α : Type} {l l' : List α} (n : l.Nodup) (n' : l'.Nodup) (h : ∀ x, x ∈ l ↔ x ∈ l') : l.length = l'.length := ((List.perm_ext_iff_of_nodup n n').mpr h).length_eq
def tLenSetT (K : Fg0) (ta : TE) : TE := fun σ H Q => ta σ H fun x H1 => ∃ (l : Addr) (ks : List (Addr × List Int)), x = V.ref l ∧ SqL K H1 l (ks.map fun p => V.ref p.1) ∧ (∀ p ∈ ks, SqT K H1 p.1 (p.2.map V.int)) ∧ ks.length < 64 ∧ Q (.int (dd (ks.map (·.2))).length) H1
theorem pe_lenSetT {X : Cx} {a : Expr} {ta : TE} {p p2 q pos : Pos} (hc : X.calm = true) (hu : X.A.units + 64 < cLine) (hg : Gl X "len") (hm : X.mg "len" = none) (hg2 : Gl X "set") (hm2 : X.mg "set" = none) (ha : PE X a ta)
    (na : starEach [a] X.env = (false, eval a X.env) :: starEach [] X.env := by rfl) : PE X (.Call (.Name "len" p) [.Call (.Name "set" p2) [a] [] q] [] pos) (tLenSetT X.K ta) := by
  refine ⟨fun pins s σ H Q I h => ?_⟩
  refine Call_ (ld_blt I hg hm PySem.boot_len ?_)
  refine PyProof.Rows.callWith_builtin1 (PyProof.Rows.args_cons ?_ rfl) rfl rfl
  refine Call_ (ld_blt I hg2 hm2 PyProof.Rows.boot_set ?_)
  refine PyProof.Rows.callWith_type1 (PyProof.Rows.args_cons (thn (ha.run pins s σ H _ I h) fun v s1 ⟨x, H1, I1, r1, q1⟩ => PyProof.Rows.args_nil ?_) na) na rfl
  obtain ⟨l, ks, rfl, hl, hk, hf, q1⟩ := q1
  cases r1
  obtain ⟨its, rv, pl, hz⟩ := I1.list hl
  refine call_set_tups (P := X.prog) (w := X.w) ks (I1.ok.hd hc) pl.isList (by simpa using refs_of_vals rv) (fun p hp => I1.isT (hk p hp)) hf (by omega) fun h' tk L es ep t R g k => ?_
  refine PyProof.Rows.args_nil ?_
  have hsz := SetTR.size (s := { s1 with heap := h', toks := tk }) R
  have hfit := SetTR.fits (s := { s1 with heap := h', toks := tk }) R
  obtain ⟨o, ho, hex, hd⟩ := R.ob
  have few := R.few
  have I2 : Inv X pins σ H1 { s1 with heap := h', toks := tk } := I1.kept fun b o e => k b o e
  have hn : L.length = (dd (ks.map (·.2))).length := by
    rw [← List.length_map (f := fun p : Addr × List Int => p.2)]
    refine nodup_len R.nd (nodup_dd _) fun y => ?_
    rw [mem_dd]
    constructor
    · intro h
      obtain ⟨p, hp, rfl⟩ := List.mem_map.mp h
      exact List.mem_map_of_mem (List.mem_of_mem_take (g.sub p hp))
    · intro h
      obtain ⟨p, hp, rfl⟩ := List.mem_map.mp h
      exact g.all p (by rw [List.take_length]; exact hp)
  refine call_len_set (s := { s1 with heap := h', toks := tk }) ho hex hd hfit (by rw [hsz]; omega) ⟨.int (dd (ks.map (·.2))).length, H1, I2.tok _, ⟨_, by rw [hsz, hn]⟩, q1⟩
/-- len(set(rows)) -/
def gLenSet : F1 := fun a Q => match a with
  | .lst xs => ∃ rows : List (List Int), xs = rows.map (fun r => D.tup (r.map D.int)) ∧ rows.length < 64 ∧ Q (.int (dd rows).length)
  | _ => False
theorem mo_gLenSet : Mo1 gLenSet := fun a Q Q' h q => by
  unfold gLenSet at q ⊢
  split at q
  · obtain ⟨rows, e, f, q⟩ := q
    exact ⟨rows, e, f, h _ q⟩
  · exact q
theorem isA_int {K : Fg0} {M : Ml} {H : Hp} : ∀ {vs : List V} (r : List Int), IsA K M H vs (r.map D.int) → vs = r.map V.int
  | _, [], .nil => rfl
  | _, n :: r, .cons i t => by cases i; rw [isA_int r t]; rfl
theorem isA_rows {K : Fg0} {M : Ml} {H : Hp} : ∀ {vs : List V} (rows : List (List Int)), IsA K M H vs (rows.map fun r => D.tup (r.map D.int)) → ∃ ks : List (Addr × List Int), vs = ks.map (fun p => V.ref p.1) ∧ rows = ks.map (·.2) ∧ ∀ p ∈ ks, SqT K H p.1 (p.2.map V.int)
  | _, [], .nil => ⟨[], rfl, rfl, fun p h => nomatch h⟩
  | _, r :: rows, .cons i t => by
    obtain ⟨ks, e1, e2, h⟩ := isA_rows rows t
    cases i with
    | tup hs a z =>
      rw [isA_int r a] at hs
      refine ⟨(_, r) :: ks, by rw [e1]; rfl, by rw [e2]; rfl, fun p hp => ?_⟩
      rcases List.mem_cons.mp hp with e | e
      · subst e; exact hs
      · exact h p e
theorem e_lenSet {K : Fg} {X : Cx} {a : Expr} {ta : TE} {f : FE} {p p2 q pos : Pos} (hc : X.calm = true) (hu : X.A.units + 64 < cLine) (hm : X.mg "len" = none) (hm2 : X.mg "set" = none) (h : DT K X a ta f) (hK : X.K = K := by rfl) (hg : Gl X "len" := by rfl) (hg2 : Gl X "set" := by rfl)
    (na : starEach [a] X.env = (false, eval a X.env) :: starEach [] X.env := by rfl) : DE K X (.Call (.Name "len" p) [.Call (.Name "set" p2) [a] [] q] [] pos) (tLenSetT K ta) (f1 gLenSet f) := by
  obtain ⟨K, stK⟩ := K
  replace hK : X.K = K := hK
  subst hK
  refine ⟨pe_lenSetT hc hu hg hm hg2 hm2 h.pe na, fun M H0 z m H σ ρ Q I q => ?_, mo_f1 mo_gLenSet h.mo⟩
  refine h.rd M H0 z m H σ ρ _ I (h.mo ρ _ _ (fun d q v H1 s i => ?_) q)
  unfold gLenSet at q
  split at q
  · obtain ⟨rows, rfl, hf, q⟩ := q
    obtain ⟨l, vs, rfl, hl, ia, zl⟩ := i.lst
    obtain ⟨ks, rfl, rfl, hk⟩ := isA_rows rows ia
    rw [List.length_map] at hf
    exact ⟨l, ks, rfl, .of hl, fun p hp => same_sqT hid_all (hk p hp), hf, q _ _ s (.int _)⟩
  · exact q.elim
end Pl

namespace Pl
open PySem PySem.Spec PyProof.Rows L2

/-! ### x[tuple(rows)] = v, len(x): a dict of the frame's own with tuples of ints as keys -/
def Sl.pt : Sl → Option (List (List Key × D))
  | .ot xs => some xs
  | _ => none
def slT (ρ : En) (i : Nat) : Option (List (List Key × D)) := (ρ[i]?).bind Sl.pt
theorem slT_of {ρ : En} {i : Nat} {x : List (List Key × D)} (h : slT ρ i = some x) : ρ[i]? = some (.ot x) := by
  unfold slT at h
  cases e : ρ[i]? with
  | none => rw [e] at h; cases h
  | some s =>
    rw [e] at h
    cases s with
    | ot y => cases h; rfl
    | _ => cases h
/-- a row of ints as a key -/
def iK (r : List Int) : List Key := r.map Sum.inl
theorem iK_kV (r : List Int) : (iK r).map kV = r.map V.int := by unfold iK; rw [List.map_map]; rfl
theorem iK_inj {r s : List Int} (h : iK r = iK s) : r = s := by
  unfold iK at h
  exact (List.map_inj_right (fun x y e => Sum.inl.inj e)).mp h
/-- the entry k set to v -/
def putG {κ α : Type} [DecidableEq κ] (kvs : List (κ × α)) (k : κ) (v : α) : List (κ × α) :=
  if (kvs.any fun kv => decide (kv.1 = k)) = true then kvs.map (fun kv => if kv.1 = k then (kv.1, v) else kv) else kvs ++ [(k, v)]
theorem any_fst {κ α β : Type} [DecidableEq κ] (k : κ) : ∀ {vs : List (κ × α)} {ks : List (κ × β)}, vs.map (·.1) = ks.map (·.1) → (vs.any fun kv => decide (kv.1 = k)) = ks.any fun kv => decide (kv.1 = k)
  | [], [], _ => rfl
  | [], _ :: _, h => by cases h
  | _ :: _, [], h => by cases h
  | x :: vs, y :: ks, h => by
    rw [List.map_cons, List.map_cons, List.cons.injEq] at h
    rw [List.any_cons, List.any_cons, any_fst k h.2, h.1]
theorem put_isA {K : Fg0} {M : Ml} {H : Hp} {κ : Type} [DecidableEq κ] {v : V} {d : D} (k : κ) (iv : Is K M H v d) {vs : List (κ × V)} {ks : List (κ × D)} (e : vs.map (·.1) = ks.map (·.1)) (ia : IsA K M H (vs.map (·.2)) (ks.map (·.2))) :
    (putK vs k v).map (·.1) = (putG ks k d).map (·.1) ∧ IsA K M H ((putK vs k v).map (·.2)) ((putG ks k d).map (·.2)) := by
  unfold putK putG
  rw [any_fst k e]
  split
  · rename_i hh
    clear hh
    induction vs generalizing ks with
    | nil =>
      cases ks with
      | nil => exact ⟨rfl, .nil⟩
      | cons y ks => cases e
    | cons x vs ih =>
      cases ks with
      | nil => cases e
      | cons y ks =>
        rw [List.map_cons, List.map_cons, List.cons.injEq] at e
        rw [List.map_cons, List.map_cons] at ia
        cases ia with
        | cons i1 i2 =>
          obtain ⟨h1, h2⟩ := ih e.2 i2
          simp only [List.map_cons]
          refine ⟨?_, ?_⟩
          · rw [h1, e.1]
            by_cases z : y.1 = k
            · rw [if_pos z, if_pos z]
            · rw [if_neg z, if_neg z, e.1]
          · rw [e.1]
            by_cases z : y.1 = k
            · rw [if_pos z, if_pos z]; exact .cons iv h2
            · rw [if_neg z, if_neg z]; exact .cons i1 h2
  · rw [List.map_append, List.map_append, List.map_append, List.map_append, e]
    exact ⟨rfl, ia.append (.one iv)⟩
def sPutT (i : Nat) (fa f : FE) : FS := fun E ρ => exS (slT ρ i) fun kvs => f ρ fun d => fa ρ fun k => ∃ r : List Int, k = .lst (r.map D.int) ∧ kvs.length < sizeLine ∧ E.nx (ρ.set i (.ot (putG kvs (iK r) d)))
section
variable {K : Fg} {X : Cx} {pos pos' npos tpos cpos : Pos} {x : Str} {e ie : Expr} {te ti : TE} {f fi : FE}
theorem d_tput (i : Nat) (hu : X.A.units + 64 < cLine) (h : DE K X e te f) (hi' : DT K X ie ti fi) (hm : X.mg "tuple" = none) (hN : X.N[i]? = some x := by rfl) (hv : Vis X.env.scope x := by first | exact Or.inl rfl | exact Or.inr (Or.inl rfl) | exact Or.inr (Or.inr rfl)) (hd : (x == ("__debug__" : Str)) = false := by decide)
    (hcd : (x == ("__classdict__" : Str)) = false := by decide) (hK : X.K = K := by rfl) (hg : Gl X "tuple" := by rfl)
    (hs : swapsWith e (some (.Subscript (.Name x npos) (.Call (.Name "tuple" tpos) [ie] [] cpos) pos')) pos.line X.env = pure false := by rfl)
    (he : starEach [ie] X.env = (false, eval ie X.env) :: starEach [] X.env := by rfl) (hpl : (backTo cpos (starEach [] X.env)).any (·.1) = false := by rfl) :
    DS K X (.Assign [.Subscript (.Name x npos) (.Call (.Name "tuple" tpos) [ie] [] cpos) pos'] e pos) (sDPut (tVar i) (tCB (rTuple K) (tCons ti tNil)) te) (sPutT i fi f) := by
  obtain ⟨K, stK⟩ := K
  replace hK : X.K = K := hK
  subst hK
  refine ⟨ps_dput (by omega) (pe_var hN hv hd hcd) (pe_callTy (b_tuple (X := X)).cr hg hm (by decide +kernel) (pa_cons hi'.pe pa_nil he) (by decide) (by decide) he hpl) h.pe hs, fun M H0 z m H σ ρ W E I c q => ?_⟩
  obtain ⟨kvs, e0', q⟩ := q
  have e0 := slT_of e0'
  obtain ⟨p, vs, e1, e2, ia, mp, nw, n0, ek⟩ := I.slot i _ e0
  refine h.rd M H0 z m H σ ρ _ I (h.mo ρ _ _ (fun d q1 v H1 s1 iv => ?_) q)
  refine ⟨.ref p, e1, ?_⟩
  refine hi'.rd M H0 z m H1 σ ρ _ (I.step s1) (hi'.mo ρ _ _ (fun k q2 u H2 s2 iu => ?_) q1)
  obtain ⟨r, rfl, hl, q3⟩ := q2
  obtain ⟨l, us, rfl, hL, iL, zl⟩ := iu.lst
  rw [isA_int r iL] at hL
  refine ⟨l, _, rfl, .inl ⟨.of hL, fun t nt => ?_⟩⟩
  have s12 := s1.trans s2
  have s3 : Stp M H2 (upd H2 t (.tup (r.map V.int))) := .new (I.step s12).ok nt
  have s := s12.trans s3
  have e2' := s.keep p _ nw e2
  have len : vs.length = kvs.length := by
    have := congrArg List.length ek
    rwa [List.length_map, List.length_map] at this
  refine ⟨p, _, rfl, DPut.t (k := iK r) e2' (by rw [upd_same, iK_kV]) (by rw [len]; exact hl), ?_⟩
  have I3 := I.step s
  obtain ⟨k1, k2⟩ := put_isA (iK r) (((I.step s1).is (s2.trans s3) iv)) ek (ia.mono (I.same s))
  obtain ⟨I', f'⟩ := I3.wrO (s1 := .ot (putG kvs (iK r) d)) (o := .dT (putK vs (iK r) v)) e0 trivial trivial e1 ⟨p, _, rfl, upd_same, k2.mono (same_wr mp), mp, nw, n0, k1⟩
  exact c.nx m σ _ _ I' ((I.fw s).trans f') q3
/-- len(x) of such a dict -/
def fLenT (i : Nat) : FE := fun ρ Q => exS (slT ρ i) fun kvs => Q (.int (kvs.length : Nat))
theorem e_lenT (i : Nat) (hm : X.mg "len" = none) (hN : X.N[i]? = some x := by rfl) (hv : Vis X.env.scope x := by first | exact Or.inl rfl | exact Or.inr (Or.inl rfl) | exact Or.inr (Or.inr rfl)) (hd : (x == ("__debug__" : Str)) = false := by decide)
    (hcd : (x == ("__classdict__" : Str)) = false := by decide) (hg : Gl X "len" := by rfl)
    (he : starEach [.Name x npos] X.env = (false, eval (.Name x npos) X.env) :: starEach [] X.env := by rfl) (hpl : (backTo cpos (starEach [] X.env)).any (·.1) = false := by rfl) :
    DE K X (.Call (.Name "len" tpos) [.Name x npos] [] cpos) (tCB rLenT (tCons (tVar i) tNil)) (fLenT i) := by
  refine ⟨pe_callB call_len_dT hg hm PySem.boot_len (pa_cons (pe_var hN hv hd hcd) pa_nil he) (by decide) (by decide) he hpl, fun M H0 z m H σ ρ Q I q => ?_, fun ρ Q Q' h q => exS_mo (fun kvs q => h _ q) q⟩
  obtain ⟨kvs, e0', q⟩ := q
  obtain ⟨p, vs, e1, e2, ia, mp, nw, n0, ek⟩ := I.slot i _ (slT_of e0')
  have len : vs.length = kvs.length := by
    have := congrArg List.length ek
    rwa [List.length_map, List.length_map] at this
  exact ⟨.ref p, e1, p, vs, rfl, e2, by rw [len]; exact q _ _ (.refl I.ok) (.int _)⟩
end
end Pl

namespace Pl
open PySem PySem.Spec PyProof.Rows L2

/-! ### a new list xs * k -/
def lRep (fa fb : FE) : FA := fun ρ Q => fa ρ fun x => fb ρ fun y => ∃ (xs : List D) (n : Nat), x = .lst xs ∧ y = .int n ∧ xs.length * n ≤ 16777216 ∧ n ≤ 16777216 ∧ Q (List.replicate n xs).flatten
section
variable {K : Fg} {X : Cx} {a b : Expr} {ta tb : TE} {fa fb : FE} {pos : Pos}
theorem l_rep (ha : DT K X a ta fa) (hb : DT K X b tb fb) : DF K X (.BinOp a .Mult b pos) (tOp rRep ta tb) (lRep fa fb) := by
  refine ⟨pe_op op_rep ha.pe hb.pe, fun M H0 z m H σ ρ Q I q => ?_, fun ρ Q Q' h q => ha.mo ρ _ _ (fun x q => hb.mo ρ _ _ (fun y ⟨xs, n, e1, e2, h1, h2, q⟩ => ⟨xs, n, e1, e2, h1, h2, h _ q⟩) q) q⟩
  refine ha.rd M H0 z m H σ ρ _ I (ha.mo ρ _ _ (fun x q v H1 s1 i1 => ?_) q)
  refine hb.rd M H0 z m H1 σ ρ _ (I.step s1) (hb.mo ρ _ _ (fun y q u H2 s2 i2 => ?_) q)
  obtain ⟨xs, n, rfl, rfl, h1, h2, q⟩ := q
  obtain ⟨p, vs, rfl, r, k, zl⟩ := (i1.step (I.hx.step s1) s2).lst
  refine ⟨p, n, vs, rfl, i2.int, r, by omega, by omega, by rw [k.length, Int.toNat_natCast, sizeLine_eq]; exact h1, fun p np => ?_⟩
  have h3 := I.hx.step (s1.trans s2)
  have s3 : Stp M H2 (upd H2 p (.lst (List.replicate n vs).flatten)) := .new h3.ok np
  have f : ∀ n : Nat, IsA K M (hid m H2) (List.replicate n vs).flatten (List.replicate n xs).flatten := fun n => by
    induction n with
    | zero => exact .nil
    | succ n ih => rw [List.replicate_succ, List.replicate_succ, List.flatten_cons, List.flatten_cons]; exact k.append ih
  rw [Int.toNat_natCast]
  refine q p _ _ ((s1.trans s2).trans s3) ?_ upd_same ((f n).mono ((hid_more np).trans (hid_same fun b u _ e => by rw [upd_ne (ne_of_none e np)]; exact e))) (by rw [List.length_flatten, List.map_replicate, List.sum_replicate_nat, Nat.mul_comm, sizeLine_eq]; exact h1)
  cases e : H p with
  | none => rfl
  | some o => exact absurd np ((s1.trans s2).there p (by rw [e]; exact fun q => nomatch q))
end
end Pl

namespace Pl
open PySem PySem.Spec PyProof.Rows L2

/-! ### a frame of which some slots are known -/
def fillF (f : Nat → Sl) : List (Option Sl) → Nat → Nat → En
  | _, 0, _ => []
  | [], n + 1, i => f i :: fillF f [] n (i + 1)
  | some s :: ps, n + 1, i => s :: fillF f ps n (i + 1)
  | none :: ps, n + 1, i => f i :: fillF f ps n (i + 1)
def Fr (n : Nat) (ps : List (Option Sl)) (ρ : En) : Prop := ∃ f, ρ = fillF f ps n 0
def FrB : List (Option Sl) → Nat → En → Prop
  | _, 0, [] => True
  | [], n + 1, _ :: ρ => FrB [] n ρ
  | some s :: ps, n + 1, t :: ρ => t = s ∧ FrB ps n ρ
  | none :: ps, n + 1, _ :: ρ => FrB ps n ρ
  | _, _, _ => False
theorem fill_of : ∀ (ps : List (Option Sl)) (n i : Nat) (ρ : En) (f : Nat → Sl), FrB ps n ρ → (∀ j s, ρ[j]? = some s → f (i + j) = s) → ρ = fillF f ps n i
  | ps, 0, i, [], f, h, g => by cases ps with | nil => rfl | cons a b => cases a <;> rfl
  | ps, 0, i, t :: ρ, f, h, g => by cases ps with | nil => exact h.elim | cons a b => cases a <;> exact h.elim
  | [], n + 1, i, t :: ρ, f, h, g => by
    have e := fill_of [] n (i + 1) ρ f h fun j s q => by have := g (j + 1) s q; rw [← this]; congr 1; omega
    show t :: ρ = f i :: fillF f [] n (i + 1)
    rw [← e, ← g 0 t rfl]; rfl
  | none :: ps, n + 1, i, t :: ρ, f, h, g => by
    have e := fill_of ps n (i + 1) ρ f h fun j s q => by have := g (j + 1) s q; rw [← this]; congr 1; omega
    show t :: ρ = f i :: fillF f ps n (i + 1)
    rw [← e, ← g 0 t rfl]; rfl
  | some s :: ps, n + 1, i, t :: ρ, f, h, g => by
    have e := fill_of ps n (i + 1) ρ f h.2 fun j s q => by have := g (j + 1) s q; rw [← this]; congr 1; omega
    show t :: ρ = s :: fillF f ps n (i + 1)
    rw [← e, h.1]
  | [], n + 1, i, [], f, h, g => h.elim
  | none :: ps, n + 1, i, [], f, h, g => h.elim
  | some s :: ps, n + 1, i, [], f, h, g => h.elim
theorem Fr.mk {n : Nat} {ps : List (Option Sl)} {ρ : En} (h : FrB ps n ρ) : Fr n ps ρ :=
  ⟨fun i => ρ.getD i .un, fill_of ps n 0 ρ _ h fun j s q => by show ρ.getD (0 + j) .un = s; rw [Nat.zero_add, List.getD_eq_getElem?_getD, q]; rfl⟩
abbrev kd (d : D) : Option Sl := some (.d d)
theorem atI_0 {α : Type} (xs : List α) : atI xs 0 = xs[0]? := Pl.atI_nat xs 0
theorem atI_1 {α : Type} (xs : List α) : atI xs 1 = xs[1]? := Pl.atI_nat xs 1
theorem atI_2 {α : Type} (xs : List α) : atI xs 2 = xs[2]? := Pl.atI_nat xs 2
theorem atI_3 {α : Type} (xs : List α) : atI xs 3 = xs[3]? := Pl.atI_nat xs 3
end Pl

namespace Pl
open PySem PySem.Spec PyProof.Rows L2

/-! ### isinstance -/
def tyD : D → Option String
  | .non => some "NoneType"
  | .bl _ => some "bool"
  | .int _ => some "int"
  | .str _ => some "str"
  | .tup _ => some "tuple"
  | .lst _ => some "list"
  | .dk _ => some "dict"
  | .ml _ => none
  | .scr _ => none
theorem IsT.ty {K : Fg0} {M : Ml} {m : Addr → Prop} {H : Hp} {v : V} {d : D} {t : String} (q : IsT K M m H v d) (e : tyD d = some t) : TyX K H v (.type t) := by
  rcases q with q | ⟨p, vs, ds, e1, e2, e3, _, a, _⟩ | ⟨p, vs, ds, e1, e2, e3, _, a⟩
  · cases q with
    | non => cases e; exact .base .non
    | bl b => cases e; exact .base (.bl b)
    | int i => cases e; exact .base (.int i)
    | str x _ => cases e; exact .base (.str _)
    | tup h a z =>
      cases e
      rcases same_sqT hid_all h with (h | ⟨u, h⟩) | ⟨oc, od, us, n, sl, h, _⟩
      · exact .base (.tup h)
      · exact .fTuple h
      · exact .kTuple n sl
    | lst h a z => cases e; exact .base (.lst (hid_all _ _ h))
    | dk h a =>
      cases e
      rcases same_rd hid_all h with h | ⟨u, h⟩
      · exact .base (.dK h)
      · exact .fDict h
    | ml h => cases e
    | scr h z => cases e
  · subst e1; subst e2; cases e; exact .base (.lst e3)
  · subst e1; subst e2; cases e; exact .base (.dK e3)
/-- is it of that type -/
def isT : String → D → Bool
  | "str", .str _ => true
  | "int", .int _ => true
  | "int", .bl _ => true
  | "bool", .bl _ => true
  | "tuple", .tup _ => true
  | "list", .lst _ => true
  | "dict", .dk _ => true
  | _, _ => false
def gIsi (T : String) : F1 := fun a Q => (tyD a).isSome = true ∧ Q (.bl (isT T a))
theorem mo_gIsi {T : String} : Mo1 (gIsi T) := fun a Q Q' h q => ⟨q.1, h _ q.2⟩
/-- the names that may be asked -/
def okTy (T : String) : Bool := ["str", "int", "bool", "tuple", "list", "dict"].all fun t => (["NoneType", "bool", "int", "str", "tuple", "list", "dict"].all fun a => (kitB a t).isSome) || decide (t ≠ T)
theorem kit_is {T t : String} {d : D} (h : T ∈ ["str", "int", "bool", "tuple", "list", "dict"]) (e : tyD d = some t) : kitB t T = some (isT T d) := by
  simp only [List.mem_cons, List.not_mem_nil, or_false] at h
  rcases h with rfl | rfl | rfl | rfl | rfl | rfl <;> cases d <;> cases e <;> first | rfl | decide +kernel
section
variable {K : Fg} {X : Cx} {e : Expr} {te : TE} {f : FE} {p p2 pos : Pos} {x : Str} {T : String}
theorem e_isi (T : String) (x : Str) (h : DT K X e te f) (hm : X.mg "isinstance" = none) (hm2 : X.mg x = none) (hv : bootBuiltins x = some (.type T) := by decide +kernel) (hT : T ∈ ["str", "int", "bool", "tuple", "list", "dict"] := by decide) (hK : X.K = K := by rfl) (hg : Gl X "isinstance" := by rfl) (hg2 : Gl X x := by rfl)
    (hn : x ≠ "__name__" := by decide) (hdb : (x == ("__debug__" : Str)) = false := by decide)
    (he : starEach [e, .Name x p2] X.env = (false, eval e X.env) :: starEach [.Name x p2] X.env := by rfl) (he2 : starEach [.Name x p2] X.env = (false, eval (.Name x p2) X.env) :: starEach [] X.env := by rfl) (hpl : (backTo pos (starEach [.Name x p2] X.env)).any (·.1) = false := by rfl) :
    DE K X (.Call (.Name "isinstance" p) [e, .Name x p2] [] pos) (tCB (rIsi K) (tCons te (tCons (tC (.ty T)) tNil))) (f1 (gIsi T) f) := by
  obtain ⟨K, stK⟩ := K
  replace hK : X.K = K := hK
  subst hK
  refine ⟨pe_callB call_isi hg hm (by decide +kernel) (pa_cons h.pe (pa_cons (pe_bltn (v := .ty T) hg2 hm2 hv rfl hn hdb) pa_nil he2) he) (by decide) (by decide) he hpl, fun M H0 z m H σ ρ Q I q => ?_, mo_f1 mo_gIsi h.mo⟩
  refine h.rd M H0 z m H σ ρ _ I (h.mo ρ _ _ (fun d q v H1 s i => ?_) q)
  obtain ⟨q1, q2⟩ := q
  obtain ⟨t, et⟩ := Option.isSome_iff_exists.mp q1
  exact ⟨v, .ty T, .type t, .type T, isT T d, rfl, .ty T, i.ty et, kit_ty (kit_is hT et), q2 _ _ s (.bl _)⟩
/-- {} -/
theorem e_dk0 {dpos : Pos} : DE K X (.Dict [] [] dpos) tDNewK (fC (.dk [])) := by
  refine ⟨pe_dnewK, fun M H0 z m H σ ρ Q I q p np => ?_, mo_C⟩
  have h := I.hx
  have s : Stp M H (upd H p (.dK [])) := .new h.ok np
  exact q _ _ s (.dk (.inl (by rw [hid_in (h.fresh np)]; exact upd_same)) .nil)
end

/-! ### repr of {} -/
def isE : D → Bool
  | .dk [] => true
  | _ => false
def rReprE : List V → Hp → VK → Prop := fun xs H Q => ∃ a, xs = [.ref a] ∧ Rd H a (.dK []) ∧ Q (.str (S [123, 125])) H
theorem call_reprE {X : Cx} (hG : X.A.guards = some []) (hu : X.A.units + 64 < cLine) : CallR X (.builtin "repr") rReprE := by
  intro pins s σ H xs us Q I r h
  obtain ⟨a, rfl, hd, q⟩ := h
  obtain ⟨u, rfl, rx⟩ := vals1 r
  cases (show u = Value.ref a from rx)
  obtain ⟨_, h4, vs, kv, o, es, ep, h1, h2, h3, _, pr, _⟩ := (show ObjOk X.prog X.w H s.heap a (.dK []) from hd.ok I.hok)
  cases kv
  have he : es = #[] := by
    cases e : es.toList with
    | nil => exact Array.toList_eq_nil_iff.mp e
    | cons y ys => rw [e] at pr; cases pr
  subst he
  have rr : Reads s.heap (.ref a) (.dict []) (a :: [] ++ []) := .dict h1 h2.1 h3 .nil .nil
  refine repr_of_reads' rr (by decide) (fun _ => by simpa using fun z => by subst z; simp at h4) hG (by simp [PyData.depth, PyData.depthKv]; omega) (fun _ _ e => e) (fun h' t tk k => ⟨.str (S [123, 125]), H, I.kept k, ⟨t, rfl⟩, q⟩) (by decide)
/-- what may be shown, {} too -/
def gReprE : FL := fun ds Q => match ds with
  | [d] => (isE d = true ∧ Q (.str [123, 125])) ∨ (isE d = false ∧ rp d = true ∧ Q (.str (shown d)))
  | _ => False
theorem mo_gReprE : MoL gReprE := fun a Q Q' h q => by
  unfold gReprE at q ⊢
  split at q
  · exact q.imp (fun q => ⟨q.1, h _ q.2⟩) fun q => ⟨q.1, q.2.1, h _ q.2.2⟩
  · exact q
theorem b_reprE {K : Fg0} {X : Cx} (hG : X.A.guards = some []) (hu : X.A.units + 64 < cLine) (hK : X.K = K := by rfl) : BR K X (.builtin "repr") (fun xs H Q => rReprE xs H Q ∨ rRepr K xs H Q) gReprE := by
  subst hK
  refine ⟨(call_reprE hG hu).or (call_reprD hG hu), fun M m H vs ds Q h ii q => ?_, mo_gReprE⟩
  unfold gReprE at q
  split at q
  · rename_i d
    rcases q with ⟨e, q⟩ | ⟨e, q1, q2⟩
    · obtain ⟨v, rfl, i⟩ := ii.one
      obtain rfl : d = .dk [] := by
        unfold isE at e
        split at e
        · rfl
        · cases e
      obtain ⟨a, vs, rfl, r, k⟩ := i.dk
      cases k
      exact .inl ⟨a, rfl, r, Wn.str h q (by decide)⟩
    · exact .inr ((b_repr hG hu).rd M m H vs [d] Q h ii ⟨q1, q2⟩)
  · exact q.elim

/-! ### s.find(letter, from), s.rfind(letter, 0, to) -/
/-- the first place of c from i on -/
def findC (x : List Nat) (c i : Nat) : Option Nat := (List.range x.length).find? fun k => decide (i ≤ k) && decide (x[k]? = some c)
/-- the last place of c below i -/
def rfindC (x : List Nat) (c i : Nat) : Option Nat := (List.range (min i x.length)).reverse.find? fun k => decide (x[k]? = some c)
def plI : Option Nat → Int
  | some i => (i : Nat)
  | none => -1
theorem plI_neg {o : Option Nat} : plI o < 0 ↔ o = none := by
  cases o with
  | none => exact ⟨fun _ => rfl, fun _ => by decide⟩
  | some i => exact ⟨fun h => absurd h (by show ¬ ((i : Int) < 0); omega), fun h => nomatch h⟩
theorem plI_nat {o : Option Nat} {k : Nat} : plI o = (k : Int) ↔ o = some k := by
  cases o with
  | none => exact ⟨fun h => absurd h (by show ¬ ((-1 : Int) = k); omega), fun h => nomatch h⟩
  | some i => exact ⟨fun h => by have h : (i : Int) = k := h; rw [show i = k by omega], fun h => by cases h; rfl⟩
theorem getD_S {x : List Nat} {k c : Nat} (h : k < x.length) : (S x).cps.getD k 0 = c ↔ x[k]? = some c := by
  have : (S x).cps.getD k 0 = x[k] := by simp [S, Array.getD, h]
  rw [this, List.getElem?_eq_getElem h]
  simp
theorem find3_S (x : List Nat) (c i : Nat) : Txt.find3 (S x) (S [c]) i = match findC x c i with | some k => (k : Nat) | none => -1 := by
  have e1 : fromIndex (S x).length (i : Int) = i := by unfold fromIndex; rw [if_neg (by omega)]; omega
  rcases StrLaws.find3_spec (S x) c i with ⟨h1, h2⟩ | ⟨k, h1, h2, h3, h4, h5⟩
  · rw [e1] at h2
    have : findC x c i = none := by
      unfold findC
      rw [List.find?_eq_none]
      intro k hk z
      rw [Bool.and_eq_true, decide_eq_true_eq, decide_eq_true_eq] at z
      have hk := List.mem_range.mp hk
      exact h2 k z.1 (by rw [S_len]; exact hk) ((getD_S hk).mpr z.2)
    rw [this]; exact h1
  · rw [e1] at h2 h5
    rw [S_len] at h3
    have : findC x c i = some k := by
      unfold findC
      rw [List.find?_eq_some_iff_getElem]
      refine ⟨by rw [Bool.and_eq_true, decide_eq_true_eq, decide_eq_true_eq]; exact ⟨h2, (getD_S h3).mp h4⟩, k, by simpa using h3, by simp, fun j hj => ?_⟩
      rw [List.getElem_range, Bool.not_eq_true', Bool.and_eq_false_iff, decide_eq_false_iff_not, decide_eq_false_iff_not]
      by_cases hij : i ≤ j
      · exact .inr fun z => h5 j hij hj ((getD_S (by omega)).mpr z)
      · exact .inl hij
    rw [this]; exact h1
def gSFind2 : FM := fun o ds Q => match o, ds with
  | .str x, [.str y, .int i] => ∃ (c j : Nat), y = [c] ∧ i = j ∧ Q (.int (plI (findC x c j)))
  | _, _ => False
theorem mo_gSFind2 : MoM gSFind2 := fun o a Q Q' h q => by
  unfold gSFind2 at q ⊢
  split at q
  · obtain ⟨c, j, e1, e2, q⟩ := q
    exact ⟨c, j, e1, e2, h _ q⟩
  · exact q
def rSFind2 : V → List V → Hp → VK → Prop := fun x xs H Q => ∃ (a b : Str) (i : Int), x = .str a ∧ xs = [.str b, .int i] ∧ Q (.int (Txt.find3 a b i)) H
theorem m_sfind2 {K : Fg0} {X : Cx} : MR K X "str.find" rSFind2 gSFind2 := by
  refine ⟨mt_find3, fun M m H x vs d ds Q h i ii q => ?_, mo_gSFind2⟩
  unfold gSFind2 at q
  split at q
  · rename_i x y i'
    obtain ⟨c, j, rfl, rfl, q⟩ := q
    obtain ⟨v, w, rfl, j1, j2⟩ := ii.two
    refine ⟨_, _, _, i.str.1, by rw [j1.str.1, j2.int], ?_⟩
    rw [find3_S]
    unfold plI at q
    cases e : findC x c j with
    | none => rw [e] at q; exact Wn.int h q
    | some k => rw [e] at q; exact Wn.int h q
  · exact q.elim
theorem at_S1 {x : List Nat} {c k hi : Nat} (hh : hi ≤ x.length) : StrLaws.At (S x) (S [c]) hi k ↔ k < hi ∧ x[k]? = some c := by
  rw [at_two hh, List.getElem?_take]
  by_cases h : k < hi
  · rw [if_pos h]; simp [h]
  · rw [if_neg h]; simp [h]
theorem rfind4_S (x : List Nat) (c i : Nat) : Txt.rfindIn (S x) (S [c]) 0 i = match rfindC x c i with | some k => (k : Nat) | none => -1 := by
  unfold Txt.rfindIn
  have e1 : fromIndex (S x).length (0 : Int) = 0 := by unfold fromIndex; rw [if_neg (by omega)]; rfl
  have e2 : toIndexW (S x).length (i : Int) = min i x.length := by unfold toIndexW; rw [if_neg (by omega), S_len]; omega
  rw [e1, e2, StrLaws.last_eq]
  have hh : min i x.length ≤ x.length := Nat.min_le_right _ _
  generalize hm : min i x.length = hi at hh
  have key := StrLaws.last_run (S x) (S [c]) hi (List.range' 0 (hi + 1 - 0)) [] none (fun _ h => nomatch h) (fun _ h => nomatch h) (by simpa using List.pairwise_lt_range' (s := 0) (n := hi + 1 - 0))
  have mem : ∀ i, StrLaws.At (S x) (S [c]) hi i → i ∈ [] ++ List.range' 0 (hi + 1 - 0) := fun i h => by have := h.1; simp [List.mem_range'] <;> omega
  cases hr : (forIn (List.range' 0 (hi + 1 - 0)) none (StrLaws.lastBody (S x) (S [c]) hi)).run with
  | none =>
    rw [hr] at key
    have : rfindC x c i = none := by
      unfold rfindC
      rw [hm, List.find?_eq_none]
      intro k hk z
      have hk := List.mem_range.mp (List.mem_reverse.mp hk)
      have z := (at_S1 hh).mpr ⟨hk, of_decide_eq_true z⟩
      exact key k (mem k z) z
    rw [this]
  | some a =>
    rw [hr] at key
    have ha := (at_S1 hh).mp key.1
    have : rfindC x c i = some a := by
      unfold rfindC
      rw [hm, List.find?_eq_some_iff_getElem]
      refine ⟨decide_eq_true ha.2, hi - 1 - a, by simp; omega, by simp; omega, fun j hj => ?_⟩
      rw [List.getElem_reverse, List.getElem_range, Bool.not_eq_true', decide_eq_false_iff_not, List.length_range]
      intro z
      have z := (at_S1 hh).mpr ⟨(show hi - 1 - j < hi by omega), z⟩
      exact key.2 _ (mem _ z) (by omega) z
    rw [this]
def gSRFind3 : FM := fun o ds Q => match o, ds with
  | .str x, [.str y, .int l, .int i] => ∃ (c j : Nat), y = [c] ∧ l = 0 ∧ i = j ∧ Q (.int (plI (rfindC x c j)))
  | _, _ => False
theorem mo_gSRFind3 : MoM gSRFind3 := fun o a Q Q' h q => by
  unfold gSRFind3 at q ⊢
  split at q
  · obtain ⟨c, j, e1, e0, e2, q⟩ := q
    exact ⟨c, j, e1, e0, e2, h _ q⟩
  · exact q
def rSRFind3 : V → List V → Hp → VK → Prop := fun x xs H Q => ∃ (a b : Str) (i j : Int), x = .str a ∧ xs = [.str b, .int i, .int j] ∧ Q (.int (Txt.rfindIn a b i j)) H
theorem m_srfind3 {K : Fg0} {X : Cx} : MR K X "str.rfind" rSRFind3 gSRFind3 := by
  refine ⟨mt_rfind4, fun M m H x vs d ds Q h i ii q => ?_, mo_gSRFind3⟩
  unfold gSRFind3 at q
  split at q
  · rename_i x y l i'
    obtain ⟨c, j, rfl, rfl, rfl, q⟩ := q
    cases ii with
    | cons j1 t1 =>
      cases t1 with
      | cons j2 t2 =>
        cases t2 with
        | cons j3 t3 =>
          cases t3
          refine ⟨_, _, _, _, i.str.1, by rw [j1.str.1, j2.int, j3.int], ?_⟩
          rw [rfind4_S]
          unfold plI at q
          cases e : rfindC x c j with
          | none => rw [e] at q; exact Wn.int h q
          | some k => rw [e] at q; exact Wn.int h q
  · exact q.elim

/-! ### x.extend(list) -/
def sExt (i : Nat) (f : FE) : FS := fun E ρ => exS (slL ρ i) fun xs => f ρ fun d => ∃ ys, d = .lst ys ∧ xs.length + ys.length ≤ sizeLine ∧ E.nx (ρ.set i (.ol (xs ++ ys)))
section
variable {K : Fg} {X : Cx} {x : Str} {e : Expr} {te : TE} {f : FE} {p apos cpos pos : Pos}
theorem d_ext (i : Nat) (h : DT K X e te f) (hN : X.N[i]? = some x := by rfl) (hv : Vis X.env.scope x := by first | exact Or.inl rfl | exact Or.inr (Or.inl rfl) | exact Or.inr (Or.inr rfl)) (hd : (x == ("__debug__" : Str)) = false := by decide)
    (hcd : (x == ("__classdict__" : Str)) = false := by decide) (hK : X.K = K := by rfl)
    (hs : swapsWith (.Call (.Attribute (.Name x p) "extend" apos) [e] [] cpos) none pos.line X.env = pure false := by rfl)
    (hbase : attributeBase (.Name x p) "extend" X.env (eval (.Name x p) X.env) = eval (.Name x p) X.env := by rfl)
    (hfew : ((backTo cpos (starEach [e] X.env)).all (fun x => !x.1) && (backToKw cpos (keywordEach [] X.env)).all (fun x => x.1.isSome)
      && decide ([e].length + ([] : List Keyword).length + (if ([] : List Keyword).isEmpty then 0 else 1) < 30)) = true := by rfl)
    (hline : (apos.endLine == cpos.line) = true := by rfl) (hst : starEach [e] X.env = (false, eval e X.env) :: starEach [] X.env := by rfl) (hplain : (backTo cpos (starEach [] X.env)).any (·.1) = false := by rfl) :
    DS K X (.Expr (.Call (.Attribute (.Name x p) "extend" apos) [e] [] cpos) pos) (tDrop (tBM K "list" rExtend (tVar i) (tCons te tNil))) (sExt i f) := by
  obtain ⟨K, stK⟩ := K
  replace hK : X.K = K := hK
  subst hK
  refine ⟨ps_expr (pe_bm PySem.F.plainAttrs_list PySem.F.slot_list_extend PySem.F.type_list_extend mt_extend (pe_var hN hv hd hcd) (pa_cons h.pe pa_nil hst) hbase hfew hline hst hplain) hs, fun M H0 z m H σ ρ W E I c q => ?_⟩
  obtain ⟨xs, e0', q⟩ := q
  have e0 := slL_of e0'
  obtain ⟨p, vs, e1, e2, ia, mp, nw, n0, zl⟩ := I.slot i _ e0
  refine ⟨.ref p, e1, .inl ⟨rfl, vs, .of e2⟩, ?_⟩
  refine h.rd M H0 z m H σ ρ _ I (h.mo ρ _ _ (fun d q' v H' s iv => ?_) q)
  obtain ⟨ys, rfl, hl, q'⟩ := q'
  obtain ⟨b, ws, rfl, hb, iw, zw⟩ := iv.lst
  have e2' := s.keep p _ nw e2
  have ia' := ia.mono (I.same s)
  refine ⟨p, b, vs, ws, rfl, rfl, e2', hb, by rw [ia.length, iw.length]; exact hl, ?_⟩
  obtain ⟨I', f'⟩ := (I.step s).wrL e0 e1 (ia'.append iw) (by rw [List.length_append]; exact hl)
  exact c.nx m σ _ _ I' ((I.fw s).trans f') q'
end
/-! ### list(range(n)) -/
def lRg (f : FE) : FA := fun ρ Q => f ρ fun d => ∃ n : Nat, d = .int n ∧ n ≤ 16777216 ∧ Q ((List.range n).map fun i : Nat => D.int i)
section
variable {K : Fg} {X : Cx} {e : Expr} {te : TE} {f : FE} {p p2 pos pos2 : Pos}
theorem l_rg1 (hc : X.calm = true) (hm : X.mg "list" = none) (hm2 : X.mg "range" = none) (h : DT K X e te f) (hg : Gl X "list" := by rfl) (hg2 : Gl X "range" := by rfl)
    (na : starEach [e] X.env = (false, eval e X.env) :: starEach [] X.env := by rfl) (nb : starEach [.Call (.Name "range" p2) [e] [] pos2] X.env = (false, eval (.Call (.Name "range" p2) [e] [] pos2) X.env) :: starEach [] X.env := by rfl) :
    DF K X (.Call (.Name "list" p) [.Call (.Name "range" p2) [e] [] pos2] [] pos) (tLstRg (tRg1 te)) (lRg f) := by
  refine ⟨pe_listRg hc hg hm (prg_1 hg2 hm2 h.pe na) nb, fun M H0 z m H σ ρ Q I q => ?_, fun ρ Q Q' hq q => h.mo ρ _ _ (fun d ⟨n, e1, e2, q⟩ => ⟨n, e1, e2, hq _ q⟩) q⟩
  refine h.rd M H0 z m H σ ρ _ I (h.mo ρ _ _ (fun d q v H1 s i => ?_) q)
  obtain ⟨n, rfl, hn, q⟩ := q
  refine ⟨n, i.int, ⟨by omega, by omega, by omega, by omega, by omega⟩, fun q' nq => ?_⟩
  have h1 := I.hx.step s
  have s2 : Stp M H1 (upd H1 q' (.lst (rgV 0 n))) := .new h1.ok nq
  refine q q' _ _ (s.trans s2) ?_ upd_same ?_ (by rw [List.length_map, List.length_range, sizeLine_eq]; exact hn)
  · cases e : H q' with
    | none => rfl
    | some o => exact absurd nq (s.there q' (by rw [e]; exact fun q => nomatch q))
  · have : ∀ l : List Nat, IsA K M (hid (fun b => m b ∨ b = q') (upd H1 q' (.lst (rgV 0 n)))) (l.map fun i : Nat => V.int ((0 : Int) + (i : Nat))) (l.map fun i : Nat => D.int i) := fun l => by
      induction l with
      | nil => exact .nil
      | cons a l ih => rw [List.map_cons, List.map_cons, Int.zero_add]; exact .cons (.int _) ih
    have e : rgV 0 (n : Int) = (List.range n).map fun i : Nat => V.int ((0 : Int) + (i : Nat)) := by
      unfold rgV
      rw [show ((n : Int) - 0).toNat = n by omega]
    rw [e]
    rw [e] at this
    exact this _
end
end Pl

namespace PySem
open Sem (wp)
open Builtin Builtin.Str
section
variable {prog : Program} {w : World} {A : Around} {E : Value → Shared → Prop} {s : Shared}
theorem plEnd {e it : Addr} {i : Int} {old : Value} {Q : Option Value → Shared → Prop} (he : IsEnum s.heap e it i old)
    (hd : ∀ (Q' : Value → Shared → Prop) (E' : Value → Shared → Prop), (∀ h' x, Heap.ExtBut it s.heap h' → (∃ o, h'.get? x = some o ∧ o.cls = .type "StopIteration") → E' (.ref x) { s with heap := h' }) → wpAny (model prog w) A.in1 (Builtin.SmallTypes.nextOf (.ref it)) Q' E' s)
    (hQ : ∀ h', Heap.ExtBut it s.heap h' → Q none { s with heap := h' }) : wpAny (model prog w) A (pyNext (.ref e)) Q E s := by
  have hT : s.TypeIs (.ref e) "enumerate" := ⟨_, he, rfl⟩
  unfold pyNext
  refine wpAny_bind (wpAny_attempt (wpAny_callSpecial?_slot (name := Str.ofString "__next__") hT F.slot_enumerate_next
    (wpAny_call_entry F.slot_enumerate_next hT F.entry_enumerate_next ?_ (F.args_enumerate_next_1 _))))
  show wpAny _ _ (field (.ref e) 2 >>= _) _ _ _
  refine wpAny_bind (wpAny_field he rfl (x := .ref it) rfl ?_)
  refine wpAny_bind (hd _ _ fun h' x he' hx' => ?_)
  obtain ⟨o, ho, hc⟩ := hx'
  refine wpAny_bind (wpAny_isInstance (T := "StopIteration") (b := true) ⟨o, ho, hc⟩ isSubtype_stop ?_)
  exact wpAny_pure (hQ _ he')
end
set_option maxHeartbeats 1000000 in
theorem plNew {v : Value} {o : Obj} {H : Heap → Prop} (B : Begins v o H) :
    Meets (Builtin.«enumerate.__new__» ⟨[.type "enumerate", v], []⟩) (fun _ R s => H s.heap ∧
      R (.ok (.ret (.ref (s.heap.push o).objs.size))) { s with heap := (s.heap.push o).push { cls := .type "enumerate", data := .fields #[.none, .bool false, .ref s.heap.objs.size, rawInt 0, .none, .none] } }) :=
  .of_wp fun prog w A R s h => by
    obtain ⟨hp, g, d, tk, os⟩ := s; obtain ⟨h1, h⟩ := h
    have hsub := sub_enumerate
    have q1 : ∀ {A' : Around} {E : Value → Shared → Prop} {Q : Value → Shared → Prop}, Q (.ref hp.objs.size) ⟨hp.push o, g, d, tk, os⟩ → wpAny (model prog w) A' (pyIter v) Q E ⟨hp, g, d, tk, os⟩ :=
      fun q => B.iter prog w _ _ ⟨hp, g, d, tk, os⟩ _ h1 q
    wp_walk using q1
    refine wpAny_stack_any fun st => wpAny_pure ?_
    split
    · rename_i c _ _ _ _ _
      cases (c == Value.type "enumerate")
      · wp_walk using q1
        exact ⟨_, rfl, h⟩
      · wp_walk using q1
        exact ⟨_, rfl, h⟩
    · wp_walk using q1
      exact ⟨_, rfl, h⟩
section
variable {prog : Program} {w : World} {A : Around} {E : Value → Shared → Prop} {s : Shared}
theorem plBegins {v : Value} {o : Obj} {H : Heap → Prop} {Q : Value → Shared → Prop} (B : Begins v o H) (h1 : H s.heap)
    (h : ∀ h', IsEnum h' (s.heap.objs.size + 1) s.heap.objs.size 0 .none → h'.get? s.heap.objs.size = some o → h'.objs.size = s.heap.objs.size + 2 →
      (∀ b o, s.heap.get? b = some o → h'.get? b = some o) → Q (.ref (s.heap.objs.size + 1)) { s with heap := h' }) :
    wpAny (model prog w) A (call (.type "enumerate") [v]) Q E s := by
  refine callType_new F.called_enumerate (by decide) (F.typeCall_enumerate_1 _) (F.newCall_enumerate_1 _) (fun obj => F.args_object_init_2 obj _) F.entry_enumerate_new
    (plNew B) ⟨h1, ?_⟩
  have hz : (s.heap.push o).objs.size = s.heap.objs.size + 1 := Heap.size_push ..
  show _ ∧ _
  rw [hz]
  have he : IsEnum ((s.heap.push o).push { cls := .type "enumerate", data := .fields #[.none, .bool false, .ref s.heap.objs.size, rawInt 0, .none, .none] }) (s.heap.objs.size + 1) s.heap.objs.size 0 .none := by
    have := Heap.get?_push_size (s.heap.push o) (o := { cls := .type "enumerate", data := .fields #[.none, .bool false, .ref s.heap.objs.size, rawInt 0, .none, .none] }) rfl
    rw [hz] at this; exact this
  refine ⟨⟨_, he, rfl⟩, h _ he (Heap.get?_push_of_some _ (Heap.get?_push_size _ B.free)) (by rw [Heap.size_push, hz]) fun b o x => Heap.get?_push_of_some _ (Heap.get?_push_of_some _ x)⟩
end
end PySem
namespace Pl
open PySem PySem.Spec PyProof.Rows L2
/-! ### enumerate of a tuple, of a text -/
def IteT (K : Fg0) (a : Addr) : It :=
  ⟨fun i H => ∃ (xs : List V) (x : V), SqT K H a xs ∧ xs[i]? = some x, fun i H v H' => ∃ T x, v = .ref T ∧ H T = none ∧ H' = upd H T (.tup [.int (i : Nat), x]) ∧ ∀ xs, SqT K H a xs → xs[i]? = some x, fun i H => ∃ xs : List V, SqT K H a xs ∧ xs.length ≤ i⟩
def IteS (x : Str) : It :=
  ⟨fun i H => i < x.cps.size, fun i H v H' => ∃ T c, v = .ref T ∧ H T = none ∧ H' = upd H T (.tup [.int (i : Nat), .str ⟨#[c]⟩]) ∧ x.cps[i]? = some c, fun i H => x.cps.size ≤ i⟩
theorem turn_enumT {P : Program} {w : World} {K : Fg0} {elts : List Expr} {kk : Nat} {tpos : Pos} (a e it : Addr) :
    Turn P w K (.Tuple elts kk tpos) (IteT K a) [e, it] e (fun i h => (∃ old, IsEnum h e it ((i : Nat) : Int) old) ∧ h.IsTupleIter it a i ∧ e ≠ it) where
  mem := by simp
  obj := fun i h st b hb => by
    obtain ⟨⟨old, he⟩, ⟨o, ho, hc, hd⟩, _⟩ := st
    have e' : b = e ∨ b = it := by simpa using hb
    rcases e' with z | z
    · rw [z]; exact ⟨_, he, fun v q => nomatch q⟩
    · rw [z]; exact ⟨o, ho, fun v q => by rw [hd] at q; cases q⟩
  keep := fun i h h' st k => let ⟨⟨old, he⟩, hi, hne⟩ := st; ⟨⟨old, k e (by simp) _ he⟩, hi.at fun o q => k it (by simp) o q, hne⟩
  item := by
    intro X hP hw hK hc i pins s σ H E I hf st hg
    subst hP hw hK
    obtain ⟨⟨old, he⟩, hit, hne⟩ := st
    obtain ⟨xs, x, hq, hx⟩ := hg
    obtain ⟨its, rv, p, hz⟩ := I.tuple hq
    obtain ⟨u, hu, ru⟩ := rv.get hx
    have pt : s.heap.IsTuple a its.toArray := p
    have hel : e < s.heap.objs.size := Heap.lt_size he
    have hil : it < s.heap.objs.size := by obtain ⟨_, q, _⟩ := hit; exact Heap.lt_size q
    have hne2 : a ≠ it := fun z => by
      subst z
      obtain ⟨o, ho, hc1, hd1⟩ := id hit
      obtain ⟨o2, ho2, hc2, _⟩ := id pt
      rw [ho] at ho2; cases ho2
      rw [hc1] at hc2; exact absurd hc2 (by decide)
    have hne3 : e ≠ a := fun z => by
      subst z
      obtain ⟨o2, ho2, hc2, _⟩ := id pt
      have he' : s.heap.get? e = some _ := he
      rw [he'] at ho2; cases ho2
      exact absurd (show Value.type "enumerate" = Value.type "tuple" from hc2) (by decide)
    refine wpAny_pyNext_enum_itemD (Draws.tuple (A := X.A.in1) (show X.A.in1.handled = none from I.ok.hd hc) it a hne2 its.toArray) he ⟨hit, pt⟩ (by have := (List.getElem?_eq_some_iff.mp hu).1; simpa using this) hne (by simp [hne, hne3]) fun u' h' tk hP ho hit' hT hsz hk => ?_
    have hu' : its.toArray[i]? = some u' := hP
    have eu : u' = u := by simpa [hu] using hu'.symm
    subst eu
    refine ⟨_, rfl, wpAny_letOwnedTupleGo_enum (s := { s with heap := h', toks := tk + 1 }) ho fun h'' he' sb => ?_⟩
    have hT2 : h''.get? s.heap.objs.size = some { cls := .type "tuple", data := .seq #[.int i tk, u'] } := (sb.2 _ (Nat.ne_of_gt hel)).trans hT
    have new : ObjOk X.prog X.w (upd H s.heap.objs.size (.tup [.int (i : Nat), x])) h'' s.heap.objs.size (.tup [.int (i : Nat), x]) :=
      ⟨by show 2 ≤ sizeLine; decide, [.int i tk, u'], .cons ⟨_, rfl⟩ (.cons ru .nil), ⟨_, hT2, rfl, _, rfl⟩⟩
    have I1 : Inv X pins σ (upd H s.heap.objs.size (.tup [.int (i : Nat), x])) { s with heap := h'', toks := tk + 1 } :=
      I.turnedNew (ch := [e, it]) (fun b ob hb q => (sb.2 b (fun z => hb (by simp [z]))).trans (hk b ob (fun z => hb (by simp [z])) (fun z => hb (by simp [z])) q)) hf (Nat.le_refl _) new
    refine ⟨.ref s.heap.objs.size, _, I1, rfl, ⟨_, x, rfl, I.hok.fresh (Nat.le_refl _), rfl, fun ys hy => by rw [I.tuple_inj hy hq]; exact hx⟩, ⟨⟨u', ?_⟩, hit'.1.at fun o q => (sb.2 it (Ne.symm hne)).trans q, hne⟩, fun b hb => ?_⟩
    · have e1 : ((i + 1 : Nat) : Int) = (i : Int) + 1 := by omega
      rw [e1]; exact he'
    · have hb' : b < s.heap.objs.size := by
        have e' : b = e ∨ b = it := by simpa using hb
        rcases e' with z | z
        · rw [z]; exact hel
        · rw [z]; exact hil
      rw [upd_ne (Nat.ne_of_lt hb')]
      exact (hf b hb).1
  done := by
    intro X hP hw hK hc i pins s σ H E I hf st hg
    subst hP hw hK
    obtain ⟨⟨old, he⟩, hit, hne⟩ := st
    obtain ⟨xs, hq, hx⟩ := hg
    obtain ⟨its, rv, p, hz⟩ := I.tuple hq
    obtain ⟨f0, f1, f2, f3, f4, f5⟩ := hf it (by simp)
    have hl := rv.length
    refine plEnd he (fun Q' E' h => wpAny_nextOf_tuple_end (show X.A.in1.handled = none from I.ok.hd hc) hit (show s.heap.IsTuple a its.toArray from p) (by simp; omega) h) fun h' eb => ⟨rfl, I.turned (t' := s.toks) (fun b o hb q => eb b o hb q) f0 f1 f3 f4 f5⟩
  self := fun A i s Q E st h => let ⟨⟨_, he⟩, _⟩ := st; wpAny_pyIter_enum he h
theorem turn_enumS {P : Program} {w : World} {K : Fg0} {elts : List Expr} {kk : Nat} {tpos : Pos} (x : Str) (t : Tok) (e it : Addr) :
    Turn P w K (.Tuple elts kk tpos) (IteS x) [e, it] e (fun i h => (∃ old, IsEnum h e it ((i : Nat) : Int) old) ∧ h.IsStrIter it (strIterType x) x t i ∧ e ≠ it) where
  mem := by simp
  obj := fun i h st b hb => by
    obtain ⟨⟨old, he⟩, ⟨o, ho, hc, hd⟩, _⟩ := st
    have e' : b = e ∨ b = it := by simpa using hb
    rcases e' with z | z
    · rw [z]; exact ⟨_, he, fun v q => nomatch q⟩
    · rw [z]; exact ⟨o, ho, fun v q => by rw [hd] at q; cases q⟩
  keep := fun i h h' st k => let ⟨⟨old, he⟩, ⟨o, ho, r⟩, hne⟩ := st; ⟨⟨old, k e (by simp) _ he⟩, ⟨o, k it (by simp) o ho, r⟩, hne⟩
  item := by
    intro X hP hw hK hc i pins s σ H E I hf st hg
    subst hP hw hK
    obtain ⟨⟨old, he⟩, hit, hne⟩ := st
    have hel : e < s.heap.objs.size := Heap.lt_size he
    have hil : it < s.heap.objs.size := by obtain ⟨_, q, _⟩ := hit; exact Heap.lt_size q
    refine wpAny_pyNext_enum_itemD (Draws.text (A := X.A.in1) (show X.A.in1.handled = none from I.ok.hd hc) it x t) he hit hg hne (by simp [hne]) fun u' h' tk hP ho hit' hT hsz hk => ?_
    obtain ⟨c, tu, hcx, rfl⟩ := hP
    refine ⟨_, rfl, wpAny_letOwnedTupleGo_enum (s := { s with heap := h', toks := tk + 1 }) ho fun h'' he' sb => ?_⟩
    have hT2 : h''.get? s.heap.objs.size = some { cls := .type "tuple", data := .seq #[.int i tk, .str ⟨#[c]⟩ tu] } := (sb.2 _ (Nat.ne_of_gt hel)).trans hT
    have new : ObjOk X.prog X.w (upd H s.heap.objs.size (.tup [.int (i : Nat), .str ⟨#[c]⟩])) h'' s.heap.objs.size (.tup [.int (i : Nat), .str ⟨#[c]⟩]) :=
      ⟨by show 2 ≤ sizeLine; decide, [.int i tk, .str ⟨#[c]⟩ tu], .cons ⟨_, rfl⟩ (.cons ⟨_, rfl⟩ .nil), ⟨_, hT2, rfl, _, rfl⟩⟩
    have I1 : Inv X pins σ (upd H s.heap.objs.size (.tup [.int (i : Nat), .str ⟨#[c]⟩])) { s with heap := h'', toks := tk + 1 } :=
      I.turnedNew (ch := [e, it]) (fun b ob hb q => (sb.2 b (fun z => hb (by simp [z]))).trans (hk b ob (fun z => hb (by simp [z])) (fun z => hb (by simp [z])) q)) hf (Nat.le_refl _) new
    refine ⟨.ref s.heap.objs.size, _, I1, rfl, ⟨_, c, rfl, I.hok.fresh (Nat.le_refl _), rfl, hcx⟩, ⟨⟨.str ⟨#[c]⟩ tu, ?_⟩, ?_, hne⟩, fun b hb => ?_⟩
    · have e1 : ((i + 1 : Nat) : Int) = (i : Int) + 1 := by omega
      rw [e1]; exact he'
    · obtain ⟨o, ho2, r⟩ := hit'
      exact ⟨o, (sb.2 it (Ne.symm hne)).trans ho2, r⟩
    · have hb' : b < s.heap.objs.size := by
        have e' : b = e ∨ b = it := by simpa using hb
        rcases e' with z | z
        · rw [z]; exact hel
        · rw [z]; exact hil
      rw [upd_ne (Nat.ne_of_lt hb')]
      exact (hf b hb).1
  done := by
    intro X hP hw hK hc i pins s σ H E I hf st hg
    subst hP hw hK
    obtain ⟨⟨old, he⟩, hit, hne⟩ := st
    obtain ⟨f0, f1, f2, f3, f4, f5⟩ := hf it (by simp)
    have hn : x.cps[i]? = none := Array.getElem?_eq_none hg
    refine plEnd he (fun Q' E' h => ?_) fun h' eb => ⟨rfl, I.turned (t' := s.toks) (fun b o hb q => eb b o hb q) f0 f1 f3 f4 f5⟩
    unfold strIterType at hit
    cases ha : x.cps.all (· < 128)
    · rw [ha] at hit
      exact wpAny_nextOf_wide_end (show X.A.in1.handled = none from I.ok.hd hc) hit hn h
    · rw [ha] at hit
      exact wpAny_nextOf_ascii_end (show X.A.in1.handled = none from I.ok.hd hc) hit hn h
  self := fun A i s Q E st h => let ⟨⟨_, he⟩, _⟩ := st; wpAny_pyIter_enum he h
def iEnumA (K : Fg0) (ta : TA) : TI := fun σ H R => ta σ H fun vs H1 => (∃ a xs, vs = [.ref a] ∧ SqL K H1 a xs ∧ R (Ite K a) H1) ∨ (∃ a xs, vs = [.ref a] ∧ SqT K H1 a xs ∧ R (IteT K a) H1) ∨ ∃ x, vs = [.str x] ∧ R (IteS x) H1
theorem pi_enumA {X : Cx} {e : Expr} {ta : TA} {p pos tpos : Pos} {elts : List Expr} {kk : Nat} (hg : Gl X "enumerate") (hm : X.mg "enumerate" = none) (ha : PA X [e] ta) (hs : starEach [e] X.env = [(false, eval e X.env)] := by rfl) :
    PI X (.Tuple elts kk tpos) (.Call (.Name "enumerate" p) [e] [] pos) (iEnumA X.K ta) := by
  refine ⟨fun pins s σ H R I h => ?_⟩
  refine Call_ (ld_blt I hg hm boot_enumerate (PyProof.Rows.callWith_type1 (thn (ha.run pos pins s σ H _ I h) fun us s1 ⟨vs, H1, I1, r1, q1⟩ => ?_) hs rfl))
  have fp : ∀ b ∈ [s1.heap.objs.size + 1, s1.heap.objs.size], FpOk X pins H1 b := fun b hb => by
    have e' : b = s1.heap.objs.size + 1 ∨ b = s1.heap.objs.size := by simpa using hb
    have hle : s1.heap.objs.size ≤ b := by
      rcases e' with z | z
      · rw [z]; exact Nat.le_add_right _ _
      · rw [z]; exact Nat.le_refl _
    exact I1.fpOk hle (I1.hok.fresh hle)
  rcases q1 with ⟨a, xs, ex, hq, q⟩ | ⟨a, xs, ex, hq, q⟩ | ⟨x, ex, q⟩
  · subst ex
    cases r1 with
    | cons r rr =>
      cases rr
      cases r
      obtain ⟨its, rv, p', hz⟩ := I1.list hq
      refine call_enumerate_list p'.isList fun h' he hit hsz hk => wpAny_pyIter_enum he ?_
      have I2 : Inv X pins σ H1 { s1 with heap := h' } := I1.kept (t' := s1.toks) hk
      exact ⟨s1.heap.objs.size + 1, [s1.heap.objs.size + 1, s1.heap.objs.size], _, _, H1, rfl, I2, turn_enum a (s1.heap.objs.size + 1) s1.heap.objs.size, ⟨⟨.none, he⟩, hit, Nat.succ_ne_self _⟩, fp, q⟩
  · subst ex
    cases r1 with
    | cons r rr =>
      cases rr
      cases r
      obtain ⟨its, rv, p', hz⟩ := I1.tuple hq
      refine plBegins (begins_tuple a its.toArray) p' fun h' he hit hsz hk => wpAny_pyIter_enum he ?_
      have I2 : Inv X pins σ H1 { s1 with heap := h' } := I1.kept (t' := s1.toks) hk
      exact ⟨s1.heap.objs.size + 1, [s1.heap.objs.size + 1, s1.heap.objs.size], _, _, H1, rfl, I2, turn_enumT a (s1.heap.objs.size + 1) s1.heap.objs.size, ⟨⟨.none, he⟩, ⟨_, hit, rfl, rfl⟩, Nat.succ_ne_self _⟩, fp, q⟩
  · subst ex
    cases r1 with
    | cons r rr =>
      cases rr
      obtain ⟨t, rfl⟩ := r
      refine plBegins (begins_text x t) trivial fun h' he hit hsz hk => wpAny_pyIter_enum he ?_
      have I2 : Inv X pins σ H1 { s1 with heap := h' } := I1.kept (t' := s1.toks) hk
      exact ⟨s1.heap.objs.size + 1, [s1.heap.objs.size + 1, s1.heap.objs.size], _, _, H1, rfl, I2, turn_enumS x t (s1.heap.objs.size + 1) s1.heap.objs.size, ⟨⟨.none, he⟩, ⟨_, hit, rfl, rfl⟩, Nat.succ_ne_self _⟩, fp, q⟩
/-- the pairs -/
def enG : Nat → List D → List D
  | _, [] => []
  | k, d :: ds => .tup [.int (k : Nat), d] :: enG (k + 1) ds
theorem enG_get : ∀ {ds : List D} {k i : Nat} {d : D}, (enG k ds)[i]? = some d → ∃ x, ds[i]? = some x ∧ d = .tup [.int ((k + i : Nat) : Int), x]
  | [], _, _, _, h => by simp [enG] at h
  | x :: ds, k, 0, d, h => ⟨x, rfl, by simpa [enG] using h.symm⟩
  | x :: ds, k, i + 1, d, h => by
    obtain ⟨y, h1, h2⟩ := enG_get (ds := ds) (k := k + 1) (i := i) (by simpa [enG] using h)
    exact ⟨y, by simpa using h1, by rw [h2, show k + 1 + i = k + (i + 1) by omega]⟩
theorem enG_len : ∀ (ds : List D) (k : Nat), (enG k ds).length = ds.length
  | [], _ => rfl
  | x :: ds, k => by rw [enG, List.length_cons, List.length_cons, enG_len ds]
def enD (ds : List D) : List D := enG 0 ds
theorem enD_get {ds : List D} {i : Nat} {d : D} (h : (enD ds)[i]? = some d) : ∃ x, ds[i]? = some x ∧ d = .tup [.int (i : Nat), x] := by
  have := enG_get h
  rwa [Nat.zero_add] at this
/-- with what stands behind each item -/
theorem enD_map {α : Type} (mk : α → D) (l : List α) : enD (l.map mk) = l.zipIdx.map fun p => .tup [.int (p.2 : Nat), mk p.1] := by
  have : ∀ (l : List α) (k : Nat), enG k (l.map mk) = (l.zipIdx k).map fun p => .tup [.int (p.2 : Nat), mk p.1] := fun l => by
    induction l with
    | nil => intro k; rfl
    | cons a l ih => intro k; rw [List.map_cons, enG, List.zipIdx_cons, List.map_cons, ih]
  exact this l 0
section
variable {K : Fg} {M : Ml} {mm : Addr → Prop} {H' : Hp}
theorem go_en {K : Fg0} {J : It} {vs : List V} {ds : List D} (h : Hx M mm H') (k : IsA K M (hid mm H') vs ds)
    (hgo : ∀ (i : Nat) v, vs[i]? = some v → J.go i H') (hy : ∀ (i : Nat) v H'', J.yld i H' v H'' → ∃ T x, v = .ref T ∧ H' T = none ∧ H'' = upd H' T (.tup [.int (i : Nat), x]) ∧ vs[i]? = some x) (hst : J.stop vs.length H') :
    (∀ (i : Nat) d, (enD ds)[i]? = some d → J.go i H' ∧ ∀ v H'', J.yld i H' v H'' → Stp M H' H'' ∧ Is K M (hid mm H'') v d) ∧ J.stop (enD ds).length H' := by
  refine ⟨fun i d q => ?_, by rw [show (enD ds).length = ds.length from enG_len ds 0, ← k.length]; exact hst⟩
  obtain ⟨x, q1, rfl⟩ := enD_get q
  obtain ⟨v, e1, i1⟩ := k.get q1
  refine ⟨hgo i v e1, fun u H'' hu => ?_⟩
  obtain ⟨T, v', rfl, n, rfl, e2⟩ := hy i u H'' hu
  rw [e1] at e2; cases e2
  exact pair_new h n (.int _) i1
theorem go_enL {K : Fg0} {a : Addr} {vs : List V} {ds : List D} (h : Hx M mm H') (e : SqL K H' a vs) (k : IsA K M (hid mm H') vs ds) :
    (∀ (i : Nat) d, (enD ds)[i]? = some d → (Ite K a).go i H' ∧ ∀ v H'', (Ite K a).yld i H' v H'' → Stp M H' H'' ∧ Is K M (hid mm H'') v d) ∧ (Ite K a).stop (enD ds).length H' :=
  go_en h k (fun i v q => ⟨vs, v, e, q⟩) (fun i v H'' ⟨T, x, e1, n, e2, y⟩ => ⟨T, x, e1, n, e2, y vs e⟩) ⟨vs, e, Nat.le_refl _⟩
theorem go_enT {K : Fg0} {a : Addr} {vs : List V} {ds : List D} (h : Hx M mm H') (e : SqT K H' a vs) (k : IsA K M (hid mm H') vs ds) :
    (∀ (i : Nat) d, (enD ds)[i]? = some d → (IteT K a).go i H' ∧ ∀ v H'', (IteT K a).yld i H' v H'' → Stp M H' H'' ∧ Is K M (hid mm H'') v d) ∧ (IteT K a).stop (enD ds).length H' :=
  go_en h k (fun i v q => ⟨vs, v, e, q⟩) (fun i v H'' ⟨T, x, e1, n, e2, y⟩ => ⟨T, x, e1, n, e2, y vs e⟩) ⟨vs, e, Nat.le_refl _⟩
theorem go_enS {K : Fg0} {x : List Nat} (h : Hx M mm H') :
    (∀ (i : Nat) d, (enD (x.map fun c => D.str [c]))[i]? = some d → (IteS (S x)).go i H' ∧ ∀ v H'', (IteS (S x)).yld i H' v H'' → Stp M H' H'' ∧ Is K M (hid mm H'') v d) ∧ (IteS (S x)).stop (enD (x.map fun c => D.str [c])).length H' := by
  have k : IsA K M (hid mm H') (x.map fun c => V.str (S [c])) (x.map fun c => D.str [c]) := by
    induction x with
    | nil => exact .nil
    | cons a x ih => exact .cons (.str [a] (by show 1 ≤ sizeLine; decide)) ih
  have sz : (S x).cps.size = x.length := by simp [S]
  refine go_en h k (fun i v q => ?_) (fun i v H'' ⟨T, c, e1, n, e2, y⟩ => ⟨T, .str ⟨#[c]⟩, e1, n, e2, ?_⟩) ?_
  · show i < (S x).cps.size
    rw [sz]
    have := (List.getElem?_eq_some_iff.mp q).1
    simpa using this
  · have : (S x).cps[i]? = x[i]? := by simp [S]
    rw [this] at y
    rw [List.getElem?_map, y]; rfl
  · show (S x).cps.size ≤ _
    rw [sz, List.length_map]; exact Nat.le_refl _
end
def iEn (f : FA) : FI := fun ρ Q => f ρ fun ds => match ds with
  | [d] => exS (itms d) fun xs => Q (enD xs)
  | _ => False
theorem mo_iEn {f : FA} (h : MoA f) : MoA (iEn f) := fun ρ Q Q' k q => h ρ _ _ (fun ds q => by
  revert q
  split
  · exact fun q => exS_mo (fun x q => k _ q) q
  · exact fun q => q) q
section
variable {K : Fg} {X : Cx} {e1 : Expr} {elts : List Expr} {kk : Nat} {tpos p pos : Pos} {ta : TA} {fa : FA}
theorem i_enumeratec (hm : X.mg "enumerate" = none) (ha : DAT K X [e1] ta fa) (hK : X.K = K := by rfl) (hg : Gl X "enumerate" := by rfl) (hs : starEach [e1] X.env = [(false, eval e1 X.env)] := by rfl) :
    DIC K X (.Tuple elts kk tpos) (.Call (.Name "enumerate" p) [e1] [] pos) (iEnumA K ta) (iEn fa) := by
  obtain ⟨K, stK⟩ := K
  replace hK : X.K = K := hK
  subst hK
  refine ⟨pi_enumA hg hm ha.pa hs, fun M H0 z m H σ ρ R I q => ha.rd M H0 z m H σ ρ _ I (ha.mo ρ _ _ (fun ds q vs H1 s1 i1 => ?_) q), mo_iEn ha.mo⟩
  have hx := I.hx.step s1
  revert q
  split
  · rename_i d
    rintro ⟨xs, ex, q⟩
    obtain ⟨v, rfl, i⟩ := i1.one
    cases d with
    | lst ys =>
      cases ex
      obtain ⟨a, vs, rfl, r1, k1, z1, n1⟩ := i.lstC
      exact .inl ⟨a, vs, rfl, .of r1, q _ H1 s1 (fun m' H' s2 fw hx' => go_enL hx' (.of (keepL s2 fw n1 r1)) (k1.mono fw.same)) (by rw [show (enD xs).length = xs.length from enG_len xs 0]; exact z1)⟩
    | tup ys =>
      cases ex
      obtain ⟨a, vs, rfl, _, k1, r1, z1⟩ := i.tup
      exact .inr (.inl ⟨a, vs, rfl, same_sqT hid_all r1, q _ H1 s1 (fun m' H' s2 fw hx' => go_enT hx' (same_sqT hid_all (same_sqT fw.same r1)) (k1.mono fw.same)) (by rw [show (enD xs).length = xs.length from enG_len xs 0]; exact z1)⟩)
    | str y =>
      cases ex
      obtain ⟨rfl, z⟩ := i.str
      exact .inr (.inr ⟨_, rfl, q _ H1 s1 (fun m' H' s2 fw hx' => go_enS hx') (by rw [show (enD (y.map fun c => D.str [c])).length = (y.map fun c => D.str [c]).length from enG_len _ 0, List.length_map]; exact z)⟩)
    | scr y =>
      cases ex
      obtain ⟨a, rfl, r, r1⟩ := i.scr
      have zz : y.length ≤ 63 := by
        rcases i with i | ⟨p, vs, ds, e1, e2, _⟩ | ⟨p, vs, ds, e1, e2, _⟩
        · cases i with | scr _ h => exact h
        · cases e2
        · cases e2
      exact .inl ⟨a, _, rfl, r, q _ H1 s1 (fun m' H' s2 fw hx' => go_enL hx' (same_sqL hid_all (same_sqL fw.same r1)) .ofInts) (by rw [show (enD (y.map D.int)).length = (y.map D.int).length from enG_len _ 0, List.length_map]; exact Nat.le_trans zz (by decide))⟩
    | non => cases ex
    | bl _ => cases ex
    | int _ => cases ex
    | dk _ => cases ex
    | ml _ => cases ex
  · exact fun q => q.elim
theorem i_enumeratef (hm : X.mg "enumerate" = none) (ha : DA K X [e1] ta fa) (hK : X.K = K := by rfl) (hg : Gl X "enumerate" := by rfl) (hs : starEach [e1] X.env = [(false, eval e1 X.env)] := by rfl) :
    DIF K X (.Tuple elts kk tpos) (.Call (.Name "enumerate" p) [e1] [] pos) (iEnumA K ta) (iEn fa) := by
  obtain ⟨K, stK⟩ := K
  replace hK : X.K = K := hK
  subst hK
  refine ⟨pi_enumA hg hm ha.pa hs, fun M H0 z m H σ ρ R I q => ha.rd M H0 z m H σ ρ _ I (ha.mo ρ _ _ (fun ds q vs H1 s1 i1 => ?_) q), mo_iEn ha.mo⟩
  have hx := I.hx.step s1
  revert q
  split
  · rename_i d
    rintro ⟨xs, ex, q⟩
    cases i1 with
    | cons i i1 =>
      cases i1
      cases i with
      | lst r k zz =>
        cases ex
        obtain ⟨n, r'⟩ := hid_some r
        exact .inl ⟨_, _, rfl, .of r', q _ H1 s1 fun m' H' fw hx' => go_enL hx' (.of (fw.keep _ _ n r').1) (k.mono fw.same)⟩
      | tup r k zz =>
        cases ex
        exact .inr (.inl ⟨_, _, rfl, same_sqT hid_all r, q _ H1 s1 fun m' H' fw hx' => go_enT hx' (same_sqT hid_all (same_sqT fw.same r)) (k.mono fw.same)⟩)
      | str x zz =>
        cases ex
        exact .inr (.inr ⟨_, rfl, q _ H1 s1 fun m' H' fw hx' => go_enS hx'⟩)
      | scr r zz =>
        cases ex
        exact .inl ⟨_, _, rfl, same_sqL hid_all r, q _ H1 s1 fun m' H' fw hx' => go_enL hx' (same_sqL hid_all (same_sqL fw.same r)) .ofInts⟩
      | non => cases ex
      | bl _ => cases ex
      | int _ => cases ex
      | dk _ _ => cases ex
      | ml _ => cases ex
  · exact fun q => q.elim
end
end Pl

namespace HT
open PySem PySem.Spec PyProof.Rows
section
variable {prog : Program} {w : World} {A : Around} {E : Value → Shared → Prop} {s : Shared}
theorem plRevApplied {sl : Addr} {vl vu vs : Value} {n : Nat} {Q : Int × Int × Nat → Shared → Prop} (hs : s.heap.IsSliceOf sl vl vu vs) (pl : IsPart vl none) (pu : IsPart vu none) (ps : IsPart vs (some (-1)))
    (h : Q ((n : Int) - 1, -1, n) s) : wpAny (model prog w) A (Builtin.Slice.sliceApplied (.ref sl) (pure (n : Int))) Q E s := by
  obtain ⟨os, hos, hcs, hds⟩ := id hs
  unfold Builtin.Slice.sliceApplied Builtin.Slice.sliceFields
  refine wpAny_bind (wpAny_bind (wpAny_field hos hds (x := vl) rfl (wpAny_bind (wpAny_field hos hds (x := vu) rfl (wpAny_bind (wpAny_field hos hds (x := vs) rfl (wpAny_pure ?_)))))))
  refine wpAny_bind (slicePart_ ps ?_)
  show wpAny _ _ (if ((-1 : Int) == 0) = true then _ else _) _ _ s
  rw [if_neg (by decide)]
  refine wpAny_bind (slicePart_ pl (wpAny_bind (slicePart_ pu (wpAny_bind (wpAny_pure ?_)))))
  show wpAny _ _ (match Builtin.Slice.sliceAdjust none none (-1) (n : Int) with | (lo, hi) => pure (lo, (-1 : Int), Builtin.Slice.slicePlaces lo hi (-1))) _ _ s
  have e1 : Builtin.Slice.sliceAdjust none none (-1) (n : Int) = ((n : Int) - 1, -1) := rfl
  rw [e1]
  have e2 : Builtin.Slice.slicePlaces ((n : Int) - 1) (-1) (-1) = n := by
    unfold Builtin.Slice.slicePlaces
    rw [if_neg (by decide)]
    by_cases z : (n : Int) - 1 > -1
    · rw [if_pos z, show -(-1 : Int) = 1 by rfl, Int.ediv_one]; omega
    · rw [if_neg z]; omega
  show wpAny _ _ (pure ((n : Int) - 1, (-1 : Int), Builtin.Slice.slicePlaces ((n : Int) - 1) (-1) (-1))) _ _ s
  rw [e2]
  exact wpAny_pure h
theorem plRevPick (xs : Array Value) : ((List.range xs.size).filterMap fun (m : Nat) => xs[(((xs.size : Int) - 1) + (m : Int) * -1).toNat]?).toArray = xs.toList.reverse.toArray := by
  congr 1
  have e : (fun (m : Nat) => xs[(((xs.size : Int) - 1) + (m : Int) * -1).toNat]?) = fun (m : Nat) => xs.toList[(((xs.size : Int) - 1) + (m : Int) * -1).toNat]? := by
    funext m
    rw [Array.getElem?_toList]
  rw [e]
  have hz : xs.size = xs.toList.length := by rw [Array.length_toList]
  rw [hz]
  generalize xs.toList = l
  have : (List.range l.length).filterMap (fun (m : Nat) => l[(((l.length : Int) - 1) + (m : Int) * -1).toNat]?) = (List.range l.length).filterMap fun m => l.reverse[m]? := by
    have cg : ∀ (f g : Nat → Option Value) (r : List Nat), (∀ m ∈ r, f m = g m) → r.filterMap f = r.filterMap g := fun f g r h => by
      induction r with
      | nil => rfl
      | cons a r ih => rw [List.filterMap_cons, List.filterMap_cons, h a List.mem_cons_self, ih fun m hm => h m (List.mem_cons_of_mem _ hm)]
    refine cg _ _ _ fun m hm => ?_
    have hm := List.mem_range.mp hm
    rw [List.getElem?_reverse hm]
    congr 1
    omega
  rw [this]
  have h2 : ∀ (r p : List Value), (List.range' p.length r.length).filterMap (fun m => (p ++ r)[m]?) = r := fun r => by
    induction r with
    | nil => intro p; rfl
    | cons a r ih =>
      intro p
      rw [List.length_cons, List.range'_succ, List.filterMap_cons]
      have e1 : (p ++ a :: r)[p.length]? = some a := by simp
      rw [e1]
      have := ih (p ++ [a])
      rw [List.length_append, List.length_singleton, List.append_assoc] at this
      show a :: _ = _
      rw [show p ++ a :: r = p ++ ([a] ++ r) by simp, this]
  have := h2 l.reverse []
  rw [List.nil_append, List.length_nil, ← List.range_eq_range'] at this
  rwa [List.length_reverse] at this
theorem plRevTup {t sl : Addr} {items : Array Value} {vl vu vs : Value} {Q : Value → Shared → Prop} (ht : IsTup s.heap t items) (hs : s.heap.IsSliceOf sl vl vu vs) (pl : IsPart vl none) (pu : IsPart vu none) (ps : IsPart vs (some (-1)))
    (h : Q (.ref s.heap.objs.size) { s with heap := s.heap.push { cls := .type "tuple", data := .seq items.toList.reverse.toArray } })
    (hsz : items.size ≤ sizeLine) : wpAny (model prog w) A (getItem (.ref t) (.ref sl)) Q E s := by
  have htake : sizeOk (.seq items.toList.reverse.toArray) := by
    show items.toList.reverse.toArray.size ≤ sizeLine
    rw [List.size_toArray, List.length_reverse, Array.length_toList]
    exact hsz
  obtain ⟨os, hos, hcs, hds⟩ := id hs
  have hTs : s.TypeIs (.ref sl) "slice" := ⟨os, hos, hcs⟩
  unfold getItem
  try with_reducible refine wpAny_holding ?_
  first | refine wpAny_bind (wpAny_pure ?_) | skip
  refine wpAny_bind (wpAny_sequenceKey ht.typeIs (by decide) ?_)
  refine wpAny_bind (wpAny_callSpecial?_slot (name := Str.ofString "__getitem__") ht.typeIs PyProof.Rows.slot_tuple_getitem
    (wpAny_call_entry PyProof.Rows.slot_tuple_getitem ht.typeIs entry_tuple_getitem ?_ (args_tuple_getitem _ _)))
  show wpAny _ _ (Builtin.Tuple.tupleItemsOf (.ref t) >>= _) _ _ s
  refine wpAny_bind (tupleItemsOf_ ht ?_)
  refine wpAny_bind (wpAny_typeOf hTs ?_)
  rw [if_pos (by decide)]
  refine wpAny_bind (plRevApplied hs pl pu ps ?_)
  have hno : ¬ ((((items.size : Int) - 1) == 0 && (-1 : Int) == 1 && items.size == items.size) = true) := by
    intro q
    rw [Bool.and_eq_true, Bool.and_eq_true] at q
    exact absurd q.1.2 (by decide)
  show wpAny _ _ (if (((items.size : Int) - 1) == 0 && (-1 : Int) == 1 && items.size == items.size) = true then _ else _) _ _ s
  rw [if_neg hno, plRevPick]
  first
    | exact wpAny_bind (m := Builtin.Tuple.tupleExact _) (wpAny_newObj_type (wpAny_pure ⟨_, rfl, wpAny_pure h⟩) htake)
    | exact wpAny_bind (m := Builtin.Tuple.tupleExact _) (wpAny_newObj_type (wpAny_bind (wpAny_pure (wpAny_pure ⟨_, rfl, wpAny_pure h⟩))) htake)
    | exact wpAny_bind (wpAny_bind (m := Builtin.Tuple.tupleExact _) (wpAny_newObj_type (wpAny_pure (wpAny_pure ⟨_, rfl, wpAny_pure h⟩)) htake))
    | exact wpAny_bind (wpAny_bind (m := Builtin.Tuple.tupleExact _) (wpAny_newObj_type (wpAny_pure ⟨_, rfl, wpAny_pure h⟩) htake))
end
end HT
namespace Pl
open PySem PySem.Spec PyProof.Rows L2
/-! ### x[::-1] of texts, lists, tuples -/
def tRevB (K : Fg0) (te : TE) : TE := fun σ H Q => te σ H fun x H1 => ((∃ z, x = .str z ∧ z.length ≤ sizeLine ∧ Q (.str (S z.cps.toList.reverse)) H1) ∨ ∃ a xs, x = .ref a ∧ SqL K H1 a xs ∧ ∀ p, H1 p = none → Q (.ref p) (upd H1 p (.lst xs.reverse))) ∨ ∃ a xs, x = .ref a ∧ SqT K H1 a xs ∧ ∀ p, H1 p = none → Q (.ref p) (upd H1 p (.tup xs.reverse))
theorem pe_revB {X : Cx} {e : Expr} {te : TE} {k : Nat} {p1 p2 p3 pos : Pos} (he : PE X e te) : PE X (.Subscript e (.Slice none none (some (.UnaryOp .USub (.Constant (.int 1) k p1) p2)) p3) pos) (tRevB X.K te) := by
  refine ⟨fun pins s σ H Q I h => ?_⟩
  refine Subscript_ (thn (he.run pins s σ H _ I h) fun v s1 ⟨x, H1, I1, r1, q1⟩ => ?_)
  have hst : PO X (some (.UnaryOp .USub (.Constant (.int 1) k p1) p2)) (tPart (tUn (rU fun i => .int (-i)) (tC (.int 1)))) := po_some (pe_un un_neg pe_int)
  refine wpAny_Slice (thn (po_none.run pins s1 σ H1 (fun o H2 => o = none ∧ H2 = H1) I1 ⟨rfl, rfl⟩) fun vl s2 ⟨l, H2, I2, pl, el, e2⟩ => ?_)
  subst el e2
  refine thn (po_none.run pins s2 σ H2 (fun o H3 => o = none ∧ H3 = H2) I2 ⟨rfl, rfl⟩) fun vu s3 ⟨u, H3, I3, pu, eu, e3⟩ => ?_
  subst eu e3
  refine thn (hst.run pins s3 σ H3 (fun o H4 => o = some (-1) ∧ H4 = H3) I3 ⟨1, rfl, -1, rfl, rfl, rfl⟩) fun vs s4 ⟨o, H4, I4, ps, eo, e4⟩ => ?_
  subst eo e4
  have I5 : Inv X pins σ H4 { s4 with heap := s4.heap.push { cls := .type "slice", data := .fields #[vl, vu, vs] } } := I4.kept (t' := s4.toks) fun b ob q => Heap.get?_push_of_some _ q
  rcases q1 with (⟨z, ex, hz, q⟩ | ⟨a, xs, ex, hx, q⟩) | ⟨a, xs, ex, hx, q⟩
  · subst ex
    obtain ⟨t, rfl⟩ := r1
    obtain ⟨l, rfl, e1⟩ := IsPart.raw pl
    obtain ⟨u, rfl, e2⟩ := IsPart.raw pu
    obtain ⟨w, rfl, e3⟩ := IsPart.raw ps
    show wpAny (model X.prog X.w) X.A (subscriptTail e (.Slice none none (some (.UnaryOp .USub (.Constant (.int 1) k p1) p2)) p3) (.str z t) (.ref s4.heap.objs.size)) (EP X pins σ Q) X.xe { s4 with heap := s4.heap.push { cls := .type "slice", data := .fields #[_, _, _] } }
    cases l with
    | some l => cases e1
    | none =>
      cases u with
      | some u => cases e2
      | none =>
        cases w with
        | none => cases e3
        | some w =>
          obtain ⟨w1, w2⟩ := w
          cases e3
          refine tail_any (ops := [.ref s4.heap.objs.size, .str z t]) (typeIs_str _ _ _) F.slot_str_getitem.lookup ?_ (by with_unfolding_all rfl)
          refine wpAny_getItem_str_slice (l := none) (u := none) (st := some (-1, w2)) ⟨_, Heap.get?_push_size _ rfl, rfl, rfl⟩ (by rfl) ?_
          refine post_val_or_str (Q := EP X pins σ Q) ⟨Nat.le_trans (Txt.sliceBy_le z none none (-1, w2) (show (-1 : Int) ≠ 0 by decide)) hz, fun t' c => ?_⟩
          refine ⟨.str (Txt.sliceBy z none none (-1, w2)), H4, I5.tok c, ⟨t', rfl⟩, ?_⟩
          rw [rev_list]
          exact q
  · subst ex
    cases r1
    obtain ⟨its, r, ht, hz⟩ := I5.list hx
    have hlen := r.length
    show wpAny (model X.prog X.w) X.A (subscriptTail e (.Slice none none (some (.UnaryOp .USub (.Constant (.int 1) k p1) p2)) p3) (.ref a) (.ref s4.heap.objs.size)) (EP X pins σ Q) X.xe { s4 with heap := s4.heap.push { cls := .type "slice", data := .fields #[vl, vu, vs] } }
    refine tail_any (ops := [.ref a, .ref s4.heap.objs.size]) ht.isList.typeIs (PySem.slot_list_getitem.lookup) ?_ (by with_unfolding_all rfl)
    refine wpAny_getItem_list_slice ht.isList (Heap.IsSliceOf.new _ vl vu vs) pl pu ps (by decide) ?_ (by rw [List.size_toArray]; omega)
    rw [PySem.W.krv_pick]
    refine ⟨.ref _, _, I5.laid (t' := s4.toks) (o := .lst xs.reverse) (fun b ob q => Heap.get?_push_of_some _ q) (Nat.le_refl _) ?_, rfl, q _ (I5.hok.fresh (Nat.le_refl _))⟩
    exact ⟨by rw [List.length_reverse]; exact hz, _, 0, r.reverse, Heap.get?_push_size _ rfl⟩
  · subst ex
    cases r1
    obtain ⟨its, r, ht, hz⟩ := I5.tuple hx
    have hlen := r.length
    have pt : IsTup { s4 with heap := s4.heap.push { cls := .type "slice", data := .fields #[vl, vu, vs] } }.heap a its.toArray := ht
    show wpAny (model X.prog X.w) X.A (subscriptTail e (.Slice none none (some (.UnaryOp .USub (.Constant (.int 1) k p1) p2)) p3) (.ref a) (.ref s4.heap.objs.size)) (EP X pins σ Q) X.xe { s4 with heap := s4.heap.push { cls := .type "slice", data := .fields #[vl, vu, vs] } }
    refine tail_any (ops := [.ref a, .ref s4.heap.objs.size]) pt.typeIs (PyProof.Rows.slot_tuple_getitem.lookup) ?_ (by with_unfolding_all rfl)
    refine HT.plRevTup pt (Heap.IsSliceOf.new _ vl vu vs) pl pu ps ?_ (by rw [List.size_toArray]; omega)
    refine ⟨.ref _, _, I5.laid (t' := s4.toks) (o := .tup xs.reverse) (fun b ob q => Heap.get?_push_of_some _ q) (Nat.le_refl _) ?_, rfl, q _ (I5.hok.fresh (Nat.le_refl _))⟩
    exact ⟨by rw [List.length_reverse]; exact hz, _, r.reverse, ⟨_, Heap.get?_push_size _ rfl, rfl, _, rfl⟩⟩

def gRevB : F1 := fun a Q => match a with
  | .str x => Q (.str x.reverse)
  | .lst x => Q (.lst x.reverse)
  | .tup x => Q (.tup x.reverse)
  | _ => False
theorem mo_gRevB : Mo1 gRevB := fun a Q Q' h q => by
  unfold gRevB at q ⊢
  split at q
  · exact h _ q
  · exact h _ q
  · exact h _ q
  · exact q
theorem e_revB {K : Fg} {X : Cx} {e : Expr} {te : TE} {f : FE} {k : Nat} {p1 p2 p3 pos : Pos} (h : DT K X e te f) (hK : X.K = K := by rfl) : DE K X (.Subscript e (.Slice none none (some (.UnaryOp .USub (.Constant (.int 1) k p1) p2)) p3) pos) (tRevB K te) (f1 gRevB f) := by
  obtain ⟨K, stK⟩ := K
  replace hK : X.K = K := hK
  subst hK
  refine ⟨pe_revB h.pe, fun M H0 z m H σ ρ Q I q => ?_, mo_f1 mo_gRevB h.mo⟩
  refine h.rd M H0 z m H σ ρ _ I (h.mo ρ _ _ (fun d q v H' s i => ?_) q)
  have hx := I.hx.step s
  unfold gRevB at q
  split at q
  · obtain ⟨rfl, zl⟩ := i.str
    refine .inl (.inl ⟨_, rfl, by rw [S_len]; exact zl, ?_⟩)
    rw [S_list]
    exact Wn.str hx (Wn.mono s q) (by rw [List.length_reverse]; exact zl)
  · obtain ⟨p, vs, rfl, r, k, zl⟩ := i.lst
    exact .inl (.inr ⟨p, vs, rfl, .of r, fun p n => Wn.lst hx (Wn.mono s q) n k.reverse (by rw [List.length_reverse]; exact zl)⟩)
  · obtain ⟨p, vs, rfl, r, k, _, zl⟩ := i.tup
    exact .inr ⟨p, vs, rfl, r, fun p n => Wn.tup hx (Wn.mono s q) n k.reverse (by rw [List.length_reverse]; exact zl)⟩
  · exact q.elim

/-! ### words -/
theorem tyS_n : (tyD .non).isSome = true := rfl
theorem tyS_b {x : Bool} : (tyD (.bl x)).isSome = true := rfl
theorem tyS_i {x : Int} : (tyD (.int x)).isSome = true := rfl
theorem tyS_s {x : List Nat} : (tyD (.str x)).isSome = true := rfl
theorem tyS_t {x : List D} : (tyD (.tup x)).isSome = true := rfl
theorem tyS_l {x : List D} : (tyD (.lst x)).isSome = true := rfl
theorem tyS_d {x : List (Key × D)} : (tyD (.dk x)).isSome = true := rfl
theorem isT_ss {x : List Nat} : isT "str" (.str x) = true := rfl
theorem isT_tt {x : List D} : isT "tuple" (.tup x) = true := rfl
theorem isT_ll {x : List D} : isT "list" (.lst x) = true := rfl
theorem isT_ii {x : Int} : isT "int" (.int x) = true := rfl
theorem isT_bb {x : Bool} : isT "bool" (.bl x) = true := rfl
theorem isT_dd {x : List (Key × D)} : isT "dict" (.dk x) = true := rfl
theorem isE_str {x : List Nat} : isE (.str x) = false := rfl
theorem isE_int {x : Int} : isE (.int x) = false := rfl
theorem isE_bl {x : Bool} : isE (.bl x) = false := rfl
theorem isE_non : isE .non = false := rfl
theorem isE_tup {x : List D} : isE (.tup x) = false := rfl
theorem isE_lst {x : List D} : isE (.lst x) = false := rfl
end Pl

namespace Pl
open PySem PySem.Spec PyProof.Rows L2

/-! ### loops with the number of turns -/
theorem for_searchI {α β : Type} {g : FG} {b : FS} {E : DEn} (mk : α → D) (v : β → D) (r : α → Option β) (S : Nat → En → Prop) (l : List α)
    (hstep : ∀ (i : Nat) a, l[i]? = some a → ∀ ρ, S i ρ → ∀ (nx : En → Prop), (∀ ρ', S (i + 1) ρ' → r a = none → nx ρ') → (∀ d, r a = some d → E.rt (v d)) → g (mk a) ρ fun ρ' => b { nx := nx, ct := nx, bk := E.nx, rt := E.rt, rm := E.rm } ρ')
    (he : ∀ ρ, S l.length ρ → l.findSome? r = none → E.nx ρ) (hr : ∀ d, l.findSome? r = some d → E.rt (v d)) : ∀ ρ, S 0 ρ → forGo g b E (l.map mk) ρ := by
  have key : ∀ (q p : List α), l = p ++ q → (p.findSome? r = none) → ∀ ρ, S p.length ρ → forGo g b E (q.map mk) ρ := by
    intro q
    induction q with
    | nil =>
      intro p e hp ρ hs
      rw [List.append_nil] at e
      subst e
      exact he ρ hs hp
    | cons a q ih =>
      intro p e hp ρ hs
      show g (mk a) ρ fun ρ' => b { nx := forGo g b E (q.map mk), ct := forGo g b E (q.map mk), bk := E.nx, rt := E.rt, rm := E.rm } ρ'
      refine hstep p.length a (by rw [e]; simp) ρ hs _ (fun ρ' hs' hn => ?_) fun d hd => hr d ?_
      · refine ih (p ++ [a]) (by rw [e]; simp) ?_ ρ' (by rw [List.length_append]; exact hs')
        rw [List.findSome?_append, hp]
        show [a].findSome? r = none
        rw [List.findSome?_cons, hn]; rfl
      · rw [e, List.findSome?_append, hp]
        show (a :: q).findSome? r = some d
        rw [List.findSome?_cons, hd]
  exact fun ρ hs => key l [] rfl rfl ρ hs
theorem for_allI {α : Type} {g : FG} {b : FS} {E : DEn} (mk : α → D) (S : Nat → En → Prop) (l : List α)
    (hstep : ∀ (i : Nat) a, l[i]? = some a → ∀ ρ, S i ρ → ∀ (nx : En → Prop), (∀ ρ', S (i + 1) ρ' → nx ρ') → g (mk a) ρ fun ρ' => b { nx := nx, ct := nx, bk := E.nx, rt := E.rt, rm := E.rm } ρ')
    (he : ∀ ρ, S l.length ρ → E.nx ρ) : ∀ ρ, S 0 ρ → forGo g b E (l.map mk) ρ :=
  for_searchI mk (fun _ : Unit => .non) (fun _ => none) S l (fun i a e ρ hs nx hn _ => hstep i a e ρ hs nx fun ρ' h => hn ρ' h rfl) (fun ρ hs _ => he ρ hs) (fun d h => by
    have : l.findSome? (fun _ => (none : Option Unit)) = none := List.findSome?_eq_none_iff.mpr fun _ _ => rfl
    rw [this] at h; cases h)
/-- any items -/
theorem for_allD {g : FG} {b : FS} {E : DEn} (S : Nat → En → Prop) (l : List D)
    (hstep : ∀ (i : Nat) a, l[i]? = some a → ∀ ρ, S i ρ → ∀ (nx : En → Prop), (∀ ρ', S (i + 1) ρ' → nx ρ') → g a ρ fun ρ' => b { nx := nx, ct := nx, bk := E.nx, rt := E.rt, rm := E.rm } ρ')
    (he : ∀ ρ, S l.length ρ → E.nx ρ) : ∀ ρ, S 0 ρ → forGo g b E l ρ := by
  have := for_allI (g := g) (b := b) (E := E) id S l hstep he
  rwa [List.map_id] at this
theorem findC_some {x : List Nat} {c i k : Nat} (h : findC x c i = some k) : i ≤ k ∧ k < x.length ∧ x[k]? = some c ∧ ∀ j, i ≤ j → j < k → x[j]? ≠ some c := by
  unfold findC at h
  rw [List.find?_eq_some_iff_getElem] at h
  obtain ⟨h1, j, hj, e, h2⟩ := h
  rw [List.getElem_range] at e
  subst e
  rw [Bool.and_eq_true, decide_eq_true_eq, decide_eq_true_eq] at h1
  refine ⟨h1.1, by simpa using hj, h1.2, fun m h3 h4 z => ?_⟩
  have := h2 m h4
  rw [List.getElem_range, Bool.not_eq_true', Bool.and_eq_false_iff, decide_eq_false_iff_not, decide_eq_false_iff_not] at this
  exact this.elim (fun q => q h3) fun q => q z
theorem findC_none {x : List Nat} {c i : Nat} (h : findC x c i = none) : ∀ j, i ≤ j → x[j]? ≠ some c := by
  intro j h1 z
  unfold findC at h
  rw [List.find?_eq_none] at h
  have hj := (List.getElem?_eq_some_iff.mp z).1
  exact h j (List.mem_range.mpr hj) (by rw [Bool.and_eq_true, decide_eq_true_eq, decide_eq_true_eq]; exact ⟨h1, z⟩)
theorem findC_is {x : List Nat} {c i k : Nat} (h1 : i ≤ k) (h2 : x[k]? = some c) (h3 : ∀ j, i ≤ j → j < k → x[j]? ≠ some c) : findC x c i = some k := by
  cases e : findC x c i with
  | none => exact absurd h2 (findC_none e k h1)
  | some j =>
    obtain ⟨a1, a2, a3, a4⟩ := findC_some e
    rcases Nat.lt_trichotomy j k with h | h | h
    · exact absurd a3 (h3 j a1 h)
    · rw [h]
    · exact absurd h2 (a4 k h1 h)
theorem rfindC_some {x : List Nat} {c i k : Nat} (h : rfindC x c i = some k) : k < i ∧ k < x.length ∧ x[k]? = some c := by
  unfold rfindC at h
  have h1 := List.find?_some h
  have h2 := List.mem_range.mp (List.mem_reverse.mp (List.mem_of_find?_eq_some h))
  exact ⟨by omega, by omega, of_decide_eq_true h1⟩
/-- a letter in a text -/
theorem sfind_one {x : List Nat} {c : Nat} : (sfind x [c]).isSome = true ↔ c ∈ x := by
  unfold sfind
  rw [List.find?_isSome]
  have key : ∀ k, atL x [c] k = true ↔ x[k]? = some c := fun k => by
    unfold atL
    rw [Bool.and_eq_true, decide_eq_true_eq, decide_eq_true_eq]
    show k + 1 ≤ x.length ∧ (x.drop k).take 1 = [c] ↔ _
    constructor
    · rintro ⟨h1, h2⟩
      rw [List.take_one] at h2
      rw [List.head?_drop] at h2
      cases e : x[k]? with
      | none => rw [e] at h2; cases h2
      | some d => rw [e] at h2; cases h2; rfl
    · intro e
      have h := (List.getElem?_eq_some_iff.mp e).1
      refine ⟨h, ?_⟩
      rw [List.take_one, List.head?_drop, e]; rfl
  constructor
  · rintro ⟨k, _, h⟩
    exact List.mem_of_getElem? ((key k).mp h)
  · intro h
    obtain ⟨k, e⟩ := List.mem_iff_getElem?.mp h
    exact ⟨k, List.mem_range.mpr (by have := (List.getElem?_eq_some_iff.mp e).1; omega), (key k).mpr e⟩

/-! ### cuts at tests, values -/
theorem if_ev {t : FB} {A B : FS} {E : DEn} {ρ : En} (b : Bool) (h : ∀ Q : Bool → Prop, Q b → t ρ Q) (k : ifB b (A E ρ) (B E ρ)) : sIf t A B E ρ := h _ k
theorem tt_ev {t : FB} {ρ : En} {Q : Bool → Prop} (b : Bool) (h : ∀ Q : Bool → Prop, Q b → t ρ Q) (k : Q b) : t ρ Q := h _ k
theorem set_ev {i : Nat} {f : FE} {E : DEn} {ρ : En} (d : D) (h : ∀ Q : D → Prop, Q d → f ρ Q) (hi : i < ρ.length) (k : E.nx (ρ.set i (.d d))) : sSet i f E ρ := ⟨hi, h _ k⟩
theorem ret_ev {f : FE} {E : DEn} {ρ : En} (d : D) (h : ∀ Q : D → Prop, Q d → f ρ Q) (k : E.rt d) : sRet f E ρ := h _ k
end Pl

namespace Pl
open PySem PySem.Spec PyProof.Rows L2

/-! ### repr of data that may hold {} and greater ints -/
/-- the interpreter's modules stand -/
def Sys (base : Heap) : Prop := ∃ o, base.get? sysModules = some o
mutual
def toPyE : D → PyData
  | .non => .none
  | .bl b => .bool b
  | .int i => .int i
  | .str x => .str (S x)
  | .tup xs => .tuple (toPyEA xs)
  | .lst xs => .list (toPyEA xs)
  | .dk _ => .dict []
  | .ml _ => .none
  | .scr _ => .none
def toPyEA : List D → List PyData
  | [] => []
  | x :: xs => toPyE x :: toPyEA xs
end
mutual
/-- may be shown: ints below 10^60 -/
def rkE : D → Bool
  | .non => true
  | .bl _ => true
  | .int i => decide (i.natAbs < 10 ^ 60)
  | .str x => okS x
  | .tup xs => rkEA xs
  | .lst xs => rkEA xs
  | .dk xs => xs.isEmpty
  | .ml _ => false
  | .scr _ => false
def rkEA : List D → Bool
  | [] => true
  | x :: xs => rkE x && rkEA xs
end
mutual
def deE : D → Nat
  | .tup xs => deEA xs + 1
  | .lst xs => deEA xs + 1
  | .dk _ => 1
  | .non => 0
  | .bl _ => 0
  | .int _ => 0
  | .str _ => 0
  | .ml _ => 0
  | .scr _ => 0
def deEA : List D → Nat
  | [] => 0
  | x :: xs => max (deE x) (deEA xs)
end
mutual
def wgE : D → Nat
  | .str x => x.length
  | .tup xs => wgEA xs
  | .lst xs => wgEA xs
  | .non => 0
  | .bl _ => 0
  | .int _ => 200
  | .dk _ => 0
  | .ml _ => 0
  | .scr _ => 0
def wgEA : List D → Nat
  | [] => 0
  | x :: xs => wgE x + 1 + wgEA xs
end
section
variable {X : Cx} {pins : List (Addr × Obj)} {σ : L2.St} {H : Hp} {s : Shared} {M : Ml} {m : Addr → Prop}
mutual
theorem IsE.reads (I : Inv X pins σ H s) (B : Sys X.base) : ∀ (d : D) (v : V) (u : Value), Is X.K M (hid m H) v d → rkE d = true → RelV v u → ∃ as, Reads s.heap u (toPyE d) as ∧ sysModules ∉ as
  | .non, _, _, h, _, r => by
    cases h; cases r
    exact ⟨_, Reads.none, by simp⟩
  | .bl b, _, _, h, _, r => by
    cases h; cases r
    exact ⟨_, Reads.bool b, by simp⟩
  | .int i, _, _, h, _, r => by
    cases h
    obtain ⟨t, rfl⟩ := r
    exact ⟨_, Reads.int i t, by simp⟩
  | .str x, _, _, h, _, r => by
    cases h
    obtain ⟨t, rfl⟩ := r
    exact ⟨_, Reads.str _ t, by simp⟩
  | .lst ds, _, _, h, k, r => by
    cases h with
    | @lst a xs _ hs ha z =>
      cases r
      have hs' : H a = some (.lst xs) := hid_all _ _ hs
      obtain ⟨its, rv, ⟨o, n, ho, hc, _, hd⟩, _⟩ := I.list (.of hs')
      obtain ⟨as, hr, hn⟩ := IsE.readsA I B ds _ its ha (by unfold rkE at k; exact k) rv
      refine ⟨_, Reads.list ho hc hd hr, fun hm => ?_⟩
      rcases List.mem_cons.mp hm with e | e
      · subst e
        obtain ⟨o, hB⟩ := B
        have := (I.bs _ o hB).2
        rw [hs'] at this; cases this
      · exact hn e
  | .tup ds, _, _, h, k, r => by
    cases h with
    | tup hs ha z =>
      cases r
      obtain ⟨its, rv, ⟨o, ho, hc, n, hd⟩, _⟩ := I.tuple (same_sqT hid_all hs)
      obtain ⟨as, hr, hn⟩ := IsE.readsA I B ds _ its ha (by unfold rkE at k; exact k) rv
      exact ⟨_, Reads.tuple ho hc hd hr, hn⟩
  | .dk kvs, _, _, h, k, r => by
    unfold rkE at k
    rw [List.isEmpty_iff] at k
    subst k
    cases h with
    | @dk a vs _ hs ha =>
      cases ha
      cases r
      have hd : Rd H a (.dK []) := same_rd hid_all hs
      obtain ⟨_, h4, vs, kv, o, es, ep, h1, h2, h3, _, pr, _⟩ := (show ObjOk X.prog X.w H s.heap a (.dK []) from hd.ok I.hok)
      cases kv
      have he : es = #[] := by
        cases e : es.toList with
        | nil => exact Array.toList_eq_nil_iff.mp e
        | cons y ys => rw [e] at pr; cases pr
      subst he
      refine ⟨a :: [] ++ [], .dict h1 h2.1 h3 .nil .nil, fun z => ?_⟩
      have z : sysModules = a := by simpa using z
      subst z
      simp at h4
  | .ml _, _, _, _, k, _ => by unfold rkE at k; cases k
  | .scr _, _, _, _, k, _ => by unfold rkE at k; cases k
theorem IsE.readsA (I : Inv X pins σ H s) (B : Sys X.base) : ∀ (ds : List D) (vs : List V) (us : List Value), IsA X.K M (hid m H) vs ds → rkEA ds = true → Vals vs us → ∃ as, ReadsAll s.heap us (toPyEA ds) as ∧ sysModules ∉ as
  | [], _, _, h, _, r => by
    cases h; cases r
    exact ⟨_, ReadsAll.nil, by simp⟩
  | d :: ds, _, _, h, k, r => by
    unfold rkEA at k
    rw [Bool.and_eq_true] at k
    cases h with
    | cons h1 h2 =>
      cases r with
      | cons r1 r2 =>
        obtain ⟨as, q1, n1⟩ := IsE.reads I B d _ _ h1 k.1 r1
        obtain ⟨bs, q2, n2⟩ := IsE.readsA I B ds _ _ h2 k.2 r2
        exact ⟨_, ReadsAll.cons q1 q2, fun z => (List.mem_append.mp z).elim n1 n2⟩
end
end
mutual
theorem depthE : ∀ d : D, (toPyE d).depth = deE d
  | .non => rfl
  | .bl _ => rfl
  | .int _ => rfl
  | .str x => rfl
  | .tup xs => by unfold toPyE PyData.depth deE; rw [depthEA xs]
  | .lst xs => by unfold toPyE PyData.depth deE; rw [depthEA xs]
  | .dk _ => rfl
  | .ml _ => rfl
  | .scr _ => rfl
theorem depthEA : ∀ d : List D, PyData.depthAll (toPyEA d) = deEA d
  | [] => rfl
  | x :: xs => by unfold toPyEA PyData.depthAll deEA; rw [depthE x, depthEA xs]
end
theorem log_60 {n : Nat} (h : n < 10 ^ 60) : (if n = 0 then 0 else n.log2 + 1) ≤ 200 := by
  by_cases z : n = 0
  · rw [if_pos z]; exact Nat.zero_le _
  · rw [if_neg z]
    exact (Nat.log2_lt (n := n) (k := 200) z).mpr (Nat.lt_of_lt_of_le h (by decide))
theorem log_60s {n : Nat} (h : n < 10 ^ 60) : n.log2 < 1920 := by
  have := log_60 h
  by_cases z : n = 0
  · subst z; decide
  · rw [if_neg z] at this; omega
mutual
theorem weightE : ∀ d : D, rkE d = true → (toPyE d).weight ≤ wgE d
  | .non, _ => Nat.le_refl _
  | .bl _, _ => Nat.le_refl _
  | .int i, h => by
    unfold rkE at h
    have h := log_60 (of_decide_eq_true h)
    unfold toPyE PyData.weight wgE
    by_cases z : i = 0
    · subst z; decide
    · rw [if_neg (by simpa using z)]
      rw [if_neg (by omega)] at h
      exact h
  | .str x, _ => by unfold toPyE PyData.weight wgE S; simp
  | .tup xs, h => by unfold toPyE PyData.weight wgE; exact weightEA xs (by unfold rkE at h; exact h)
  | .lst xs, h => by unfold toPyE PyData.weight wgE; exact weightEA xs (by unfold rkE at h; exact h)
  | .dk _, h => Nat.le_refl _
  | .ml _, h => by unfold rkE at h; cases h
  | .scr _, h => by unfold rkE at h; cases h
theorem weightEA : ∀ d : List D, rkEA d = true → PyData.weightAll (toPyEA d) ≤ wgEA d
  | [], _ => Nat.le_refl _
  | x :: xs, h => by
    unfold rkEA at h
    rw [Bool.and_eq_true] at h
    have a := weightE x h.1
    have b := weightEA xs h.2
    unfold toPyEA PyData.weightAll wgEA
    omega
end
mutual
theorem showE : ∀ d : D, rkE d = true → (toPyE d).showable = true ∧ (toPyE d).leavesShort 64 = true
  | .non, _ => ⟨rfl, rfl⟩
  | .bl _, _ => ⟨rfl, rfl⟩
  | .int i, h => by
    unfold rkE at h
    have h := of_decide_eq_true h
    unfold toPyE PyData.showable PyData.leavesShort
    refine ⟨decide_eq_true (log_60s h), decide_eq_true ?_⟩
    unfold PyData.shown
    rw [PySem.ofString_length]
    exact Nat.le_trans (PySem.int_text_length_le10 (k := 60) (by decide) h) (by decide)
  | .str x, h => by
    unfold rkE okS at h
    unfold toPyE PyData.showable PyData.leavesShort
    refine ⟨rfl, ?_⟩
    rw [S_list, List.all_eq_true]
    intro c hc
    have := of_decide_eq_true (List.all_eq_true.mp h c hc)
    exact decide_eq_true (by rw [show (16 : Nat) ^ 8 = 4294967296 by decide]; omega)
  | .tup xs, h => by
    unfold toPyE PyData.showable PyData.leavesShort
    exact showEA xs (by unfold rkE at h; exact h)
  | .lst xs, h => by
    unfold toPyE PyData.showable PyData.leavesShort
    exact showEA xs (by unfold rkE at h; exact h)
  | .dk _, h => ⟨rfl, rfl⟩
  | .ml _, h => by unfold rkE at h; cases h
  | .scr _, h => by unfold rkE at h; cases h
theorem showEA : ∀ d : List D, rkEA d = true → PyData.showableAll (toPyEA d) = true ∧ PyData.leavesShortAll 64 (toPyEA d) = true
  | [], _ => ⟨rfl, rfl⟩
  | x :: xs, h => by
    unfold rkEA at h
    rw [Bool.and_eq_true] at h
    obtain ⟨a, b⟩ := showE x h.1
    obtain ⟨c, d⟩ := showEA xs h.2
    unfold toPyEA PyData.showableAll PyData.leavesShortAll
    rw [a, b, c, d]
    exact ⟨rfl, rfl⟩
end
/-- may be shown -/
def rE (d : D) : Prop := rkE d = true ∧ deE d ≤ 40 ∧ wgE d ≤ 200000
def shE (d : D) : List Nat := (PyData.shown (toPyE d)).cps.toList
theorem rE.fits {d : D} (h : rE d) : (toPyE d).shown.length ≤ sizeLine := by
  obtain ⟨h1, h2, h3⟩ := h
  have a := PyData.shown_le 64 (by decide) (toPyE d) (showE d h1).2
  have b := Nat.le_trans (weightE d h1) h3
  rw [sizeLine_eq]
  omega
def gReprD : FL := fun ds Q => match ds with
  | [d] => rE d ∧ Q (.str (shE d))
  | _ => False
theorem mo_gReprD : MoL gReprD := fun a Q Q' h q => by
  unfold gReprD at q ⊢
  split at q
  · exact ⟨q.1, h _ q.2⟩
  · exact q
/-- of a value -/
def rReprF (K : Fg0) : List V → Hp → VK → Prop := fun xs H Q => ∃ v d M m, xs = [v] ∧ IsT K M m H v d ∧ rE d ∧ Q (.str (S (shE d))) H
theorem IsT.readsE {X : Cx} {pins : List (Addr × Obj)} {σ : L2.St} {H : Hp} {s : Shared} {M : Ml} {m : Addr → Prop} {v : V} {d : D} {u : Value} (I : Inv X pins σ H s) (B : Sys X.base) (q : IsT X.K M m H v d) (k : rkE d = true) (r : RelV v u) : ∃ as, Reads s.heap u (toPyE d) as ∧ sysModules ∉ as := by
  rcases q with q | ⟨p, vs, ds, e1, e2, e3, n, a, z⟩ | ⟨p, vs, ds, e1, e2, e3, n, a⟩
  · exact IsE.reads I B d v u q k r
  · subst e1; subst e2
    cases r
    obtain ⟨its, rv, ⟨o, n, ho, hc, _, hd⟩, _⟩ := I.list (.of e3)
    obtain ⟨as, hr, hn⟩ := IsE.readsA I B ds _ its a (by unfold rkE at k; exact k) rv
    refine ⟨_, Reads.list ho hc hd hr, fun hm => ?_⟩
    rcases List.mem_cons.mp hm with e | e
    · subst e
      obtain ⟨o, hB⟩ := B
      have := (I.bs _ o hB).2
      rw [e3] at this; cases this
    · exact hn e
  · subst e1; subst e2
    have : Is X.K M (hid (fun _ => False) H) (.ref p) (.dk ds) := .dk (.inl (by rw [hid_in (fun z => z)]; exact e3)) (a.mono (hid_less fun b h => h.elim))
    exact IsE.reads I B _ _ u this k r
theorem call_reprF {X : Cx} (B : Sys X.base) (hG : X.A.guards = some []) (hu : X.A.units + 64 < cLine) : CallR X (.builtin "repr") (rReprF X.K) := by
  intro pins s σ H xs us Q I r h
  obtain ⟨x, d, M, m, rfl, hd, hr, q⟩ := h
  obtain ⟨u, rfl, rx⟩ := vals1 r
  obtain ⟨as, rr, hn⟩ := hd.readsE I B hr.1 rx
  have hz := hr.fits
  have hs := (showE d hr.1).1
  have ee : S (shE d) = (toPyE d).shown := S_of _
  rw [ee] at q
  have fin : ∀ (h' : Heap) (t : Tok) (tk : Nat), (∀ b o, s.heap.get? b = some o → h'.get? b = some o) → EP X pins σ Q (.str (toPyE d).shown t) { s with heap := h', toks := tk } := fun h' t tk k => ⟨.str (toPyE d).shown, H, I.kept k, ⟨t, rfl⟩, q⟩
  have ref : ∀ a, u = .ref a → wpAny (model X.prog X.w) X.A (call (.builtin "repr") [u]) (EP X pins σ Q) X.xe s := fun a e => by
    subst e
    exact repr_of_reads' rr hs (fun _ => hn) hG (by rw [depthE]; have := hr.2.1; omega) (fun _ _ e => e) (fun h' t tk k => fin h' t tk k) hz
  cases d with
  | non => obtain rfl := hd.non; cases rx; exact P.repr_of_none (fin s.heap _ _ fun _ _ e => e)
  | bl b => obtain rfl := hd.bl; cases rx; exact P.repr_of_bool (fin s.heap _ _ fun _ _ e => e)
  | int i => obtain rfl := hd.int; obtain ⟨t, rfl⟩ := rx; exact P.repr_of_int (log_60s (of_decide_eq_true (by have := hr.1; unfold rkE at this; exact this))) (fin s.heap _ _ fun _ _ e => e)
  | str y => obtain ⟨rfl, _⟩ := hd.str; obtain ⟨t, rfl⟩ := rx; exact P.repr_of_str (fin s.heap _ _ fun _ _ e => e) hz
  | lst ys => obtain ⟨a, vs, rfl, _⟩ := hd.lst; exact ref a rx
  | tup ys => obtain ⟨a, vs, rfl, _⟩ := hd.tup; exact ref a rx
  | dk ys => obtain ⟨a, vs, rfl, _⟩ := hd.dk; exact ref a rx
  | ml _ => have := hr.1; unfold rkE at this; cases this
  | scr _ => have := hr.1; unfold rkE at this; cases this
theorem b_reprD {K : Fg0} {X : Cx} (B : Sys X.base) (hG : X.A.guards = some []) (hu : X.A.units + 64 < cLine) (hK : X.K = K := by rfl) : BR K X (.builtin "repr") (rReprF K) gReprD := by
  subst hK
  refine ⟨call_reprF B hG hu, fun M m H vs ds Q h ii q => ?_, mo_gReprD⟩
  unfold gReprD at q
  split at q
  · rename_i d
    obtain ⟨v, rfl, i⟩ := ii.one
    exact ⟨v, d, M, m, rfl, i, q.1, Wn.str h q.2 (by have := q.1.fits; rw [← show S (shE d) = (toPyE d).shown from S_of _, S_len] at this; exact this)⟩
  · exact q.elim

/-! ### the law's end, with the interpreter's modules -/
section
variable {P : Program} {w : World} {K : Fg} {mg mb : Str → Option Value} {k : Nat} {fa a : Addr} {fd : FuncData} {x : Str} {s₁ : Shared} {vs : List Value} {ns : List Int}
theorem law_coreB {K : Fg0} (KX : K.In s₁.heap) (hns : s₁.heap.Ns mainGlobals mg) (hb : s₁.heap.Ns builtinsNs mb) (hbb : ∀ x : Str, x ≠ "__name__" → mb x = bootBuiltins x) (hlim : s₁.heap.NoLimit) (hg : s₁.gens = #[])
    {mm : Str → Option Value} (hsys : s₁.heap.Ns sysModules mm)
    (ha : s₁.heap.get? a = some { cls := .type "list", data := .seq vs.toArray }) (hl : ns.length ≤ 63) (hr : Room k callerA)
    (F : ∀ base : Heap, K.In base → base.Ns mainGlobals mg → Sys base → FnS P w K mg base k fa fd [x] (SpLaw K)) (hbind : ∀ (s : Shared) (u : Value), BindsTo s fd ⟨[u], []⟩ [(x, u)])
    (H : Hp) (hS : SqL K H a (ns.map V.int)) (hok : HOk P w H s₁.heap) (hO : ∀ b u, H b = some u → b = a ∧ ∃ o xs, u = .frz o (.lst xs)) (hK : ∀ u, H a = some u → K.lookup a = none) :
    codeAny (model P w) callerA (.call (.ref fa) ⟨[.ref a], []⟩) (fun r s' => r = .ok (.ret (.bool true)) ∧ OldK s₁.heap s'.heap ∧ s'.os = s₁.os ∧ AllBare s'.gens) s₁ := by
  have keepA : ∀ {b : Addr} {o : Obj}, s₁.heap.get? b = some o → (b ≠ a ∨ H a = none) → (hidT s₁.heap H).get? b = some o := fun {b o} e h => hidT_get e (by
    cases q : H b with
    | none => rfl
    | some u =>
      obtain ⟨rfl, _⟩ := hO b u q
      rcases h with h | h
      · exact absurd rfl h
      · rw [h] at q; cases q)
  have keepD : ∀ {b : Addr} {m : Str → Option Value}, s₁.heap.Ns b m → (hidT s₁.heap H).Ns b m := fun {b m} ⟨o, es, ep, e, d, r⟩ => ⟨o, es, ep, keepA e (.inl fun z => by
    subst z
    rw [ha] at e; cases e; cases d), d, r⟩
  have hKb : K.In (hidT s₁.heap H) := fun b o e => keepA (KX b o e) (by
    cases q : H a with
    | none => exact .inr rfl
    | some u => exact .inl fun z => by subst z; rw [hK u q] at e; cases e)
  have hM : Mod K mg (hidT s₁.heap H) := ⟨hKb, keepD hns, ⟨mb, keepD hb, hbb⟩, let ⟨mc, h1, h2⟩ := hlim; ⟨mc, keepD h1, h2⟩⟩
  have e0 : Env0 P w K mg (hidT s₁.heap H) callerA [] s₁ H := ⟨rfl, hM, fun b o e => of_hidT e, Nat.le_of_eq (hidT_size _ _), trivial, (fun b hb => absurd (show b ∈ ([] : List Addr) from hb) (by simp)), hok, .of_eq hg⟩
  have sp : SpLaw K [.ref a] H fun v _ => v = .bl true := ⟨a, ns, rfl, hS, hl, fun _ => rfl⟩
  have B : Sys (hidT s₁.heap H) := let ⟨o, _, _, e, _⟩ := keepD hsys; ⟨o, e⟩
  refine codeAny_mono ((F _ hKb (keepD hns) B).run callerA [] s₁ H ⟨[.ref a], []⟩ [.ref a] [.ref a] _ hr rfl e0 (hbind s₁ (.ref a)) (.cons rfl .nil) sp) fun r s' h => ?_
  cases r with
  | error e => exact h.elim
  | ok fl =>
    cases fl with
    | next => exact h.elim
    | brk => exact h.elim
    | cont => exact h.elim
    | ret u =>
      obtain ⟨v, H', os, bare, un, hok', r', q⟩ := h
      subst q
      cases r'
      refine ⟨rfl, OldK.of_keep fun b o e => ?_, os, bare⟩
      cases q : H b with
      | none => exact un.keep b o e q (fun z => absurd (show b ∈ ([] : List Addr) from z) (by simp)) (by simp)
      | some u =>
        obtain ⟨_, ob, xs, rfl⟩ := hO b u q
        have z2 := un.frzs b ob _ q
        obtain ⟨e1, _⟩ := hok b _ q
        obtain ⟨e2, _⟩ := hok' b _ z2
        exact e2.trans (e1.symm.trans e)
theorem law_callB {K : Fg0} (KX : K.In s₁.heap) (hns : s₁.heap.Ns mainGlobals mg) (hb : s₁.heap.Ns builtinsNs mb) (hbb : ∀ x : Str, x ≠ "__name__" → mb x = bootBuiltins x) (hlim : s₁.heap.NoLimit) (hg : s₁.gens = #[])
    {mm : Str → Option Value} (hsys : s₁.heap.Ns sysModules mm)
    (ha : s₁.heap.get? a = some { cls := .type "list", data := .seq vs.toArray }) (hi : IntsAre vs ns) (hl : ns.length ≤ 63) (hr : Room k callerA)
    (F : ∀ base : Heap, K.In base → base.Ns mainGlobals mg → Sys base → FnS P w K mg base k fa fd [x] (SpLaw K)) (hbind : ∀ (s : Shared) (u : Value), BindsTo s fd ⟨[u], []⟩ [(x, u)]) :
    codeAny (model P w) callerA (.call (.ref fa) ⟨[.ref a], []⟩) (fun r s' => r = .ok (.ret (.bool true)) ∧ OldK s₁.heap s'.heap ∧ s'.os = s₁.os ∧ AllBare s'.gens) s₁ := by
  have rv := vals_ints hi
  have l63 : ns.length ≤ sizeLine := Nat.le_trans hl (by decide)
  cases hk : K.lookup a with
  | some o =>
    have e := KX a o hk
    rw [ha] at e
    cases e
    refine law_coreB KX hns hb hbb hlim hg hsys ha hl hr F hbind (fun _ => none) (.inr ⟨_, vs.toArray, _, hk, rfl, rfl, rfl, ?_, by simpa using rv⟩) (fun b u z => by cases z) (fun b u z => by cases z) (fun u z => by cases z)
    rw [List.size_toArray, hi.length]; exact l63
  | none =>
    refine law_coreB KX hns hb hbb hlim hg hsys ha hl hr F hbind (fun b => if b = a then some (.frz { cls := .type "list", data := .seq vs.toArray } (.lst (ns.map V.int))) else none) (.inl (.inr ⟨_, if_pos rfl⟩)) (fun b u z => ?_) (fun b u z => ?_) (fun _ _ => hk)
    · simp only at z
      split at z
      · rename_i e
        cases z
        subst e
        exact ⟨ha, by rw [List.length_map]; exact l63, vs, _, rv, ha⟩
      · cases z
    · split at z
      · rename_i e
        cases z
        exact ⟨e, _, _, rfl⟩
      · cases z
end
theorem walk_ofB {l : PySem.W.OpenLaw} {k : Nat} {q : Program} {loose : List Str} {XP : (Str → Option Value) → Heap → Prop} {YP : World → Heap → Prop} {d : DefRec} {K : Params → Fg0} {x : Str}
    (hi : importsNone q = true)
    (hn : l.most = some 63) (hdf : d.params.defaults = []) (hr : Room k callerA) (hY : ∀ (w : World) (h : Heap), YP w h → (K w.params).In h)
    (F : ∀ (w : World) (mg : Str → Option Value) (fa : Addr) (h : Heap), (K w.params).In h → h.Ns mainGlobals mg → mg d.name = some (.ref fa) →
      ∃ fd : FuncData, (∀ (s : Shared) (u : Value), BindsTo s fd ⟨[u], []⟩ [(x, u)]) ∧ ∀ base : Heap, (K w.params).In base → base.Ns mainGlobals mg → Sys base → FnS l.prog w (K w.params) mg base k fa fd [x] (SpLaw (K w.params))) :
    PySem.W.WalkO q loose XP YP l.row.toRowW d [] (fun f vs => PySem.call f vs) := by
  refine Att.attach_call hn hdf fun w s₀ s₁ mg mb fa o pm cd doc a vs ns G Y ho hd hcd hmg hobj hints hlen hg => ?_
  have KX := hY w _ Y
  obtain ⟨fd, hb, hF⟩ := F w mg fa _ KX G.T.g hmg
  obtain ⟨mm, hs, _⟩ := (G.T.seer hi).mods
  exact law_callB KX G.T.g G.T.b G.T.builtins G.T.nolimit hg hs hobj hints hlen hr hF hb
end Pl

namespace Pl
open PySem PySem.Spec PyProof.Rows L2

/-! ### dicts with text keys -/
def keyS (x : List Nat) : Key := .inr (S x)
theorem keyS_inj {x y : List Nat} : keyS x = keyS y ↔ x = y := by
  unfold keyS
  constructor
  · intro h; exact S_inj.mp (Sum.inr.inj h)
  · intro h; rw [h]
def mkS (kvs : List (List Nat × D)) : List (Key × D) := kvs.map fun p => (keyS p.1, p.2)
def getG (ds : List (Key × D)) (k : Key) : Option D := (ds.find? fun kv => decide (kv.1 = k)).map (·.2)
def getS (kvs : List (List Nat × D)) (x : List Nat) : Option D := (kvs.find? fun p => p.1 == x).map (·.2)
theorem getG_S (x : List Nat) : ∀ kvs : List (List Nat × D), getG (mkS kvs) (keyS x) = getS kvs x
  | [] => rfl
  | p :: r => by
    have ih := getG_S x r
    unfold getG getS mkS at ih ⊢
    rw [List.map_cons, List.find?_cons, List.find?_cons]
    by_cases h : p.1 = x
    · have h1 : decide (keyS p.1 = keyS x) = true := decide_eq_true (by rw [h])
      have h2 : (p.1 == x) = true := by rw [h]; exact beq_self_eq_true x
      dsimp only
      rw [h1, h2]; rfl
    · have h1 : decide (keyS p.1 = keyS x) = false := decide_eq_false fun z => h (keyS_inj.mp z)
      have h2 : (p.1 == x) = false := by rw [beq_eq_false_iff_ne]; exact h
      dsimp only
      rw [h1, h2]; exact ih
def kG : D → D → Option D
  | .dk ds, .str x => getG ds (keyS x)
  | _, _ => none
def kI : D → D → Option Bool
  | .dk ds, .str x => some (getG ds (keyS x)).isSome
  | _, _ => none
theorem kG_S {kvs : List (List Nat × D)} {x : List Nat} : kG (.dk (mkS kvs)) (.str x) = getS kvs x := getG_S x kvs
theorem kI_S {kvs : List (List Nat × D)} {x : List Nat} : kI (.dk (mkS kvs)) (.str x) = some (getS kvs x).isSome := congrArg (fun o : Option D => some o.isSome) (getG_S x kvs)
section
variable {K : Fg} {M : Ml} {H : Hp}
theorem isK_val {K : Fg0} (k : Key) : ∀ {vs : List (Key × V)} {ds : List (Key × D)}, IsK K M H vs ds → (valV vs k = none ∧ getG ds k = none) ∨ ∃ v d, valV vs k = some v ∧ getG ds k = some d ∧ Is K M H v d
  | _, _, .nil => .inl ⟨rfl, rfl⟩
  | _, _, .cons (k := j) (v := v) (d := d) h t => by
    by_cases e : j = k
    · refine .inr ⟨v, d, valV_pos e, ?_, h⟩
      unfold getG
      rw [List.find?_cons, decide_eq_true e]; rfl
    · rw [valV_neg (p := (j, v)) e]
      have : ∀ r : List (Key × D), getG ((j, d) :: r) k = getG r k := fun r => by
        unfold getG
        rw [List.find?_cons, decide_eq_false e]
      rw [this]
      exact isK_val k t
theorem isK_of {K : Fg0} : ∀ {vs : List (Key × V)} {ds : List (Key × D)}, vs.map (·.1) = ds.map (·.1) → IsA K M H (vs.map (·.2)) (ds.map (·.2)) → IsK K M H vs ds
  | [], [], _, _ => .nil
  | [], _ :: _, e, _ => by cases e
  | _ :: _, [], e, _ => by cases e
  | x :: vs, y :: ds, e, a => by
    rw [List.map_cons, List.map_cons, List.cons.injEq] at e
    rw [List.map_cons, List.map_cons] at a
    cases a with
    | cons h t =>
      obtain ⟨k, v⟩ := x
      obtain ⟨j, d⟩ := y
      obtain rfl : k = j := e.1
      exact .cons h (isK_of e.2 t)
theorem isK_to {K : Fg0} : ∀ {vs : List (Key × V)} {ds : List (Key × D)}, IsK K M H vs ds → vs.map (·.1) = ds.map (·.1) ∧ IsA K M H (vs.map (·.2)) (ds.map (·.2))
  | _, _, .nil => ⟨rfl, .nil⟩
  | _, _, .cons h t => by
    obtain ⟨e, a⟩ := isK_to t
    exact ⟨by rw [List.map_cons, List.map_cons, e], .cons h a⟩
theorem isK_put {K : Fg0} {v : V} {d : D} (k : Key) (iv : Is K M H v d) {vs : List (Key × V)} {ds : List (Key × D)} (i : IsK K M H vs ds) : IsK K M H (putK vs k v) (putG ds k d) := by
  obtain ⟨e, a⟩ := isK_to i
  obtain ⟨e', a'⟩ := put_isA k iv e a
  exact isK_of e' a'
theorem isK_len {K : Fg0} {vs : List (Key × V)} {ds : List (Key × D)} (i : IsK K M H vs ds) : vs.length = ds.length := by
  have := congrArg List.length (isK_to i).1
  rwa [List.length_map, List.length_map] at this
end

theorem putG_new {kvs : List (List Nat × D)} {x : List Nat} {d : D} (h : getS kvs x = none) : putG (mkS kvs) (keyS x) d = mkS (kvs ++ [(x, d)]) := by
  have e : ((mkS kvs).any fun kv => decide (kv.1 = keyS x)) = false := by
    unfold getS at h
    rw [Option.map_eq_none_iff, List.find?_eq_none] at h
    unfold mkS
    rw [List.any_map, List.any_eq_false]
    intro p hp z
    exact h p hp (beq_iff_eq.mpr (keyS_inj.mp (of_decide_eq_true z)))
  unfold putG
  rw [if_neg (by rw [e]; exact Bool.false_ne_true)]
  unfold mkS
  rw [List.map_append]
  rfl

/-! ### d[k], k in d -/
def fKGet (fa fb : FE) : FE := fun ρ Q => fa ρ fun d => fb ρ fun k => exS (kG d k) Q
def fKIn (fb fa : FE) : FE := fun ρ Q => fb ρ fun k => fa ρ fun d => exS (kI d k) fun b => Q (.bl b)
section
variable {K : Fg} {X : Cx} {a b : Expr} {ta tb : TE} {fa fb : FE} {pos : Pos}
theorem mo_KGet (ha : MoE fa) (hb : MoE fb) : MoE (fKGet fa fb) := fun ρ Q Q' h q => ha ρ _ _ (fun d q => hb ρ _ _ (fun k q => exS_mo h q) q) q
theorem mo_KIn (hb : MoE fb) (ha : MoE fa) : MoE (fKIn fb fa) := fun ρ Q Q' h q => hb ρ _ _ (fun d q => ha ρ _ _ (fun k q => exS_mo (fun b q => h _ q) q) q) q
theorem kG_some {d k r : D} (h : kG d k = some r) : ∃ ds x, d = .dk ds ∧ k = .str x ∧ getG ds (keyS x) = some r := by
  unfold kG at h
  split at h
  · exact ⟨_, _, rfl, rfl, h⟩
  · cases h
theorem kI_some {d k : D} {r : Bool} (h : kI d k = some r) : ∃ ds x, d = .dk ds ∧ k = .str x ∧ (getG ds (keyS x)).isSome = r := by
  unfold kI at h
  split at h
  · exact ⟨_, _, rfl, rfl, Option.some.inj h⟩
  · cases h
theorem e_kget (hu : X.A.units + 1 < cLine) (ha : DT K X a ta fa) (hb : DT K X b tb fb) (hs : NoSl b := by exact fun _ _ => rfl) : DE K X (.Subscript a b pos) (tDGet ta tb) (fKGet fa fb) := by
  refine ⟨pe_dget hu ha.pe hb.pe hs, fun M H0 z m H σ ρ Q I q => ?_, mo_KGet ha.mo hb.mo⟩
  refine ha.rd M H0 z m H σ ρ _ I (ha.mo ρ _ _ (fun d q v H1 s1 iv => ?_) q)
  refine hb.rd M H0 z m H1 σ ρ _ (I.step s1) (hb.mo ρ _ _ (fun k q u H2 s2 iu => ?_) q)
  obtain ⟨r, e0, qq⟩ := q
  obtain ⟨ds, x, rfl, rfl, e⟩ := kG_some e0
  have iv2 := iv.step (I.hx.step s1) s2
  obtain ⟨p, vs, rfl, hr, ik⟩ := iv2.dk
  obtain ⟨rfl, zl⟩ := iu.str
  rcases isK_val (keyS x) ik with ⟨_, e2⟩ | ⟨v, d, e1, e2, iv'⟩
  · rw [e2] at e; cases e
  · rw [e2] at e; cases e
    exact ⟨p, v, rfl, .inl ⟨vs, keyS x, hr, rfl, e1.symm⟩, qq v H2 (s1.trans s2) iv'⟩
theorem rd_kin (hb : DT K X b tb fb) (ha : DT K X a ta fa) : RdE K (tDIn tb ta) (fKIn fb fa) := fun M H0 z m H σ ρ Q I q => by
  refine hb.rd M H0 z m H σ ρ _ I (hb.mo ρ _ _ (fun k q u H1 s1 iu => ?_) q)
  refine ha.rd M H0 z m H1 σ ρ _ (I.step s1) (ha.mo ρ _ _ (fun d q v H2 s2 iv => ?_) q)
  obtain ⟨r, e0, qq⟩ := q
  obtain ⟨ds, x, rfl, rfl, e⟩ := kI_some e0
  obtain ⟨p, vs, rfl, hr, ik⟩ := iv.dk
  obtain ⟨rfl, zl⟩ := iu.str
  refine ⟨p, valV vs (keyS x), rfl, .inl ⟨vs, keyS x, hr, rfl, rfl⟩, ?_⟩
  have e3 : (valV vs (keyS x)).isSome = r := by
    rcases isK_val (keyS x) ik with ⟨e1, e2⟩ | ⟨v, d, e1, e2, iv'⟩
    · rw [e1, ← e, e2]; rfl
    · rw [e1, ← e, e2]; rfl
  rw [e3]
  exact qq _ _ (s1.trans s2) (.bl r)
theorem e_kin (hu : X.A.units + 1 < cLine) (hb : DT K X b tb fb) (ha : DT K X a ta fa) (hm : behindInMarks .In a = false := by rfl) : DE K X (.Compare b [.In] [a] pos) (tDIn tb ta) (fKIn fb fa) :=
  ⟨pe_cmp (pc_din hu hb.pe ha.pe) hm, rd_kin hb ha, mo_KIn hb.mo ha.mo⟩
theorem b_kin (hu : X.A.units + 1 < cLine) (hb : DT K X b tb fb) (ha : DT K X a ta fa) (hm : behindInMarks .In a = false := by rfl) : DB K X (.Compare b [.In] [a] pos) (tB (tDIn tb ta)) (bB (fKIn fb fa)) :=
  ⟨pt_cmp (pc_din hu hb.pe ha.pe) hm, rd_bB (e_kin (pos := pos) hu hb ha hm).top.rd (mo_KIn hb.mo ha.mo), mo_bB (mo_KIn hb.mo ha.mo)⟩
end

/-! ### x["k"] = v of the frame's own dict -/
def sPutK (i : Nat) (fk f : FE) : FS := fun E ρ => exS (slK ρ i) fun kvs => f ρ fun d => fk ρ fun k => ∃ x, k = .str x ∧ kvs.length < sizeLine ∧ E.nx (ρ.set i (.od (putG kvs (keyS x) d)))
section
variable {K : Fg} {X : Cx} {pos pos' npos : Pos} {x : Str} {e ie : Expr} {te ti : TE} {f fi : FE}
theorem d_kput (i : Nat) (hu : X.A.units + 1 < cLine) (hi' : DT K X ie ti fi) (h : DE K X e te f) (hN : X.N[i]? = some x := by rfl) (hv : Vis X.env.scope x := by first | exact Or.inl rfl | exact Or.inr (Or.inl rfl) | exact Or.inr (Or.inr rfl)) (hd : (x == ("__debug__" : Str)) = false := by decide)
    (hcd : (x == ("__classdict__" : Str)) = false := by decide)
    (hs : swapsWith e (some (.Subscript (.Name x npos) ie pos')) pos.line X.env = pure false := by rfl) :
    DS K X (.Assign [.Subscript (.Name x npos) ie pos'] e pos) (sDPut (tVar i) ti te) (sPutK i fi f) := by
  refine ⟨ps_dput hu (pe_var hN hv hd hcd) hi'.pe h.pe hs, fun M H0 z m H σ ρ W E I c q => ?_⟩
  obtain ⟨kvs, e0', q⟩ := q
  have e0 := slK_of e0'
  obtain ⟨p, vs, e1, e2, ia, mp, nw, n0⟩ := I.slot i _ e0
  refine h.rd M H0 z m H σ ρ _ I (h.mo ρ _ _ (fun d q1 v H1 s1 iv => ?_) q)
  refine ⟨.ref p, e1, ?_⟩
  refine hi'.rd M H0 z m H1 σ ρ _ (I.step s1) (hi'.mo ρ _ _ (fun k q2 u H2 s2 iu => ?_) q1)
  obtain ⟨y, rfl, hl, q3⟩ := q2
  obtain ⟨rfl, zl⟩ := iu.str
  have s := s1.trans s2
  have e2' := s.keep p _ nw e2
  refine ⟨p, _, rfl, DPut.k (k := keyS y) e2' (by rw [isK_len ia]; exact hl), ?_⟩
  have k2 := isK_put (keyS y) ((I.step s1).is s2 iv) (ia.mono (I.same s))
  obtain ⟨I', f'⟩ := (I.step s).wrO (s1 := .od (putG kvs (keyS y) d)) (o := .dK (putK vs (keyS y) v)) e0 trivial trivial e1 ⟨p, _, rfl, upd_same, k2.mono (same_wr mp), mp, nw, n0⟩
  exact c.nx m σ _ _ I' ((I.fw s).trans f') q3
end
/-- return x: the frame's own dict -/
def sRetK (i : Nat) : FS := fun E ρ => exS (slK ρ i) fun kvs => E.rt (.dk kvs)
theorem d_retK {K : Fg} {X : Cx} {pos pos' : Pos} {x : Str} (i : Nat) (hN : X.N[i]? = some x := by rfl) (hv : Vis X.env.scope x := by first | exact Or.inl rfl | exact Or.inr (Or.inl rfl) | exact Or.inr (Or.inr rfl)) (hd : (x == ("__debug__" : Str)) = false := by decide)
    (hcd : (x == ("__classdict__" : Str)) = false := by decide) : DS K X (.Return (some (.Name x pos')) pos) (tRet (tVar i)) (sRetK i) := by
  refine ⟨ps_ret (pe_var hN hv hd hcd), fun M H0 z m H σ ρ W E I c q => ?_⟩
  obtain ⟨kvs, e0', q⟩ := q
  obtain ⟨p, vs, e1, e2, ia, mp, nw, n0⟩ := I.slot i _ (slK_of e0')
  refine ⟨.ref p, e1, c.rt (.ref p) H (.dk kvs) I.stp (.dk (.inl ?_) (ia.mono (hid_less I.zm))) q⟩
  rw [hid_in fun w => I.zt p w n0]
  exact e2

/-! ### x = {k: v, ..} -/
def FPs := En → (List (List Nat × D) → Prop) → Prop
def RdPs (K : Fg) (trs : List (TE × TE)) (f : FPs) : Prop := ∀ (M : Ml) H0 z m H σ ρ (Q : List (V × V) → Hp → Prop), EnOk K M H0 z m H σ ρ →
  f ρ (fun kvs => ∀ vs H', Stp M H H' → IsK K M (hid m H') vs (mkS kvs) → Q (vs.map fun kv => (kV kv.1, kv.2)) H') → tPairs trs σ H Q
structure DPs (K : Fg) (X : Cx) (pos : Pos) (keys : List (Option Expr)) (vals : List Expr) (trs : List (TE × TE)) (f : FPs) : Prop where
  pps : PPs X pos keys vals trs
  rd : RdPs K trs f
  mo : ∀ ρ (Q Q' : List (List Nat × D) → Prop), (∀ d, Q d → Q' d) → f ρ Q → f ρ Q'
def pNil : FPs := fun _ Q => Q []
def pCons (x : List Nat) (f : FE) (r : FPs) : FPs := fun ρ Q => f ρ fun d => r ρ fun kvs => Q ((x, d) :: kvs)
section
variable {K : Fg} {X : Cx} {pos : Pos} {ks : List (Option Expr)} {vs : List Expr} {trs : List (TE × TE)} {fr : FPs}
theorem p_nil : DPs K X pos [] [] [] pNil := ⟨pps_nil, fun M H0 z m H σ ρ Q I q => q [] H I.hx.rfl .nil, fun ρ Q Q' h q => h _ q⟩
theorem p_cons {s : Str} {e : Expr} {te : TE} {f : FE} {j : Tok} {cp : Pos} (x : List Nat) (h : DE K X e te f) (r : DPs K X pos ks vs trs fr) (hs : s = S x := by rfl) : DPs K X pos (some (.Constant (.str s) j cp) :: ks) (e :: vs) ((tC (.str s), te) :: trs) (pCons x f fr) := by
  subst hs
  refine ⟨pps_cons pe_str h.pe r.pps, fun M H0 z m H σ ρ Q I q => ?_, fun ρ Q Q' hq q => h.mo ρ _ _ (fun d q => r.mo ρ _ _ (fun kvs q => hq _ q) q) q⟩
  show te σ H fun y H2 => tPairs trs σ H2 fun ps H3 => Q ((.str (S x), y) :: ps) H3
  refine h.rd M H0 z m H σ ρ _ I (h.mo ρ _ _ (fun d q v H1 s1 iv => ?_) q)
  refine r.rd M H0 z m H1 σ ρ _ (I.step s1) (r.mo ρ _ _ (fun kvs q ws H2 s2 iw => ?_) q)
  exact q ((keyS x, v) :: ws) H2 (s1.trans s2) (.cons ((I.step s1).is s2 iv) iw)
end
theorem merge_new : ∀ (more acc : List (Key × V)), ((acc ++ more).map (·.1)).Nodup → mergeK acc more = acc ++ more
  | [], acc, _ => by rw [List.append_nil]; rfl
  | p :: r, acc, h => by
    have e : putK acc p.1 p.2 = acc ++ [p] := by
      refine putK_new p.2 ?_
      rw [List.map_append, List.map_cons, List.nodup_append] at h
      have : ∀ l : List (Key × V), (∀ k ∈ l.map (·.1), k ≠ p.1) → valV l p.1 = none := fun l => by
        induction l with
        | nil => intro _; rfl
        | cons a l ih => intro h; rw [valV_neg (h a.1 (by simp))]; exact ih fun k hk => h k (by rw [List.map_cons]; exact List.mem_cons_of_mem _ hk)
      exact this acc fun k hk => h.2.2 k hk p.1 List.mem_cons_self
    show mergeK (putK acc p.1 p.2) r = _
    rw [e, merge_new r (acc ++ [p]) (by rw [List.append_assoc]; exact h), List.append_assoc]
    rfl
def sNewD (i : Nat) (f : FPs) : FS := fun E ρ => i < ρ.length ∧ f ρ fun kvs => (kvs.map (·.1)).Nodup ∧ kvs.length ≤ 15 ∧ E.nx (ρ.set i (.od (mkS kvs)))
theorem d_newD {K : Fg} {X : Cx} {pos pos' dpos : Pos} {x : Str} {ks : List (Option Expr)} {vs : List Expr} {trs : List (TE × TE)} {f : FPs} (i : Nat) (h : DPs K X dpos ks vs trs f) (hN : X.N.Nodup) (hi : X.N[i]? = some x := by rfl) (hx : Loc X.env.scope x := by first | exact Or.inl rfl | exact Or.inr rfl)
    (hs : swapsWith (.Dict ks vs dpos) (some (.Name x pos')) pos.line X.env = pure false := by rfl) (hf : X.fn x = true ∨ X.env.scope.names.lookup x = some .local := by first | exact .inl rfl | exact .inr rfl)
    (hall : ks.all (·.isSome) = true := by rfl) (hl : ks.length = vs.length := by rfl) (h0 : ks ≠ [] := by exact fun z => nomatch z) (h15 : ks.length ≤ 15 := by decide) :
    DS K X (.Assign [.Name x pos'] (.Dict ks vs dpos) pos) (tAsg (tDisp trs) (gName i)) (sNewD i f) := by
  refine ⟨ps_set hN hi hx (pe_disp h.pps hall hl h0 h15) hs hf, fun M H0 z m H σ ρ W E I c hq => ?_⟩
  intro p np
  have I1 := I.hide (.new I.ok np) np (upd_same (o := HO.dK []))
  refine h.rd M H0 z _ _ σ ρ _ I1 (h.mo ρ _ _ (fun kvs q ws H2 s2 iw => ?_) hq.2)
  obtain ⟨nd, lf, q⟩ := q
  have n0 : H0 p = none := by
    cases e0 : H0 p with
    | none => rfl
    | some o => exact absurd np (I.stp.there p (by rw [e0]; exact fun q => nomatch q))
  have nm : ¬ m p := I.hx.fresh np
  have nw : ¬ M.w p := fun w => nm (I.mw p w)
  have eH2 : H2 p = some (.dK []) := s2.keep p _ nw upd_same
  have e1 := (isK_to iw).1
  have lw : ws.length = kvs.length := by rw [isK_len iw]; unfold mkS; rw [List.length_map]
  have em : mergeK [] ws = ws := by
    refine merge_new ws [] ?_
    rw [List.nil_append, e1]
    unfold mkS
    rw [List.map_map]
    have : ((kvs.map (·.1)).map keyS).Nodup := List.Pairwise.map keyS (fun a b hab hk => hab (keyS_inj.mp hk)) nd
    rwa [List.map_map] at this
  refine ⟨eH2, ws, rfl, by rw [lw]; exact lf, ?_⟩
  rw [em]
  have s : Stp M H (upd H2 p (.dK ws)) := by
    have sa : Stp M H (upd H p (.dK [])) := .new I.ok np
    have sb := sa.trans s2
    exact stp_wr sb np nw (nc_of (s2.keep _ _ nw upd_same) fun _ z => nomatch z)
  have I' := I.step s
  have sm : Same (hid m H) (hid (fun b => m b ∨ b = p) (upd H2 p (.dK ws))) := (hid_more np).trans (hid_same fun b u k e => s.keep b u (fun w => k (.inl (I.mw b w))) e)
  refine c.nx (fun b => m b ∨ b = p) _ _ _ (I'.putO (s1 := .od (mkS kvs)) hq.1 nm (by rw [upd_same]; exact fun z => nomatch z) trivial ⟨p, ws, rfl, upd_same, iw.mono (same_wr (Or.inr rfl)), .inr rfl, nw, n0⟩ fun j sl e1 => (I.slot j sl e1).step sm (fun b u h _ e => s.keep b u h e) (fun _ _ h => .inl h)) ?_ q
  exact ⟨fun b o k e1 => ⟨s.keep b o (fun w => k (I.mw b w)) e1, fun w => w.elim k fun w => by subst w; rw [np] at e1; cases e1⟩, s.there⟩

/-! ### a written dict of the module -/
def keyT (e : DictEntry) : Option (List Nat) := match e.key with
  | .str x _ => some x.cps.toList
  | _ => none
structure WD (K : Fg0) (w : World) (a : Addr) (kvs : List (List Nat × D)) : Prop where
  at_ : ∃ es n, K.lookup a = some ⟨.type "dict", none, .dict es n, #[]⟩ ∧ PySem.W.KeysLit w.params es.toList ∧ (a == sysModules) = false ∧ es.toList.map keyT = kvs.map fun p => some p.1
  val : ∀ kv ∈ kvs, ∃ u v, PySem.W.nsIn K a (S kv.1) = some (some u) ∧ RelV v u ∧ ∀ M H, Is K M H v kv.2
/-- one entry: a tuple of texts -/
theorem wd_one {K : Fg0} {a b : Addr} {s : Str} {o : Option Addr} {its : Array Value} {n : Nat} {sl : Array (Option Value)} {k : List Nat} {ts : List (List Nat)} (h : PySem.W.nsIn K a s = some (some (.ref b))) (l : K.lookup b = some ⟨.type "tuple", o, .seq its n, sl⟩)
    (hs : s = S k := by rfl) (hv : its.toList.map (fun v => match v with | .str x _ => some x | _ => none) = ts.map fun t => some (S t)) (hz : ts.length ≤ sizeLine) (hw : ∀ t ∈ ts, t.length ≤ sizeLine) :
    ∃ u v, PySem.W.nsIn K a (S k) = some (some u) ∧ RelV v u ∧ ∀ M H, Is K M H v (.tup (ts.map D.str)) := by
  subst hs
  have hl : its.size = ts.length := by
    have := congrArg List.length hv
    rwa [List.length_map, List.length_map, Array.length_toList] at this
  have hp : ∀ (us : List Value) (ts : List (List Nat)), us.map (fun v => match v with | .str x _ => some x | _ => none) = ts.map (fun t => some (S t)) → Vals ((ts.map S).map V.str) us := by
    intro us
    induction us with
    | nil =>
      intro ts h
      cases ts with
      | nil => exact .nil
      | cons _ _ => cases h
    | cons u us ih =>
      intro ts h
      cases ts with
      | nil => cases h
      | cons t ts =>
        rw [List.map_cons, List.map_cons, List.cons.injEq] at h
        refine .cons ?_ (ih ts h.2)
        have h1 := h.1
        split at h1
        · cases h1; exact ⟨_, rfl⟩
        · cases h1
  exact ⟨.ref b, .ref b, h, rfl, fun M H => .tup (.inr ⟨_, its, n, l, rfl, rfl, by rw [hl]; exact hz, hp _ _ hv⟩) (IsA.ofStrs hw) (by rw [List.length_map]; exact hz)⟩
theorem wd_nil {α : Type} {P : α → Prop} : ∀ kv ∈ ([] : List α), P kv := fun _ h => nomatch h
theorem wd_cons {α : Type} {P : α → Prop} {a : α} {r : List α} (h : P a) (t : ∀ kv ∈ r, P kv) : ∀ kv ∈ a :: r, P kv := fun kv q => by
  rcases List.mem_cons.mp q with e | e
  · rw [e]; exact h
  · exact t kv e
def tW (mg : Str → Option Value) (x : Str) : TE := fun _ H Q => ∃ a, mg x = some (.ref a) ∧ Q (.ref a) H
theorem pe_w {X : Cx} {x : Str} {p : Pos} (hg : Gl X x) (hd : (x == ("__debug__" : Str)) = false) : PE X (.Name x p) (tW X.mg x) :=
  ⟨fun pins s σ H Q I h => by
    obtain ⟨a, e, q⟩ := h
    exact (pe_glob (v := .ref a) hg e rfl hd).run pins s σ H Q I q⟩
def kS (kvs : List (List Nat × D)) : D → Option D
  | .str x => getS kvs x
  | _ => none
def fWG (kvs : List (List Nat × D)) (fb : FE) : FE := fun ρ Q => fb ρ fun k => exS (kS kvs k) Q
theorem getS_mem {kvs : List (List Nat × D)} {x : List Nat} {d : D} (h : getS kvs x = some d) : (x, d) ∈ kvs := by
  unfold getS at h
  cases e : kvs.find? (fun p => p.1 == x) with
  | none => rw [e] at h; cases h
  | some p =>
    rw [e] at h
    have h1 := List.find?_some e
    have h2 := List.mem_of_find?_eq_some e
    cases h
    rw [← (beq_iff_eq.mp h1 : p.1 = x)]
    exact h2
section
variable {K : Fg} {X : Cx} {x : Str} {b : Expr} {tb : TE} {fb : FE} {pos p p2 : Pos} {kvs : List (List Nat × D)}
theorem e_wget (c : ∃ a, X.mg x = some (.ref a) ∧ WD K X.w a kvs) (hb : DT K X b tb fb) (hK : X.K = K := by rfl) (hg : Gl X x := by rfl) (hd : (x == ("__debug__" : Str)) = false := by decide) (hs : PlainIx b := by exact fun _ _ => rfl) :
    DE K X (.Subscript (.Name x p) b pos) (tOp (rIxD K X.w) (tW X.mg x) tb) (fWG kvs fb) := by
  obtain ⟨K, stK⟩ := K
  replace hK : X.K = K := hK
  subst hK
  refine ⟨pe_ix ix_kdict (pe_w hg hd) hb.pe hs, fun M H0 z m H σ ρ Q I q => ?_, fun ρ Q Q' h q => hb.mo ρ _ _ (fun k q => exS_mo h q) q⟩
  obtain ⟨a, e, W⟩ := c
  refine ⟨a, e, ?_⟩
  refine hb.rd M H0 z m H σ ρ _ I (hb.mo ρ _ _ (fun k q u H1 s1 iu => ?_) q)
  obtain ⟨d, ed, q⟩ := q
  cases k with
  | str y =>
    obtain ⟨rfl, zl⟩ := iu.str
    obtain ⟨u, v, h1, h2, h3⟩ := W.val _ (getS_mem ed)
    obtain ⟨es, n, g1, g2, g3, g4⟩ := W.at_
    exact ⟨a, S y, v, rfl, rfl, ⟨es, n, u, g1, g2, h1, h2⟩, q v H1 s1 (h3 _ _)⟩
  | _ => cases ed
def rWL (K : Fg0) : List V → Hp → VK → Prop := fun xs H Q => ∃ (a : Addr) (ks : List (List Nat)), xs = [V.ref a] ∧ (∃ es n, K.lookup a = some ⟨.type "dict", none, .dict es n, #[]⟩ ∧ (a == sysModules) = false ∧ es.toList.map keyT = ks.map some) ∧ ks.length ≤ sizeLine ∧ ∀ q, H q = none → Q (.ref q) (upd H q (.lst (ks.map fun k => V.str (S k))))
theorem call_listW {X : Cx} (hc : X.A.handled = none) : CallR X (.type "list") (rWL X.K) := by
  intro pins s σ H xs us Q I r h
  obtain ⟨a, ks, rfl, ⟨es, n, hl, lo, hk⟩, zl, q⟩ := h
  obtain ⟨u, rfl, rx⟩ := r.one
  cases rx
  have hs : s.heap.get? a = some ⟨.type "dict", none, .dict es n, #[]⟩ := I.kIn _ _ hl
  have l1 : es.size = ks.length := by
    have := congrArg List.length hk
    rwa [List.length_map, List.length_map, Array.length_toList] at this
  refine PySem.W.kdl_call (kdl_raw lo ⟨rfl, rfl, rfl⟩ rfl) hc hs (by omega) fun h' tk acc' c' kp e it => ?_
  refine ⟨.ref s.heap.objs.size, upd H s.heap.objs.size (.lst (ks.map fun k => V.str (S k))), I.laid kp (Nat.le_refl _) (show ObjOk X.prog X.w _ _ _ (.lst (ks.map fun k => V.str (S k))) from ⟨by rw [List.length_map]; exact zl, acc'.toList, c', ?_, by rw [Array.toArray_toList]; exact e⟩), rfl, q _ (I.hok.fresh (Nat.le_refl _))⟩
  refine vals_of_at (by have h5 : acc'.toList.length = acc'.size := Array.length_toList; have := it.1; rw [List.length_map]; omega) fun j x w h1 h2 => ?_
  obtain ⟨en, hen, hv⟩ := it.2 j w (by rw [← Array.getElem?_toList]; exact h2)
  rw [List.getElem?_map] at h1
  cases ej : ks[j]? with
  | none => rw [ej] at h1; cases h1
  | some k =>
    rw [ej] at h1
    obtain rfl : V.str (S k) = x := Option.some.inj h1
    have h3 : (es.toList.map keyT)[j]? = some (some k) := by rw [hk, List.getElem?_map, ej]; rfl
    rw [List.getElem?_map, Array.getElem?_toList, hen] at h3
    have h4 : keyT en = some k := Option.some.inj h3
    unfold keyT at h4
    split at h4
    · rename_i y t ey
      rw [hv, ey]
      refine ⟨t, ?_⟩
      have : y = S k := by rw [← Option.some.inj h4]; exact (S_of y).symm
      rw [this]
    · cases h4
def lWL (kvs : List (List Nat × D)) : FA := fun _ Q => Q (kvs.map fun p => D.str p.1)
theorem l_wlist (hc : X.A.handled = none) (c : ∃ a, X.mg x = some (.ref a) ∧ WD K X.w a kvs) (hm : X.mg "list" = none) (zl : kvs.length ≤ sizeLine := by decide) (zk : ∀ kv ∈ kvs, kv.1.length ≤ sizeLine := by decide) (hK : X.K = K := by rfl) (hgl : Gl X "list" := by rfl) (hg : Gl X x := by rfl) (hd : (x == ("__debug__" : Str)) = false := by decide)
    (he : starEach [.Name x p2] X.env = (false, eval (.Name x p2) X.env) :: starEach [] X.env := by rfl) (hpl : (backTo pos (starEach [] X.env)).any (·.1) = false := by rfl) :
    DF K X (.Call (.Name "list" p) [.Name x p2] [] pos) (tCB (rWL K) (tCons (tW X.mg x) tNil)) (lWL kvs) := by
  obtain ⟨K, stK⟩ := K
  replace hK : X.K = K := hK
  subst hK
  refine ⟨pe_callTy (call_listW hc) hgl hm (by decide +kernel) (pa_cons (pe_w hg hd) pa_nil he) (by decide) (by decide) he hpl, fun M H0 z m H σ ρ Q I q => ?_, fun ρ Q Q' h q => h _ q⟩
  obtain ⟨a, e, W⟩ := c
  obtain ⟨es, n, g1, g2, g3, g4⟩ := W.at_
  refine ⟨a, e, a, kvs.map (·.1), rfl, ⟨es, n, g1, g3, by rw [g4, List.map_map]; rfl⟩, by rw [List.length_map]; exact zl, fun l nl => ?_⟩
  refine q l _ _ (.new I.ok nl) nl upd_same ?_ (by rw [List.length_map]; exact zl)
  have := IsA.ofStrs (K := X.K) (M := M) (H := hid (fun b => m b ∨ b = l) (upd H l (.lst ((kvs.map (·.1)).map fun k => V.str (S k))))) (ns := kvs.map (·.1)) fun n hn => by
    obtain ⟨kv, h1, rfl⟩ := List.mem_map.mp hn
    exact zk kv h1
  have e2 : (kvs.map (·.1)).map D.str = kvs.map fun p => D.str p.1 := List.map_map
  have e3 : ((kvs.map (·.1)).map S).map V.str = (kvs.map (·.1)).map fun k => V.str (S k) := List.map_map
  rw [e2, e3] at this
  exact this
end
end Pl

namespace Pl
open PySem PySem.Spec PyProof.Rows L2

/-! ### len(dict(pairs)), pairs of a text and a value -/
def gLenDict : F1 := fun a Q => match a with
  | .lst xs => ∃ kvs : List (List Nat × D), xs = kvs.map (fun p => D.tup [.str p.1, p.2]) ∧ Q (.int (dd (kvs.map (·.1))).length)
  | _ => False
theorem mo_gLenDict : Mo1 gLenDict := fun a Q Q' h q => by
  unfold gLenDict at q ⊢
  split at q
  · obtain ⟨rows, e, q⟩ := q
    exact ⟨rows, e, h _ q⟩
  · exact q
theorem valV_none {l : List (Key × V)} {k : Key} (h : ∀ j ∈ l.map (·.1), j ≠ k) : valV l k = none := by
  induction l with
  | nil => rfl
  | cons a l ih => rw [valV_neg (h a.1 (by simp))]; exact ih fun k hk => h k (by rw [List.map_cons]; exact List.mem_cons_of_mem _ hk)
open Classical in
theorem putK_keys (l : List (Key × V)) (k : Key) (v : V) : (putK l k v).map (·.1) = if k ∈ l.map (·.1) then l.map (·.1) else l.map (·.1) ++ [k] := by
  by_cases h : k ∈ l.map (·.1)
  · rw [if_pos h]
    have e : (l.any fun kv => decide (kv.1 = k)) = true := by
      obtain ⟨p, hp, rfl⟩ := List.mem_map.mp h
      exact List.any_eq_true.mpr ⟨p, hp, decide_eq_true rfl⟩
    unfold putK
    rw [if_pos e, List.map_map]
    refine List.map_congr_left fun p hp => ?_
    show (if p.1 = k then (p.1, v) else p).1 = p.1
    split <;> rfl
  · rw [if_neg h, putK_new v (valV_none fun j hj e => h (by rw [← e]; exact hj)), List.map_append]
    rfl
open Classical in
theorem merge_keys : ∀ (more acc : List (Key × V)), (acc.map (·.1)).Nodup → ((mergeK acc more).map (·.1)).Nodup ∧ ∀ k, k ∈ (mergeK acc more).map (·.1) ↔ k ∈ acc.map (·.1) ∨ k ∈ more.map (·.1)
  | [], acc, h => ⟨h, fun k => by simp [mergeK]⟩
  | p :: r, acc, h => by
    have e := putK_keys acc p.1 p.2
    have hn : ((putK acc p.1 p.2).map (·.1)).Nodup := by
      rw [e]
      split
      · exact h
      · rename_i hk
        exact List.nodup_append.mpr ⟨h, (by simp), fun a ha b hb => by rw [List.mem_singleton.mp hb]; exact fun z => hk (z ▸ ha)⟩
    obtain ⟨i1, i2⟩ := merge_keys r (putK acc p.1 p.2) hn
    refine ⟨i1, fun k => ?_⟩
    show k ∈ (mergeK (putK acc p.1 p.2) r).map (·.1) ↔ _
    rw [i2 k, e, List.map_cons, List.mem_cons]
    split
    · rename_i hk
      constructor
      · rintro (q | q)
        · exact .inl q
        · exact .inr (.inr q)
      · rintro (q | q | q)
        · exact .inl q
        · rw [q]; exact .inl hk
        · exact .inr q
    · rw [List.mem_append, List.mem_singleton]
      constructor
      · rintro ((q | q) | q)
        · exact .inl q
        · exact .inr (.inl q)
        · exact .inr (.inr q)
      · rintro (q | q | q)
        · exact .inl (.inl q)
        · exact .inl (.inr q)
        · exact .inr q
section
variable {K : Fg} {M : Ml} {H : Hp}
theorem isA_pairs {K : Fg0} : ∀ {vs : List V} (kvs : List (List Nat × D)), IsA K M H vs (kvs.map fun p => D.tup [.str p.1, p.2]) → ∃ (ps : List Addr) (ws : List (Key × V)), vs = ps.map V.ref ∧ Paired (fun p kv => SqT K H p [kV kv.1, kv.2]) ps ws ∧ ws.map (·.1) = (kvs.map (·.1)).map keyS
  | _, [], .nil => ⟨[], [], rfl, .nil, rfl⟩
  | _, p :: kvs, .cons i t => by
    obtain ⟨ps, ws, e1, e2, e3⟩ := isA_pairs kvs t
    cases i with
    | tup hs a z =>
      rename_i b xs
      cases a with
      | cons j1 j2 =>
        cases j1
        cases j2 with
        | @cons w _ _ _ j2 j3 =>
          cases j3
          exact ⟨b :: ps, (keyS p.1, w) :: ws, by rw [e1]; rfl, .cons hs e2, by rw [List.map_cons, List.map_cons, List.map_cons, e3]⟩
end
def rLenK : List V → Hp → VK → Prop := fun xs H Q => ∃ a kvs, xs = [V.ref a] ∧ H a = some (.dK kvs) ∧ Q (.int kvs.length) H
def rDictP (K : Fg0) : List V → Hp → VK → Prop := fun xs H Q => ∃ (a : Addr) (ps : List Addr) (kvs : List (Key × V)), xs = [.ref a] ∧ SqL K H a (ps.map V.ref) ∧ Paired (fun p kv => SqT K H p [kV kv.1, kv.2]) ps kvs ∧
    ∀ p, H p = none → Q (.ref p) (upd H p (.dK (mergeK [] kvs)))
theorem pair_mono {K : Fg0} {H H' : Hp} (s : Same H H') {ps : List Addr} {ws : List (Key × V)} (h : Paired (fun p kv => SqT K H p [kV kv.1, kv.2]) ps ws) : Paired (fun p kv => SqT K H' p [kV kv.1, kv.2]) ps ws := by
  induction h with
  | nil => exact .nil
  | cons a _ ih => exact .cons (same_sqT s a) ih
theorem e_lenDict {K : Fg} {X : Cx} {a : Expr} {ta : TE} {f : FE} {p p2 q pos : Pos} (hc : X.calm = true) (hm : X.mg "len" = none) (hm2 : X.mg "dict" = none) (h : DT K X a ta f) (hK : X.K = K := by rfl) (hg : Gl X "len" := by rfl) (hg2 : Gl X "dict" := by rfl)
    (na : starEach [a] X.env = (false, eval a X.env) :: starEach [] X.env := by rfl) (hpl2 : (backTo q (starEach [] X.env)).any (·.1) = false := by rfl)
    (nb : starEach [.Call (.Name "dict" p2) [a] [] q] X.env = (false, eval (.Call (.Name "dict" p2) [a] [] q) X.env) :: starEach [] X.env := by rfl) (hpl : (backTo pos (starEach [] X.env)).any (·.1) = false := by rfl) :
    DE K X (.Call (.Name "len" p) [.Call (.Name "dict" p2) [a] [] q] [] pos) (tCB rLenK (tCons (tCB (rDictP K) (tCons ta tNil)) tNil)) (f1 gLenDict f) := by
  obtain ⟨K, stK⟩ := K
  replace hK : X.K = K := hK
  subst hK
  refine ⟨pe_callB call_lenD hg hm PySem.boot_len (pa_cons (pe_callTy (call_dictP hc) hg2 hm2 (by decide +kernel) (pa_cons h.pe pa_nil na) (by decide) (by decide) na hpl2) pa_nil nb) (by decide) (by decide) nb hpl, fun M H0 z m H σ ρ Q I q => ?_, mo_f1 mo_gLenDict h.mo⟩
  refine h.rd M H0 z m H σ ρ _ I (h.mo ρ _ _ (fun d q v H1 s i => ?_) q)
  unfold gLenDict at q
  split at q
  · obtain ⟨kvs, rfl, q⟩ := q
    obtain ⟨l, vs, rfl, hl, ia, zl⟩ := i.lst
    obtain ⟨ps, ws, rfl, hp, ek⟩ := isA_pairs kvs ia
    refine ⟨l, ps, ws, rfl, .of hl, pair_mono hid_all hp, fun b nb => ⟨b, _, rfl, upd_same, ?_⟩⟩
    have s2 : Stp M H1 (upd H1 b (.dK (mergeK [] ws))) := .new (I.hx.step s).ok nb
    obtain ⟨g1, g2⟩ := merge_keys ws [] (by simp)
    have e : (mergeK [] ws).length = (dd (kvs.map (·.1))).length := by
      rw [← List.length_map (f := fun p : Key × V => p.1), ← List.length_map (f := keyS) (as := dd (kvs.map (·.1)))]
      refine nodup_len g1 (List.Pairwise.map keyS (fun a b hab hk => hab (keyS_inj.mp hk)) (nodup_dd _)) fun k => ?_
      rw [g2 k, ek]
      constructor
      · rintro (h | h)
        · exact nomatch h
        · obtain ⟨x, hx, rfl⟩ := List.mem_map.mp h
          exact List.mem_map_of_mem (mem_dd.mpr hx)
      · intro h
        obtain ⟨x, hx, rfl⟩ := List.mem_map.mp h
        exact .inr (List.mem_map_of_mem (mem_dd.mp hx))
    rw [e]
    exact q _ _ (s.trans s2) (.int _)
  · exact q.elim
/-- the spec of a draw that wants a number from 1 on -/
def gDraw (kind : Nat) : FL := fun ds Q => ∃ n : Int, ds = [.ml kind, .int n] ∧ n < 1073741824 ∧ 1 ≤ n ∧ ∀ i : Int, 0 ≤ i → i < n → Q (.int i)
theorem mo_gDraw {kind : Nat} : MoL (gDraw kind) := fun a Q Q' h ⟨n, e, l, p, q⟩ => ⟨n, e, l, p, fun i h0 h1 => h _ (q i h0 h1)⟩
theorem len_gDraw {kind : Nat} : ∀ ds Q, gDraw kind ds Q → ds.length = 2 := fun ds Q ⟨n, e, _⟩ => by rw [e]; rfl
end Pl

namespace Pl
open PySem PySem.Spec PyProof.Rows L2

/-! ### zip of two texts -/
def ItzS (x y : Str) : It :=
  ⟨fun i H => i < x.cps.size ∧ i < y.cps.size, fun i H v H' => ∃ T c d, v = .ref T ∧ H T = none ∧ H' = upd H T (.tup [.str ⟨#[c]⟩, .str ⟨#[d]⟩]) ∧ x.cps[i]? = some c ∧ y.cps[i]? = some d,
    fun i H => i ≤ x.cps.size ∧ i ≤ y.cps.size ∧ (i = x.cps.size ∨ i = y.cps.size)⟩
theorem strIter_at {h h' : Heap} {it : Addr} {T : String} {x : Str} {t : Tok} {i : Nat} (q : h.IsStrIter it T x t i) (k : ∀ o, h.get? it = some o → h'.get? it = some o) : h'.IsStrIter it T x t i := let ⟨o, ho, r⟩ := q; ⟨o, k o ho, r⟩
theorem turn_zipS {P : Program} {w : World} {K : Fg0} {elts : List Expr} {kk : Nat} {tpos : Pos} (x y : Str) (t t2 : Tok) {z TI TO i1 i2 : Addr} (D : ZipSep2 z TI TO i1 i2 [i1] [i2]) :
    Turn P w K (.Tuple elts kk tpos) (ItzS x y) [z, TI, TO, i1, i2] z (fun i h => IsZip h z TI TO .none ∧ IsTupOf2 h TI (.ref i1) (.ref i2) ∧ (∃ a b, IsTupOf2 h TO a b) ∧ h.IsStrIter i1 (strIterType x) x t i ∧ h.IsStrIter i2 (strIterType y) y t2 i) where
  mem := by simp
  obj := fun i h st c hc => by
    obtain ⟨hz, hTI, ⟨a, b, hTO⟩, ⟨o1, e1, _, d1⟩, ⟨o2, e2, _, d2⟩⟩ := st
    have e' : c = z ∨ c = TI ∨ c = TO ∨ c = i1 ∨ c = i2 := by simpa using hc
    rcases e' with q | q | q | q | q
    · rw [q]; exact ⟨_, hz, fun v q => nomatch q⟩
    · rw [q]; exact ⟨_, hTI, fun v q => nomatch q⟩
    · rw [q]; exact ⟨_, hTO, fun v q => nomatch q⟩
    · rw [q]; exact ⟨o1, e1, fun v q => by rw [d1] at q; cases q⟩
    · rw [q]; exact ⟨o2, e2, fun v q => by rw [d2] at q; cases q⟩
  keep := fun i h h' st k => by
    obtain ⟨hz, hTI, ⟨a, b, hTO⟩, h1, h2⟩ := st
    exact ⟨k z (by simp) _ hz, k TI (by simp) _ hTI, ⟨a, b, k TO (by simp) _ hTO⟩, strIter_at h1 fun o q => k i1 (by simp) o q, strIter_at h2 fun o q => k i2 (by simp) o q⟩
  item := by
    intro X hP hw hK hc i pins s σ H E I hf st hg
    subst hP hw hK
    obtain ⟨hz, hTI, ⟨a, b, hTO⟩, h1, h2⟩ := st
    have hh : X.A.in1.handled = none := I.ok.hd hc
    have hzl : z < s.heap.objs.size := Heap.lt_size hz
    refine wpAny_pyNext_zipD2_item D (Draws.text hh i1 x t) (Draws.text hh i2 y t2) hz hTI hTO h1 h2 hg.1 hg.2 fun u u2 h' tk p1 p2 z' TO' h1' h2' hT hsz hk => ?_
    obtain ⟨c1, tu, hc1, rfl⟩ := p1
    obtain ⟨c2, tu2, hc2, rfl⟩ := p2
    refine ⟨_, rfl, wpAny_letOwnedTupleGo_zip (s := { s with heap := h', toks := tk }) z' fun h'' z'' sb => ?_⟩
    have hT2 : h''.get? s.heap.objs.size = some { cls := .type "tuple", data := .seq #[.str ⟨#[c1]⟩ tu, .str ⟨#[c2]⟩ tu2] } := (sb.2 _ (Nat.ne_of_gt hzl)).trans hT
    have new : ObjOk X.prog X.w (upd H s.heap.objs.size (.tup [.str ⟨#[c1]⟩, .str ⟨#[c2]⟩])) h'' s.heap.objs.size (.tup [.str ⟨#[c1]⟩, .str ⟨#[c2]⟩]) :=
      ⟨by show 2 ≤ sizeLine; decide, [.str ⟨#[c1]⟩ tu, .str ⟨#[c2]⟩ tu2], .cons ⟨_, rfl⟩ (.cons ⟨_, rfl⟩ .nil), ⟨_, hT2, rfl, _, rfl⟩⟩
    have I1 : Inv X pins σ (upd H s.heap.objs.size (.tup [.str ⟨#[c1]⟩, .str ⟨#[c2]⟩])) { s with heap := h'', toks := tk } :=
      I.turnedNew (t' := tk) (ch := [z, TI, TO, i1, i2]) (fun c o hb q => (sb.2 c (fun q' => hb (by simp [q']))).trans (hk c o (fun q' => hb (by simp [q'])) (fun q' => hb (by simp [q'])) (fun q' => hb (by simp [q'])) (fun q' => hb (by simp [q'])) q)) hf (Nat.le_refl _) new
    refine ⟨.ref s.heap.objs.size, _, I1, rfl, ⟨_, c1, c2, rfl, I.hok.fresh (Nat.le_refl _), rfl, hc1, hc2⟩, ⟨z'', ?_, ⟨.str ⟨#[c1]⟩ tu, .str ⟨#[c2]⟩ tu2, ?_⟩, ?_, ?_⟩, fun c hcm => ?_⟩
    · exact (sb.2 _ D.TIz).trans (hk _ _ D.TIz D.TITO D.TIi1 D.TIi2 hTI)
    · exact (sb.2 _ D.TOz).trans TO'
    · exact strIter_at h1' fun o q => (sb.2 _ D.zi1.symm).trans q
    · exact strIter_at h2' fun o q => (sb.2 _ D.zi2.symm).trans q
    · have hlt : c < s.heap.objs.size := by
        have e' : c = z ∨ c = TI ∨ c = TO ∨ c = i1 ∨ c = i2 := by simpa using hcm
        rcases e' with q | q | q | q | q
        · rw [q]; exact hzl
        · rw [q]; exact Heap.lt_size hTI
        · rw [q]; exact Heap.lt_size hTO
        · rw [q]; obtain ⟨_, e1, _⟩ := h1; exact Heap.lt_size e1
        · rw [q]; obtain ⟨_, e2, _⟩ := h2; exact Heap.lt_size e2
      rw [upd_ne (Nat.ne_of_lt hlt)]
      exact (hf c hcm).1
  done := by
    intro X hP hw hK hc i pins s σ H E I hf st hg
    subst hP hw hK
    obtain ⟨hz, hTI, ⟨a, b, hTO⟩, h1, h2⟩ := st
    have hh : X.A.in1.handled = none := I.ok.hd hc
    exact wpAny_pyNext_zipD2_end D (Draws.text hh i1 x t) (Draws.text hh i2 y t2) hz hTI hTO h1 h2 hg.1 hg.2.1 hg.2.2 fun h' tk hk => ⟨rfl, I.turnedL (t' := tk) (ch := [z, TI, TO, i1, i2]) (fun c o hb q =>
      hk c o (fun q' => hb (by simp [q'])) (fun q' => hb (by simp [q'])) (fun q' => hb (by simp [q'])) (fun q' => hb (by simp [q'])) q) hf⟩
  self := fun A i s Q E st h => wpAny_pyIter_zip st.1 h
def iZipS (ta : TA) : TI := fun σ H R => ta σ H fun vs H1 => ∃ x y, vs = [.str x, .str y] ∧ R (ItzS x y) H1
theorem pi_zipS {X : Cx} {e e2 : Expr} {ta : TA} {p pos tpos : Pos} {elts : List Expr} {kk : Nat} (hg : Gl X "zip") (hm : X.mg "zip" = none) (ha : PA X [e, e2] ta)
    (hs : starEach [e, e2] X.env = (false, eval e X.env) :: starEach [e2] X.env := by rfl) (hpl : (backTo pos (starEach [e2] X.env)).any (·.1) = false := by rfl) :
    PI X (.Tuple elts kk tpos) (.Call (.Name "zip" p) [e, e2] [] pos) (iZipS ta) := by
  refine ⟨fun pins s σ H R I h => ?_⟩
  refine Call_ (ld_blt I hg hm PyProof.Rows.boot_zip (PyProof.Rows.callWith_type1 (thn (ha.run pos pins s σ H _ I h) fun us s1 ⟨vs, H1, I1, r1, q1⟩ => ?_) hs hpl))
  obtain ⟨x, y, ex, q⟩ := q1
  subst ex
  cases r1 with
  | cons r rr =>
    cases rr with
    | cons r' rr =>
      cases rr
      obtain ⟨t, rfl⟩ := r
      obtain ⟨t2, rfl⟩ := r'
      have fresh5 : ∀ c, c ∈ [s1.heap.objs.size + 4, s1.heap.objs.size + 2, s1.heap.objs.size + 3, s1.heap.objs.size, s1.heap.objs.size + 1] → FpOk X pins H1 c := fun c hcm => by
        have e' : c = s1.heap.objs.size + 4 ∨ c = s1.heap.objs.size + 2 ∨ c = s1.heap.objs.size + 3 ∨ c = s1.heap.objs.size ∨ c = s1.heap.objs.size + 1 := by simpa using hcm
        have hle : s1.heap.objs.size ≤ c := by
          rcases e' with z | z | z | z | z
          · rw [z]; exact Nat.le_add_right _ _
          · rw [z]; exact Nat.le_add_right _ _
          · rw [z]; exact Nat.le_add_right _ _
          · rw [z]; exact Nat.le_refl _
          · rw [z]; exact Nat.le_add_right _ _
        exact I1.fpOk hle (I1.hok.fresh hle)
      refine zip_begins2 (begins_text x t) (begins_text y t2) trivial trivial fun h' hz hTI hTO h1 h2 hsz hk => wpAny_pyIter_zip hz ?_
      have I2 : Inv X pins σ H1 { s1 with heap := h' } := I1.kept (t' := s1.toks) hk
      exact ⟨s1.heap.objs.size + 4, [s1.heap.objs.size + 4, s1.heap.objs.size + 2, s1.heap.objs.size + 3, s1.heap.objs.size, s1.heap.objs.size + 1], _, _, H1, rfl, I2, turn_zipS x y t t2 (zip_sep2 (fp1 := []) (fp2 := []) (fun b h => nomatch h) (fun b h => nomatch h)), ⟨hz, hTI, ⟨_, _, hTO⟩, ⟨_, h1, rfl, rfl⟩, ⟨_, h2, rfl, rfl⟩⟩, fresh5, q⟩
theorem go_zipS {K : Fg0} {M : Ml} {mm : Addr → Prop} {H' : Hp} {x y : List Nat} (h : Hx M mm H') :
    (∀ (i : Nat) d, (zipD (x.map fun c => D.str [c]) (y.map fun c => D.str [c]))[i]? = some d → (ItzS (S x) (S y)).go i H' ∧ ∀ v H'', (ItzS (S x) (S y)).yld i H' v H'' → Stp M H' H'' ∧ Is K M (hid mm H'') v d) ∧ (ItzS (S x) (S y)).stop (zipD (x.map fun c => D.str [c]) (y.map fun c => D.str [c])).length H' := by
  have sz : ∀ x : List Nat, (S x).cps.size = x.length := fun x => by simp [S]
  have gt : ∀ (x : List Nat) (i : Nat), (S x).cps[i]? = x[i]? := fun x i => by simp [S]
  refine ⟨fun i d q => ?_, ?_⟩
  · obtain ⟨a, b, q1, q2, rfl⟩ := zipD_get q
    rw [List.getElem?_map] at q1 q2
    cases e1 : x[i]? with
    | none => rw [e1] at q1; cases q1
    | some c =>
      cases e2 : y[i]? with
      | none => rw [e2] at q2; cases q2
      | some d =>
        rw [e1] at q1; rw [e2] at q2
        cases q1; cases q2
        refine ⟨⟨by rw [sz]; exact (List.getElem?_eq_some_iff.mp e1).1, by rw [sz]; exact (List.getElem?_eq_some_iff.mp e2).1⟩, fun v H'' ⟨T, c', d', e3, n, e4, e5, e6⟩ => ?_⟩
        subst e3; subst e4
        rw [gt, e1] at e5; cases e5
        rw [gt, e2] at e6; cases e6
        exact pair_new h n (.str [c] (by show 1 ≤ sizeLine; decide)) (.str [d] (by show 1 ≤ sizeLine; decide))
  · rw [zipD_len, List.length_map, List.length_map]
    refine ⟨?_, ?_, ?_⟩
    · rw [sz]; omega
    · rw [sz]; omega
    · rw [sz, sz]; omega
def iZs (f : FA) : FI := fun ρ Q => f ρ fun ds => match ds with
  | [.str x, .str y] => Q (zipD (x.map fun c => D.str [c]) (y.map fun c => D.str [c]))
  | _ => False
theorem mo_iZs {f : FA} (h : MoA f) : MoA (iZs f) := fun ρ Q Q' k q => h ρ _ _ (fun ds q => by
  revert q
  split
  · exact fun q => k _ q
  · exact fun q => q) q
theorem i_zipSc {K : Fg} {X : Cx} {e1 e2 : Expr} {elts : List Expr} {kk : Nat} {tpos p pos : Pos} {ta : TA} {fa : FA} (hm : X.mg "zip" = none) (ha : DAT K X [e1, e2] ta fa) (hK : X.K = K := by rfl) (hg : Gl X "zip" := by rfl) (hs : starEach [e1, e2] X.env = (false, eval e1 X.env) :: starEach [e2] X.env := by rfl) (hpl : (backTo pos (starEach [e2] X.env)).any (·.1) = false := by rfl) :
    DIC K X (.Tuple elts kk tpos) (.Call (.Name "zip" p) [e1, e2] [] pos) (iZipS ta) (iZs fa) := by
  obtain ⟨K, stK⟩ := K
  replace hK : X.K = K := hK
  subst hK
  refine ⟨pi_zipS hg hm ha.pa hs hpl, fun M H0 z m H σ ρ R I q => ha.rd M H0 z m H σ ρ _ I (ha.mo ρ _ _ (fun ds q vs H1 s1 i1 => ?_) q), mo_iZs ha.mo⟩
  have hx := I.hx.step s1
  revert q
  split
  · intro q
    obtain ⟨v, w, rfl, i, j⟩ := i1.two
    obtain ⟨rfl, z1⟩ := i.str
    obtain ⟨rfl, z2⟩ := j.str
    refine ⟨_, _, rfl, q _ H1 s1 (fun m' H' s2 fw hx' => go_zipS hx') ?_⟩
    rw [zipD_len, List.length_map]; omega
  · exact fun q => q.elim
theorem zipD_map (x y : List Nat) : zipD (x.map fun c => D.str [c]) (y.map fun c => D.str [c]) = (x.zip y).map fun p => D.tup [.str [p.1], .str [p.2]] := by
  induction x generalizing y with
  | nil => rfl
  | cons a x ih =>
    cases y with
    | nil => rfl
    | cons b y => rw [List.map_cons, List.map_cons, zipD, ih y]; rfl

/-! ### signs: small and great letters a to d -/
def isSg (c : Nat) : Bool := [97, 65, 98, 66, 99, 67, 100, 68].contains c
def lowC (c : Nat) : Nat := if c < 97 then c + 32 else c
def uppC (c : Nat) : Nat := if c < 97 then c else c - 32
theorem sg_or {c : Nat} (h : isSg c = true) : c = 97 ∨ c = 65 ∨ c = 98 ∨ c = 66 ∨ c = 99 ∨ c = 67 ∨ c = 100 ∨ c = 68 := by
  unfold isSg at h
  simpa using h
theorem low_S {c : Nat} (h : isSg c = true) : Txt.lower (S [c]) = S [lowC c] := by
  rcases sg_or h with rfl | rfl | rfl | rfl | rfl | rfl | rfl | rfl <;> kernel_rfl
theorem upp_S {c : Nat} (h : isSg c = true) : Txt.upper (S [c]) = S [uppC c] := by
  rcases sg_or h with rfl | rfl | rfl | rfl | rfl | rfl | rfl | rfl <;> kernel_rfl
theorem isu_S {c : Nat} (h : isSg c = true) : Txt.isupper (S [c]) = decide (c < 97) := by
  rcases sg_or h with rfl | rfl | rfl | rfl | rfl | rfl | rfl | rfl <;> kernel_rfl
def gSgn (f : Nat → D) : FM := fun o ds Q => match o, ds with
  | .str [c], [] => isSg c = true ∧ Q (f c)
  | _, _ => False
theorem mo_gSgn {f : Nat → D} : MoM (gSgn f) := fun o a Q Q' h q => by
  unfold gSgn at q ⊢
  split at q
  · exact ⟨q.1, h _ q.2⟩
  · exact q
def rLow : V → List V → Hp → VK → Prop := fun x xs H Q => ∃ a, x = .str a ∧ xs = [] ∧ a.length ≤ 5592405 ∧ Q (.str (Txt.lower a)) H
def rUpp : V → List V → Hp → VK → Prop := fun x xs H Q => ∃ a, x = .str a ∧ xs = [] ∧ a.length ≤ 5592405 ∧ Q (.str (Txt.upper a)) H
def rIsu : V → List V → Hp → VK → Prop := fun x xs H Q => ∃ a, x = .str a ∧ xs = [] ∧ True ∧ Q (.bl (Txt.isupper a)) H
section
variable {K : Fg} {X : Cx}
theorem m_lower {K : Fg0} : MR K X "str.lower" rLow (gSgn fun c => .str [lowC c]) := by
  refine ⟨mt_lower, fun M m H v vs d ds Q h i ii q => ?_, mo_gSgn⟩
  unfold gSgn at q
  split at q
  · cases ii
    obtain ⟨rfl, _⟩ := i.str
    refine ⟨_, rfl, rfl, by rw [S_len]; show 1 ≤ 5592405; decide, ?_⟩
    rw [low_S q.1]
    exact Wn.str h q.2 (by show 1 ≤ sizeLine; decide)
  · exact q.elim
theorem m_upper {K : Fg0} : MR K X "str.upper" rUpp (gSgn fun c => .str [uppC c]) := by
  refine ⟨mt_upper, fun M m H v vs d ds Q h i ii q => ?_, mo_gSgn⟩
  unfold gSgn at q
  split at q
  · cases ii
    obtain ⟨rfl, _⟩ := i.str
    refine ⟨_, rfl, rfl, by rw [S_len]; show 1 ≤ 5592405; decide, ?_⟩
    rw [upp_S q.1]
    exact Wn.str h q.2 (by show 1 ≤ sizeLine; decide)
  · exact q.elim
theorem m_isupper {K : Fg0} : MR K X "str.isupper" rIsu (gSgn fun c => .bl (decide (c < 97))) := by
  refine ⟨mt_isupper, fun M m H v vs d ds Q h i ii q => ?_, mo_gSgn⟩
  unfold gSgn at q
  split at q
  · cases ii
    obtain ⟨rfl, _⟩ := i.str
    refine ⟨_, rfl, rfl, trivial, ?_⟩
    rw [isu_S q.1]
    exact Wn.bl h q.2
  · exact q.elim
end
end Pl

namespace Pl
open PySem PySem.Spec PyProof.Rows L2
open PySem.W (EachIs AlikeAll minD min_list_data reads_keeps)

/-! ### min of a list of data (texts, tuples) -/
def rMinD (K : Fg0) : List V → Hp → VK → Prop := fun vs H Q => ∃ (a : Addr) (xs : List V) (x : D) (ds : List D) (B : V → D → Prop), vs = [.ref a] ∧ SqL K H a xs ∧ EachIs B xs (x :: ds) ∧ EachIs (fun v d => Dp K H v (toPy d)) xs (x :: ds) ∧ AlikeAll ((x :: ds).map toPy) ∧
  PyData.depthAll ((x :: ds).map toPy) ≤ 50 ∧ ∀ v d, d ∈ x :: ds → toPy d = minD (toPy x) (ds.map toPy) → B v d → Q v H
theorem kv_eq : ∀ {a b : List (PyData × PyData)}, a.map (·.1) = b.map (·.1) → a.map (·.2) = b.map (·.2) → a = b
  | [], [], _, _ => rfl
  | [], _ :: _, h, _ => by cases h
  | _ :: _, [], h, _ => by cases h
  | x :: a, y :: b, h, k => by
    rw [List.map_cons, List.map_cons, List.cons.injEq] at h k
    rw [kv_eq h.2 k.2, Prod.ext h.1 k.1]
mutual
theorem rd_uniq {h : Heap} : ∀ {v : Value} {d : PyData} {as : List Addr}, Reads h v d as → ∀ {d' : PyData} {as' : List Addr}, Reads h v d' as' → d = d'
  | _, _, _, .none, _, _, r => by cases r; rfl
  | _, _, _, .bool b, _, _, r => by cases r; rfl
  | _, _, _, .int i t, _, _, r => by cases r; rfl
  | _, _, _, .str x t, _, _, r => by cases r; rfl
  | _, _, _, .list e c t q, _, _, r => by
    cases r with
    | list e2 c2 t2 q2 => rw [e] at e2; cases e2; rw [t] at t2; cases t2; rw [rda_uniq q q2]
    | tuple e2 c2 t2 q2 => rw [e] at e2; cases e2; rw [c] at c2; exact absurd c2 (by decide)
    | dict e2 c2 t2 q2 q3 => rw [e] at e2; cases e2; rw [c] at c2; exact absurd c2 (by decide)
  | _, _, _, .tuple e c t q, _, _, r => by
    cases r with
    | list e2 c2 t2 q2 => rw [e] at e2; cases e2; rw [c] at c2; exact absurd c2 (by decide)
    | tuple e2 c2 t2 q2 => rw [e] at e2; cases e2; rw [t] at t2; cases t2; rw [rda_uniq q q2]
    | dict e2 c2 t2 q2 q3 => rw [e] at e2; cases e2; rw [c] at c2; exact absurd c2 (by decide)
  | _, _, _, .dict e c t q k, _, _, r => by
    cases r with
    | list e2 c2 t2 q2 => rw [e] at e2; cases e2; rw [c] at c2; exact absurd c2 (by decide)
    | tuple e2 c2 t2 q2 => rw [e] at e2; cases e2; rw [c] at c2; exact absurd c2 (by decide)
    | dict e2 c2 t2 q2 q3 => rw [e] at e2; cases e2; rw [t] at t2; cases t2; rw [kv_eq (rda_uniq q q2) (rda_uniq k q3)]
theorem rda_uniq {h : Heap} : ∀ {vs : List Value} {ds : List PyData} {as : List Addr}, ReadsAll h vs ds as → ∀ {ds' : List PyData} {as' : List Addr}, ReadsAll h vs ds' as' → ds = ds'
  | _, _, _, .nil, _, _, r => by cases r; rfl
  | _, _, _, .cons a b, _, _, r => by
    cases r with
    | cons c d => rw [rd_uniq a c, rda_uniq b d]
end
theorem rda_of {h : Heap} : ∀ {us : List Value} {ds : List D}, EachIs (fun u d => ∃ as, Reads h u (toPy d) as) us ds → ∃ as, ReadsAll h us (ds.map toPy) as
  | _, _, .nil => ⟨_, .nil⟩
  | _, _, .cons ⟨as, h⟩ t => by
    obtain ⟨bs, k⟩ := rda_of t
    exact ⟨_, .cons h k⟩
theorem each_at {α β : Type} {R : α → β → Prop} : ∀ {as : List α} {bs : List β}, EachIs R as bs → ∀ (i : Nat) a, as[i]? = some a → ∃ b, bs[i]? = some b ∧ R a b
  | _, _, .nil, i, a, e => by simp at e
  | _, _, .cons h t, 0, a, e => by simp at e; subst e; exact ⟨_, rfl, h⟩
  | _, _, .cons h t, i + 1, a, e => by
    obtain ⟨b, e1, e2⟩ := each_at t i a (by simpa using e)
    exact ⟨b, by simpa using e1, e2⟩
theorem cr_minD {X : Cx} (hc : X.A.handled = none) (hu : X.A.units + 64 < cLine) : CallR X (.builtin "min") (rMinD X.K) := by
  intro pins s σ H xs us Q I r h
  obtain ⟨a, xs, x, ds, B, rfl, hs, hB, hD, al, hdp, q⟩ := h
  obtain ⟨its, rv, hl, zl⟩ := I.list hs
  rw [Vals.ref1 r]
  have er : EachIs (fun u d => ∃ as, Reads s.heap u (toPy d) as) its (x :: ds) := each_mono (fun u d ⟨v, hr, hd⟩ => Dp.reads I _ _ _ hd hr) (each_val hD rv)
  have eb := each_val hB rv
  obtain ⟨as, ra⟩ := rda_of er
  refine min_list_data hc hl.isList (x := toPy x) (xs := ds.map toPy) (by simpa using ra) al (by have : PyData.depthAll (toPy x :: ds.map toPy) ≤ 50 := hdp; omega) fun i v h' tk bs hv hr hk => ?_
  have hv' : its[i]? = some v := by simpa using hv
  obtain ⟨d, e1, as1, r1⟩ := each_at er i v hv'
  obtain ⟨d2, e2, w, rw2, hB2⟩ := each_at eb i v hv'
  rw [e1] at e2
  cases e2
  exact ⟨w, H, I.kept (t' := tk) hk, rw2, q w d (List.mem_of_getElem? e1) (rd_uniq (reads_keeps hk r1) hr) hB2⟩
/-- min of a list of data -/
structure MinOk (x : D) (xs : List D) : Prop where
  ok : ∀ d ∈ x :: xs, okD d = true
  al : AlikeAll ((x :: xs).map toPy)
  dp : PyData.depthAll ((x :: xs).map toPy) ≤ 50
def gMinD : List D → (D → Prop) → Prop := fun ds Q => match ds with
  | [.lst (x :: xs)] => MinOk x xs ∧ ∀ d ∈ x :: xs, toPy d = minD (toPy x) (xs.map toPy) → Q d
  | _ => False
theorem b_minD {K : Fg0} {X : Cx} (hc : X.A.handled = none) (hu : X.A.units + 64 < cLine) (hK : X.K = K := by rfl) : BR K X (.builtin "min") (rMinD K) gMinD := by
  subst hK
  refine ⟨cr_minD hc hu, fun M m H vs ds Q h ii q => ?_, fun a Q Q' k q => ?_⟩
  · unfold gMinD at q
    split at q
    · rename_i x xs
      obtain ⟨v, rfl, i⟩ := ii.one
      obtain ⟨a, vs, rfl, hl, ia, zl⟩ := i.lst
      obtain ⟨mo, q⟩ := q
      refine ⟨a, vs, x, xs, Is X.K M (hid m H), rfl, .of hl, ia.each, ?_, mo.al, mo.dp, fun v d hd e hv => (q d hd e).flat h hv⟩
      exact each_mono (fun v d h => (h.1.mono hid_all).dp (mo.ok d h.2)) (each_memR ia.each)
    · exact q.elim
  · unfold gMinD at q ⊢
    split at q
    · exact ⟨q.1, fun d hd e => k _ (q.2 d hd e)⟩
    · exact q
end Pl

namespace Pl
open PySem PySem.Spec PyProof.Rows L2

/-! ### x, y, z = a, b, c over a tuple (where a name is a cell) -/
section
variable {K : Fg} {X : Cx} {x y w : Str} {a b c : Expr} {ta : TA} {fa : FX} {px py pw pt pos : Pos} {kt k2 : Nat} {pt2 : Pos}
theorem d_upar2 (i j : Nat) (ha : DX K X [a, b] ta fa) (hN : X.N.Nodup) (hi : X.N[i]? = some x := by rfl) (hj : X.N[j]? = some y := by rfl) (hij : i ≠ j := by decide)
    (hx : Loc X.env.scope x := by first | exact Or.inl rfl | exact Or.inr rfl) (hy : Loc X.env.scope y := by first | exact Or.inl rfl | exact Or.inr rfl)
    (fx : X.fn x = true ∨ X.env.scope.names.lookup x = some .local := by first | exact .inl rfl | exact .inr rfl) (fy : X.fn y = true ∨ X.env.scope.names.lookup y = some .local := by first | exact .inl rfl | exact .inr rfl)
    (hK : X.K = K := by rfl) (hc : X.calm = true := by rfl)
    (hn : (assignEach [.Name x px, .Name y py] X.env).length = 2 := by rfl) (hst : (assignEach [.Name x px, .Name y py] X.env).findIdx? (·.1) = none := by rfl)
    (hw : swappedStores [.Tuple [.Name x px, .Name y py] kt pt] (.Tuple [a, b] k2 pt2) X.env = pure none := by rfl)
    (hs : swapsWithSole [.Tuple [.Name x px, .Name y py] kt pt] (.Tuple [a, b] k2 pt2) pos.line X.env = pure false := by rfl)
    (h1 : (assignEach [.Tuple [.Name x px, .Name y py] kt pt] X.env).map (·.2) = [assign (.Tuple [.Name x px, .Name y py] kt pt) X.env] := by rfl) :
    DS K X (.Assign [.Tuple [.Name x px, .Name y py] kt pt] (.Tuple [a, b] k2 pt2) pos) (tAsg (tTup ta) (gTup K 2 (gCons (gName i) (gCons (gName j) gNil)))) (sPar2 i j fa) := by
  obtain ⟨K, stK⟩ := K
  replace hK : X.K = K := hK
  subst hK
  refine ⟨ps_asg (pe_tup ha.pa) (pg_tup hc (pgs_cons (pg_name hN hi hx fx) (pgs_cons (pg_name hN hj hy fy) pgs_nil)) hn hst) hs hw h1, fun M H0 z m H σ ρ W E I c q => ?_⟩
  refine ha.rd M H0 z m H σ ρ _ I (ha.mo ρ _ _ (fun ss q' vs H' m' I0 s0 up dn ok => ?_) q.2.2)
  revert q'
  split
  · rename_i s1 s2
    intro q'
    cases ok with
    | cons k1 f1 ok =>
      rename_i v1 vs1
      cases ok with
      | cons k2 f2 ok =>
        cases ok
        rename_i v2
        refine ⟨by rw [show [v1, v2].length = 2 from rfl, sizeLine_eq]; omega, fun p np => ?_⟩
        have sn : Stp M H' (upd H' p (.tup [v1, v2])) := .new I0.ok np
        have I' := I0.step sn
        have k1 := k1.step (I0.same sn) (fun b u h _ e => sn.keep b u h e) (fun _ _ h => h)
        have k2 := k2.step (I0.same sn) (fun b u h _ e => sn.keep b u h e) (fun _ _ h => h)
        have fw := (fw_of I s0 dn).trans (I0.fw sn)
        refine ⟨p, _, rfl, .inl (.inl upd_same), rfl, v1, _, rfl, v2, _, rfl, rfl, c.nx m' _ _ _ ((I'.putS q.1 k1 fun o p e => I.own_there (f1 o p e).1).putS (by rw [List.length_set]; exact q.2.1) k2 fun o p e => own_set I'.len q.1 (I.own_there (f2 o p e).1) fun o1 e1 => ?_) fw q'⟩
        exact (f1 o1 p e1).2 0 _ rfl o (by rw [e]; rfl)
  · exact fun q' => q'.elim
theorem d_upar3 (i j l : Nat) (ha : DX K X [a, b, c] ta fa) (hN : X.N.Nodup) (hi : X.N[i]? = some x := by rfl) (hj : X.N[j]? = some y := by rfl) (hl : X.N[l]? = some w := by rfl) (hij : i ≠ j := by decide) (hil : i ≠ l := by decide) (hjl : j ≠ l := by decide)
    (hx : Loc X.env.scope x := by first | exact Or.inl rfl | exact Or.inr rfl) (hy : Loc X.env.scope y := by first | exact Or.inl rfl | exact Or.inr rfl) (hz : Loc X.env.scope w := by first | exact Or.inl rfl | exact Or.inr rfl)
    (fx : X.fn x = true ∨ X.env.scope.names.lookup x = some .local := by first | exact .inl rfl | exact .inr rfl) (fy : X.fn y = true ∨ X.env.scope.names.lookup y = some .local := by first | exact .inl rfl | exact .inr rfl) (fz : X.fn w = true ∨ X.env.scope.names.lookup w = some .local := by first | exact .inl rfl | exact .inr rfl)
    (hK : X.K = K := by rfl) (hc : X.calm = true := by rfl)
    (hn : (assignEach [.Name x px, .Name y py, .Name w pw] X.env).length = 3 := by rfl) (hst : (assignEach [.Name x px, .Name y py, .Name w pw] X.env).findIdx? (·.1) = none := by rfl)
    (hw : swappedStores [.Tuple [.Name x px, .Name y py, .Name w pw] kt pt] (.Tuple [a, b, c] k2 pt2) X.env = pure none := by rfl)
    (hs : swapsWithSole [.Tuple [.Name x px, .Name y py, .Name w pw] kt pt] (.Tuple [a, b, c] k2 pt2) pos.line X.env = pure false := by rfl)
    (h1 : (assignEach [.Tuple [.Name x px, .Name y py, .Name w pw] kt pt] X.env).map (·.2) = [assign (.Tuple [.Name x px, .Name y py, .Name w pw] kt pt) X.env] := by rfl) :
    DS K X (.Assign [.Tuple [.Name x px, .Name y py, .Name w pw] kt pt] (.Tuple [a, b, c] k2 pt2) pos) (tAsg (tTup ta) (gTup K 3 (gCons (gName i) (gCons (gName j) (gCons (gName l) gNil))))) (sPar3 i j l fa) := by
  obtain ⟨K, stK⟩ := K
  replace hK : X.K = K := hK
  subst hK
  refine ⟨ps_asg (pe_tup ha.pa) (pg_tup hc (pgs_cons (pg_name hN hi hx fx) (pgs_cons (pg_name hN hj hy fy) (pgs_cons (pg_name hN hl hz fz) pgs_nil))) hn hst) hs hw h1, fun M H0 z m H σ ρ W E I c q => ?_⟩
  refine ha.rd M H0 z m H σ ρ _ I (ha.mo ρ _ _ (fun ss q' vs H' m' I0 s0 up dn ok => ?_) q.2.2.2)
  revert q'
  split
  · rename_i s1 s2 s3
    intro q'
    cases ok with
    | cons k1 f1 ok =>
      rename_i v1 vs1
      cases ok with
      | cons k2 f2 ok =>
        rename_i v2 vs2
        cases ok with
        | cons k3 f3 ok =>
          rename_i v3 vs3
          cases ok
          refine ⟨by rw [show [v1, v2, v3].length = 3 from rfl, sizeLine_eq]; omega, fun p np => ?_⟩
          have sn : Stp M H' (upd H' p (.tup [v1, v2, v3])) := .new I0.ok np
          have I' := I0.step sn
          have k1 := k1.step (I0.same sn) (fun b u h _ e => sn.keep b u h e) (fun _ _ h => h)
          have k2 := k2.step (I0.same sn) (fun b u h _ e => sn.keep b u h e) (fun _ _ h => h)
          have k3 := k3.step (I0.same sn) (fun b u h _ e => sn.keep b u h e) (fun _ _ h => h)
          have fw := (fw_of I s0 dn).trans (I0.fw sn)
          have I1 := I'.putS q.1 k1 fun o p e => I.own_there (f1 o p e).1
          have I2 := I1.putS (by rw [List.length_set]; exact q.2.1) k2 fun o p e => own_set I'.len q.1 (I.own_there (f2 o p e).1) fun o1 e1 => (f1 o1 p e1).2 0 _ rfl o (by rw [e]; rfl)
          refine ⟨p, _, rfl, .inl (.inl upd_same), rfl, v1, _, rfl, v2, _, rfl, v3, _, rfl, rfl, c.nx m' _ _ _ (I2.putS (by rw [List.length_set, List.length_set]; exact q.2.2.1) k3 fun o p e => own_set I1.len (by rw [List.length_set]; exact q.2.1) (own_set I'.len q.1 (I.own_there (f3 o p e).1) fun o1 e1 => ?_) fun o1 e1 => ?_) fw q'⟩
          · exact (f1 o1 p e1).2 1 _ rfl o (by rw [e]; rfl)
          · exact (f2 o1 p e1).2 0 _ rfl o (by rw [e]; rfl)
  · exact fun q' => q'.elim
end
/-- what is never come to -/
def sNev : FS := fun _ _ => False
theorem d_never {K : Fg} {X : Cx} {st : Stmt} : DS K X st tNever sNev := ⟨ps_never, fun _ _ _ _ _ _ _ _ _ _ _ h => h.elim⟩
end Pl

namespace Pl
open PySem PySem.Spec PyProof.Rows L2

/-! ### min of a list of pairs of numbers -/
def pD (p : Nat × Nat) : D := .tup [.int p.1, .int p.2]
/-- in the order of pairs -/
def leP (p q : Nat × Nat) : Prop := p.1 < q.1 ∨ p.1 = q.1 ∧ p.2 ≤ q.2
def pI (p : Nat × Nat) : Int × Int := (p.1, p.2)
theorem toPy_pD (p : Nat × Nat) : toPy (pD p) = PySem.W.Datum.toD (pI p) := rfl
theorem lt_pI (p q : Nat × Nat) : PySem.W.DatumOrd.lt (pI p) (pI q) = true ↔ ¬ leP q p := by
  show (if (p.1 : Int) = (q.1 : Int) then decide ((p.2 : Int) < (q.2 : Int)) else decide ((p.1 : Int) < (q.1 : Int))) = true ↔ _
  unfold leP
  split
  · rw [decide_eq_true_eq]; omega
  · rw [decide_eq_true_eq]; omega
theorem minOf_pI (x : Nat × Nat) (xs : List (Nat × Nat)) : ∃ m ∈ x :: xs, PySem.W.minOf (pI x) (xs.map pI) = pI m ∧ ∀ y ∈ x :: xs, leP m y := by
  induction xs generalizing x with
  | nil => exact ⟨x, List.mem_cons_self, rfl, fun y hy => by rw [List.mem_singleton.mp hy]; exact .inr ⟨rfl, Nat.le_refl _⟩⟩
  | cons y xs ih =>
    have e : PySem.W.minOf (pI x) ((y :: xs).map pI) = PySem.W.minOf (if PySem.W.DatumOrd.lt (pI y) (pI x) = true then pI y else pI x) (xs.map pI) := rfl
    rw [e]
    by_cases h : PySem.W.DatumOrd.lt (pI y) (pI x) = true
    · rw [if_pos h]
      obtain ⟨m, hm, em, hle⟩ := ih y
      refine ⟨m, List.mem_cons_of_mem _ hm, em, fun z hz => ?_⟩
      rcases List.mem_cons.mp hz with rfl | hz
      · have := (lt_pI y z).mp h
        have := hle y List.mem_cons_self
        unfold leP at *
        omega
      · exact hle z hz
    · rw [if_neg h]
      obtain ⟨m, hm, em, hle⟩ := ih x
      have hxy : leP x y := Classical.not_not.mp fun z => h ((lt_pI y x).mpr z)
      refine ⟨m, ?_, em, fun z hz => ?_⟩
      · rcases List.mem_cons.mp hm with rfl | hm
        · exact List.mem_cons_self
        · exact List.mem_cons_of_mem _ (List.mem_cons_of_mem _ hm)
      · rcases List.mem_cons.mp hz with rfl | hz
        · exact hle z List.mem_cons_self
        · rcases List.mem_cons.mp hz with rfl | hz
          · have := hle x List.mem_cons_self
            unfold leP at *
            omega
          · exact hle z (List.mem_cons_of_mem _ hz)
theorem pI_inj {p q : Nat × Nat} (h : pI p = pI q) : p = q := by
  obtain ⟨a, b⟩ := p
  obtain ⟨c, d⟩ := q
  have h1 : (a : Int) = (c : Int) := congrArg (·.1) h
  have h2 : (b : Int) = (d : Int) := congrArg (·.2) h
  rw [show a = c by omega, show b = d by omega]
theorem toD_inj {p q : Nat × Nat} (h : toPy (pD p) = toPy (pD q)) : p = q := by
  unfold pD at h
  simp only [toPy, toPyA, PyData.tuple.injEq, List.cons.injEq, PyData.int.injEq, and_true] at h
  obtain ⟨a, b⟩ := p
  obtain ⟨c, d⟩ := q
  have h1 : (a : Int) = (c : Int) := h.1
  have h2 : (b : Int) = (d : Int) := h.2
  rw [show a = c by omega, show b = d by omega]
theorem depth_pairs : ∀ xs : List (Nat × Nat), PyData.depthAll ((xs.map pD).map toPy) ≤ 50
  | [] => by show (0 : Nat) ≤ 50; decide
  | x :: xs => by
    have := depth_pairs xs
    show max (PyData.depth (toPy (pD x))) (PyData.depthAll ((xs.map pD).map toPy)) ≤ 50
    have h : PyData.depth (toPy (pD x)) ≤ 50 := by
      show max _ _ + 1 ≤ 50
      simp [toPy, toPyA, PyData.depth, PyData.depthAll]
    omega
theorem min_pairs {x : Nat × Nat} {xs : List (Nat × Nat)} {Q : D → Prop} (h : ∀ m ∈ x :: xs, (∀ y ∈ x :: xs, leP m y) → Q (pD m)) : gMinD [.lst ((x :: xs).map pD)] Q := by
  have em : ((x :: xs).map pD).map toPy = ((x :: xs).map pI).map PySem.W.Datum.toD := by
    rw [List.map_map, List.map_map]; rfl
  refine ⟨⟨fun d hd => ?_, ?_, depth_pairs (x :: xs)⟩, fun d hd e => ?_⟩
  · obtain ⟨p, _, rfl⟩ := List.mem_map.mp (show d ∈ (x :: xs).map pD from hd)
    rfl
  · show PySem.W.AlikeAll (((x :: xs).map pD).map toPy)
    rw [em]; exact PySem.W.alikeAll_datum _
  · obtain ⟨p, hp, rfl⟩ := List.mem_map.mp (show d ∈ (x :: xs).map pD from hd)
    obtain ⟨m, hm, e2, hle⟩ := minOf_pI x xs
    have : toPy (pD p) = toPy (pD m) := by
      rw [e, toPy_pD, toPy_pD, ← e2]
      have := PySem.W.minD_map (pI x) (xs.map pI)
      rw [← this, List.map_map, List.map_map]; rfl
    rw [toD_inj this]
    exact h m hm hle
end Pl

namespace Pl
open PySem PySem.Spec PyProof.Rows L2

/-! ### a new list xs + ys -/
def lAdd (fa fb : FE) : FA := fun ρ Q => fa ρ fun x => fb ρ fun y => ∃ (xs ys : List D), x = .lst xs ∧ y = .lst ys ∧ xs.length + ys.length ≤ sizeLine ∧ Q (xs ++ ys)
section
variable {K : Fg} {X : Cx} {a b : Expr} {ta tb : TE} {fa fb : FE} {pos : Pos}
theorem l_add (ha : DT K X a ta fa) (hb : DT K X b tb fb) (hK : X.K = K := by rfl) : DF K X (.BinOp a .Add b pos) (tOp (rAddS K) ta tb) (lAdd fa fb) := by
  obtain ⟨K, stK⟩ := K
  replace hK : X.K = K := hK
  subst hK
  refine ⟨pe_op op_addS ha.pe hb.pe, fun M H0 z m H σ ρ Q I q => ?_, fun ρ Q Q' h q => ha.mo ρ _ _ (fun x q => hb.mo ρ _ _ (fun y ⟨xs, n, e1, e2, h1, q⟩ => ⟨xs, n, e1, e2, h1, h _ q⟩) q) q⟩
  refine ha.rd M H0 z m H σ ρ _ I (ha.mo ρ _ _ (fun x q v H1 s1 i1 => ?_) q)
  refine hb.rd M H0 z m H1 σ ρ _ (I.step s1) (hb.mo ρ _ _ (fun y q u H2 s2 i2 => ?_) q)
  obtain ⟨xs, ys, rfl, rfl, h1, q⟩ := q
  obtain ⟨p1, v1, e1, r1, a1, _⟩ := (i1.step (I.hx.step s1) s2).lst
  obtain ⟨p2, v2, e2, r2, a2, _⟩ := i2.lst
  refine .inr (.inl ⟨_, _, _, _, e1, e2, r1, r2, by rw [a1.length, a2.length]; exact h1, fun p np => ?_⟩)
  have h3 := I.hx.step (s1.trans s2)
  have s3 : Stp M H2 (upd H2 p (.lst (v1 ++ v2))) := .new h3.ok np
  refine q p _ _ ((s1.trans s2).trans s3) ?_ upd_same ((a1.append a2).mono ((hid_more np).trans (hid_same fun b u _ e => by rw [upd_ne (ne_of_none e np)]; exact e))) (by rw [List.length_append]; exact h1)
  cases e : H p with
  | none => rfl
  | some o => exact absurd np ((s1.trans s2).there p (by rw [e]; exact fun q => nomatch q))
end
end Pl

namespace Pl
open PySem PySem.Spec PyProof.Rows L2

/-! ### repr of values that may hold texts of any signs (texts that are told themselves) -/
mutual
/-- may be shown: ints below 10^60, any texts -/
def rkX : D → Bool
  | .non => true
  | .bl _ => true
  | .int i => decide (i.natAbs < 10 ^ 60)
  | .str x => true
  | .tup xs => rkXA xs
  | .lst xs => rkXA xs
  | .dk xs => xs.isEmpty
  | .ml _ => false
  | .scr _ => false
def rkXA : List D → Bool
  | [] => true
  | x :: xs => rkX x && rkXA xs
end
section
variable {X : Cx} {pins : List (Addr × Obj)} {σ : L2.St} {H : Hp} {s : Shared} {M : Ml} {m : Addr → Prop}
mutual
theorem IsX.reads (I : Inv X pins σ H s) (B : Sys X.base) : ∀ (d : D) (v : V) (u : Value), Is X.K M (hid m H) v d → rkX d = true → RelV v u → ∃ as, Reads s.heap u (toPyE d) as ∧ sysModules ∉ as
  | .non, _, _, h, _, r => by
    cases h; cases r
    exact ⟨_, Reads.none, by simp⟩
  | .bl b, _, _, h, _, r => by
    cases h; cases r
    exact ⟨_, Reads.bool b, by simp⟩
  | .int i, _, _, h, _, r => by
    cases h
    obtain ⟨t, rfl⟩ := r
    exact ⟨_, Reads.int i t, by simp⟩
  | .str x, _, _, h, _, r => by
    cases h
    obtain ⟨t, rfl⟩ := r
    exact ⟨_, Reads.str _ t, by simp⟩
  | .lst ds, _, _, h, k, r => by
    cases h with
    | @lst a xs _ hs ha z =>
      cases r
      have hs' : H a = some (.lst xs) := hid_all _ _ hs
      obtain ⟨its, rv, ⟨o, n, ho, hc, _, hd⟩, _⟩ := I.list (.of hs')
      obtain ⟨as, hr, hn⟩ := IsX.readsA I B ds _ its ha (by unfold rkX at k; exact k) rv
      refine ⟨_, Reads.list ho hc hd hr, fun hm => ?_⟩
      rcases List.mem_cons.mp hm with e | e
      · subst e
        obtain ⟨o, hB⟩ := B
        have := (I.bs _ o hB).2
        rw [hs'] at this; cases this
      · exact hn e
  | .tup ds, _, _, h, k, r => by
    cases h with
    | tup hs ha z =>
      cases r
      obtain ⟨its, rv, ⟨o, ho, hc, n, hd⟩, _⟩ := I.tuple (same_sqT hid_all hs)
      obtain ⟨as, hr, hn⟩ := IsX.readsA I B ds _ its ha (by unfold rkX at k; exact k) rv
      exact ⟨_, Reads.tuple ho hc hd hr, hn⟩
  | .dk kvs, _, _, h, k, r => by
    unfold rkX at k
    rw [List.isEmpty_iff] at k
    subst k
    cases h with
    | @dk a vs _ hs ha =>
      cases ha
      cases r
      have hd : Rd H a (.dK []) := same_rd hid_all hs
      obtain ⟨_, h4, vs, kv, o, es, ep, h1, h2, h3, _, pr, _⟩ := (show ObjOk X.prog X.w H s.heap a (.dK []) from hd.ok I.hok)
      cases kv
      have he : es = #[] := by
        cases e : es.toList with
        | nil => exact Array.toList_eq_nil_iff.mp e
        | cons y ys => rw [e] at pr; cases pr
      subst he
      refine ⟨a :: [] ++ [], .dict h1 h2.1 h3 .nil .nil, fun z => ?_⟩
      have z : sysModules = a := by simpa using z
      subst z
      simp at h4
  | .ml _, _, _, _, k, _ => by unfold rkX at k; cases k
  | .scr _, _, _, _, k, _ => by unfold rkX at k; cases k
theorem IsX.readsA (I : Inv X pins σ H s) (B : Sys X.base) : ∀ (ds : List D) (vs : List V) (us : List Value), IsA X.K M (hid m H) vs ds → rkXA ds = true → Vals vs us → ∃ as, ReadsAll s.heap us (toPyEA ds) as ∧ sysModules ∉ as
  | [], _, _, h, _, r => by
    cases h; cases r
    exact ⟨_, ReadsAll.nil, by simp⟩
  | d :: ds, _, _, h, k, r => by
    unfold rkXA at k
    rw [Bool.and_eq_true] at k
    cases h with
    | cons h1 h2 =>
      cases r with
      | cons r1 r2 =>
        obtain ⟨as, q1, n1⟩ := IsX.reads I B d _ _ h1 k.1 r1
        obtain ⟨bs, q2, n2⟩ := IsX.readsA I B ds _ _ h2 k.2 r2
        exact ⟨_, ReadsAll.cons q1 q2, fun z => (List.mem_append.mp z).elim n1 n2⟩
end
end

mutual
theorem showX : ∀ d : D, rkX d = true → (toPyE d).showable = true
  | .non, _ => rfl
  | .bl _, _ => rfl
  | .int i, h => by
    unfold rkX at h
    have h := of_decide_eq_true h
    unfold toPyE PyData.showable
    exact decide_eq_true (log_60s h)
  | .str x, h => rfl
  | .tup xs, h => by
    unfold toPyE PyData.showable
    exact showXA xs (by unfold rkX at h; exact h)
  | .lst xs, h => by
    unfold toPyE PyData.showable
    exact showXA xs (by unfold rkX at h; exact h)
  | .dk _, h => rfl
  | .ml _, h => by unfold rkX at h; cases h
  | .scr _, h => by unfold rkX at h; cases h
theorem showXA : ∀ d : List D, rkXA d = true → PyData.showableAll (toPyEA d) = true
  | [], _ => rfl
  | x :: xs, h => by
    unfold rkXA at h
    rw [Bool.and_eq_true] at h
    unfold toPyEA PyData.showableAll
    rw [showX x h.1, showXA xs h.2]; rfl
end
mutual
theorem rk_EX : ∀ d : D, rkE d = true → rkX d = true
  | .non, _ => rfl
  | .bl _, _ => rfl
  | .int i, h => h
  | .str x, h => rfl
  | .tup xs, h => by
    unfold rkX
    exact rk_EXA xs (by unfold rkE at h; exact h)
  | .lst xs, h => by
    unfold rkX
    exact rk_EXA xs (by unfold rkE at h; exact h)
  | .dk _, h => h
  | .ml _, h => h
  | .scr _, h => h
theorem rk_EXA : ∀ d : List D, rkEA d = true → rkXA d = true
  | [], _ => rfl
  | x :: xs, h => by
    unfold rkEA at h
    rw [Bool.and_eq_true] at h
    unfold rkXA
    rw [rk_EX x h.1, rk_EXA xs h.2]; rfl
end
/-- may be shown -/
def rX (d : D) : Prop := rkX d = true ∧ deE d ≤ 40 ∧ (toPyE d).shown.length ≤ sizeLine
theorem rE.x {d : D} (h : rE d) : rX d := ⟨rk_EX d h.1, h.2.1, h.fits⟩
def gReprX : FL := fun ds Q => match ds with
  | [d] => rX d ∧ Q (.str (shE d))
  | _ => False
theorem mo_gReprX : MoL gReprX := fun a Q Q' h q => by
  unfold gReprX at q ⊢
  split at q
  · exact ⟨q.1, h _ q.2⟩
  · exact q
/-- of a value -/
def rReprX (K : Fg0) : List V → Hp → VK → Prop := fun xs H Q => ∃ v d M m, xs = [v] ∧ IsT K M m H v d ∧ rX d ∧ Q (.str (S (shE d))) H
theorem IsT.readsX {X : Cx} {pins : List (Addr × Obj)} {σ : L2.St} {H : Hp} {s : Shared} {M : Ml} {m : Addr → Prop} {v : V} {d : D} {u : Value} (I : Inv X pins σ H s) (B : Sys X.base) (q : IsT X.K M m H v d) (k : rkX d = true) (r : RelV v u) : ∃ as, Reads s.heap u (toPyE d) as ∧ sysModules ∉ as := by
  rcases q with q | ⟨p, vs, ds, e1, e2, e3, n, a, z⟩ | ⟨p, vs, ds, e1, e2, e3, n, a⟩
  · exact IsX.reads I B d v u q k r
  · subst e1; subst e2
    cases r
    obtain ⟨its, rv, ⟨o, n, ho, hc, _, hd⟩, _⟩ := I.list (.of e3)
    obtain ⟨as, hr, hn⟩ := IsX.readsA I B ds _ its a (by unfold rkX at k; exact k) rv
    refine ⟨_, Reads.list ho hc hd hr, fun hm => ?_⟩
    rcases List.mem_cons.mp hm with e | e
    · subst e
      obtain ⟨o, hB⟩ := B
      have := (I.bs _ o hB).2
      rw [e3] at this; cases this
    · exact hn e
  · subst e1; subst e2
    have : Is X.K M (hid (fun _ => False) H) (.ref p) (.dk ds) := .dk (.inl (by rw [hid_in (fun z => z)]; exact e3)) (a.mono (hid_less fun b h => h.elim))
    exact IsX.reads I B _ _ u this k r
theorem call_reprX {X : Cx} (B : Sys X.base) (hG : X.A.guards = some []) (hu : X.A.units + 64 < cLine) : CallR X (.builtin "repr") (rReprX X.K) := by
  intro pins s σ H xs us Q I r h
  obtain ⟨x, d, M, m, rfl, hd, hr, q⟩ := h
  obtain ⟨u, rfl, rx⟩ := vals1 r
  obtain ⟨as, rr, hn⟩ := hd.readsX I B hr.1 rx
  have hz := hr.2.2
  have hs := showX d hr.1
  have ee : S (shE d) = (toPyE d).shown := S_of _
  rw [ee] at q
  have fin : ∀ (h' : Heap) (t : Tok) (tk : Nat), (∀ b o, s.heap.get? b = some o → h'.get? b = some o) → EP X pins σ Q (.str (toPyE d).shown t) { s with heap := h', toks := tk } := fun h' t tk k => ⟨.str (toPyE d).shown, H, I.kept k, ⟨t, rfl⟩, q⟩
  have ref : ∀ a, u = .ref a → wpAny (model X.prog X.w) X.A (call (.builtin "repr") [u]) (EP X pins σ Q) X.xe s := fun a e => by
    subst e
    exact repr_of_reads' rr hs (fun _ => hn) hG (by rw [depthE]; have := hr.2.1; omega) (fun _ _ e => e) (fun h' t tk k => fin h' t tk k) hz
  cases d with
  | non => obtain rfl := hd.non; cases rx; exact P.repr_of_none (fin s.heap _ _ fun _ _ e => e)
  | bl b => obtain rfl := hd.bl; cases rx; exact P.repr_of_bool (fin s.heap _ _ fun _ _ e => e)
  | int i => obtain rfl := hd.int; obtain ⟨t, rfl⟩ := rx; exact P.repr_of_int (log_60s (of_decide_eq_true (by have := hr.1; unfold rkX at this; exact this))) (fin s.heap _ _ fun _ _ e => e)
  | str y => obtain ⟨rfl, _⟩ := hd.str; obtain ⟨t, rfl⟩ := rx; exact P.repr_of_str (fin s.heap _ _ fun _ _ e => e) hz
  | lst ys => obtain ⟨a, vs, rfl, _⟩ := hd.lst; exact ref a rx
  | tup ys => obtain ⟨a, vs, rfl, _⟩ := hd.tup; exact ref a rx
  | dk ys => obtain ⟨a, vs, rfl, _⟩ := hd.dk; exact ref a rx
  | ml _ => have := hr.1; unfold rkX at this; cases this
  | scr _ => have := hr.1; unfold rkX at this; cases this
theorem b_reprX {K : Fg0} {X : Cx} (B : Sys X.base) (hG : X.A.guards = some []) (hu : X.A.units + 64 < cLine) (hK : X.K = K := by rfl) : BR K X (.builtin "repr") (rReprX K) gReprX := by
  subst hK
  refine ⟨call_reprX B hG hu, fun M m H vs ds Q h ii q => ?_, mo_gReprX⟩
  unfold gReprX at q
  split at q
  · rename_i d
    obtain ⟨v, rfl, i⟩ := ii.one
    exact ⟨v, d, M, m, rfl, i, q.1, Wn.str h q.2 (by have := q.1.2.2; rw [← show S (shE d) = (toPyE d).shown from S_of _, S_len] at this; exact this)⟩
  · exact q.elim


/-! ### the signs of what is shown, and how long it is -/
open PySem.StrLaws in
theorem hexs_lt (l : List Char) : ∀ c ∈ l.map Char.toNat, c < 1114112 := fun c hc => by
  obtain ⟨x, _, rfl⟩ := List.mem_map.mp hc
  have := x.valid
  unfold UInt32.isValidChar Nat.isValidChar at this
  show x.val.toNat < 1114112
  omega
def Sg (x : Str) : Prop := ∀ c ∈ x.cps.toList, c < 16 ^ 8
theorem Sg.app {x y : Str} (h : Sg x) (k : Sg y) : Sg (x ++ y) := fun c hc => by
  have e : (x ++ y).cps.toList = x.cps.toList ++ y.cps.toList := by
    show (x.cps ++ y.cps).toList = _
    simp
  rw [e] at hc
  exact (List.mem_append.mp hc).elim (h c) (k c)
theorem Sg.of (s : String) : Sg (s : Str) := fun c hc => by
  have e : (s : Str).cps.toList = s.toList.map Char.toNat := by
    show (Str.ofString s).cps.toList = _
    rw [Str.ofString_eq_toList]
  rw [e] at hc
  have := hexs_lt _ c hc
  rw [show (16 : Nat) ^ 8 = 4294967296 by decide]; omega
theorem char_sg (q c : Nat) (hq : q < 16 ^ 8) (hc : c < 16 ^ 8) : ∀ d ∈ Builtin.Str.reprChar q c, d < 16 ^ 8 := by
  have e8 : (16 : Nat) ^ 8 = 4294967296 := by decide
  rw [e8] at *
  have hex : ∀ w : Nat, ∀ d ∈ List.replicate (w - ((Nat.toDigits 16 c).map Char.toNat).length) 48 ++ (Nat.toDigits 16 c).map Char.toNat, d < 4294967296 := fun w d hd => by
    rcases List.mem_append.mp hd with hd | hd
    · rw [(List.mem_replicate.mp hd).2]; omega
    · have := hexs_lt _ d hd; omega
  intro d hd
  unfold Builtin.Str.reprChar at hd
  dsimp only at hd
  repeat' split at hd
  all_goals first
    | (simp only [List.mem_cons, List.not_mem_nil, or_false] at hd; omega)
    | (rcases List.mem_append.mp hd with hd | hd
       · simp only [List.mem_cons, List.not_mem_nil, or_false] at hd; omega
       · exact hex _ d hd)
theorem Sg.repr {x : Str} (h : Sg x) : Sg (PySem.reprText x) := by
  have hq : PySem.reprQuote x < 16 ^ 8 := by
    unfold PySem.reprQuote
    split <;> decide
  unfold PySem.reprText
  intro c hc
  have hc : c ∈ ((x.cps.foldl (fun out c => out ++ (Builtin.Str.reprChar (PySem.reprQuote x) c).toArray) #[PySem.reprQuote x]).push (PySem.reprQuote x)).toList := hc
  rw [Array.toList_push, ← Array.foldl_toList] at hc
  have key : ∀ (l : List Nat) (acc : Array Nat), (∀ c ∈ l, c < 16 ^ 8) → (∀ c ∈ acc.toList, c < 16 ^ 8) → ∀ c ∈ (l.foldl (fun out c => out ++ (Builtin.Str.reprChar (PySem.reprQuote x) c).toArray) acc).toList, c < 16 ^ 8 := by
    intro l
    induction l with
    | nil => intro acc _ h2; exact h2
    | cons a l ih =>
      intro acc h1 h2
      refine ih _ (fun c hc => h1 c (List.mem_cons_of_mem _ hc)) fun c hc => ?_
      rw [Array.toList_append] at hc
      rcases List.mem_append.mp hc with hc | hc
      · exact h2 c hc
      · exact char_sg _ a hq (h1 a List.mem_cons_self) c hc
  rcases List.mem_append.mp hc with hc | hc
  · exact key _ _ h (fun c hc => by
      have : c = PySem.reprQuote x := by simpa using hc
      rw [this]; exact hq) c hc
  · rw [List.mem_singleton.mp hc]; exact hq
theorem Sg.joined {sep : Str} (hs : Sg sep) : ∀ {ts : List Str}, (∀ t ∈ ts, Sg t) → Sg (Str.join sep ts)
  | [], _ => fun c hc => by
    have : c ∈ ([] : List Nat) := hc
    cases this
  | [x], h => h x List.mem_cons_self
  | x :: y :: r, h => ((h x List.mem_cons_self).app hs).app (Sg.joined hs fun t ht => h t (List.mem_cons_of_mem _ ht))
theorem Sg.from : ∀ {ts : List Str} {k : Nat} {acc : Str}, (∀ t ∈ ts, Sg t) → Sg acc → Sg (textFrom k acc ts)
  | [], _, _, _, h => h
  | t :: ts, k, acc, h, ha => by
    unfold textFrom
    exact Sg.from (fun u hu => h u (List.mem_cons_of_mem _ hu)) ((ha.app (Sg.of _)).app (h t List.mem_cons_self))
mutual
theorem sgE : ∀ d : D, rkE d = true → Sg (toPyE d).shown
  | .non, _ => Sg.of "None"
  | .bl b, _ => by
    cases b
    · exact Sg.of "False"
    · exact Sg.of "True"
  | .int i, h => Sg.of (toString i)
  | .str x, h => by
    unfold rkE okS at h
    refine Sg.repr fun c hc => ?_
    rw [S_list] at hc
    have := of_decide_eq_true (List.all_eq_true.mp h c hc)
    rw [show (16 : Nat) ^ 8 = 4294967296 by decide]; omega
  | .tup xs, h => by
    have := sgEA xs (by unfold rkE at h; exact h)
    unfold toPyE PyData.shown tupleText
    refine ((Sg.of "(").app (Sg.joined (Sg.of ", ") this)).app ?_
    split
    · exact Sg.of ",)"
    · exact Sg.of ")"
  | .lst xs, h => by
    have := sgEA xs (by unfold rkE at h; exact h)
    unfold toPyE PyData.shown listText
    exact (Sg.from this (Sg.of "[")).app (Sg.of "]")
  | .dk _, h => ((Sg.of "{").app (Sg.joined (Sg.of ", ") fun t ht => by cases ht)).app (Sg.of "}")
  | .ml _, h => by unfold rkE at h; cases h
  | .scr _, h => by unfold rkE at h; cases h
theorem sgEA : ∀ d : List D, rkEA d = true → ∀ t ∈ PyData.shownAll (toPyEA d), Sg t
  | [], _ => fun t ht => by cases ht
  | x :: xs, h => fun t ht => by
    unfold rkEA at h
    rw [Bool.and_eq_true] at h
    unfold toPyEA PyData.shownAll at ht
    rcases List.mem_cons.mp ht with ht | ht
    · rw [ht]; exact sgE x h.1
    · exact sgEA xs h.2 t ht
end
mutual
/-- how many signs it is shown by, at most -/
def lnE : D → Nat
  | .str x => 10 * x.length + 2
  | .tup xs => lnEA xs + 3
  | .lst xs => lnEA xs + 3
  | .non => 4
  | .bl _ => 5
  | .int _ => 62
  | .dk _ => 3
  | .ml _ => 0
  | .scr _ => 0
def lnEA : List D → Nat
  | [] => 0
  | x :: xs => lnE x + 2 + lnEA xs
end
mutual
theorem lnE_le : ∀ d : D, rkE d = true → (toPyE d).shown.length ≤ lnE d
  | .non, _ => Nat.le_refl _
  | .bl b, _ => by cases b <;> decide
  | .int i, h => by
    unfold rkE at h
    have h := of_decide_eq_true h
    unfold toPyE PyData.shown lnE
    rw [PySem.ofString_length]
    exact Nat.le_trans (PySem.int_text_length_le10 (k := 60) (by decide) h) (by decide)
  | .str x, h => by
    unfold rkE okS at h
    have := StrLaws.reprText_len (S x) fun c hc => by
      rw [S_list] at hc
      have := of_decide_eq_true (List.all_eq_true.mp h c hc)
      rw [show (16 : Nat) ^ 8 = 4294967296 by decide]; omega
    rw [S_len] at this
    exact this
  | .tup xs, h => by
    have h1 := lnEA_le xs (by unfold rkE at h; exact h)
    have h2 := tupleText_len_le (PyData.shownAll (toPyEA xs))
    unfold toPyE PyData.shown lnE
    omega
  | .lst xs, h => by
    have h1 := lnEA_le xs (by unfold rkE at h; exact h)
    have h2 := listText_len_le (PyData.shownAll (toPyEA xs))
    unfold toPyE PyData.shown lnE
    omega
  | .dk _, h => dictText_len_le []
  | .ml _, h => by unfold rkE at h; cases h
  | .scr _, h => by unfold rkE at h; cases h
theorem lnEA_le : ∀ d : List D, rkEA d = true → ((PyData.shownAll (toPyEA d)).map (·.length)).sum + 2 * (PyData.shownAll (toPyEA d)).length ≤ lnEA d
  | [], _ => Nat.le_refl _
  | x :: xs, h => by
    unfold rkEA at h
    rw [Bool.and_eq_true] at h
    have h1 := lnE_le x h.1
    have h2 := lnEA_le xs h.2
    unfold toPyEA PyData.shownAll lnEA
    rw [List.map_cons, List.sum_cons, List.length_cons]
    omega
end
mutual
theorem lnE_wg : ∀ d : D, lnE d ≤ 10 * wgE d + 8
  | .non => by unfold lnE; omega
  | .bl _ => by unfold lnE; omega
  | .int _ => by unfold lnE wgE; omega
  | .str x => by unfold lnE wgE; omega
  | .tup xs => by have := lnEA_wg xs; unfold lnE wgE; omega
  | .lst xs => by have := lnEA_wg xs; unfold lnE wgE; omega
  | .dk _ => by unfold lnE; omega
  | .ml _ => by unfold lnE; omega
  | .scr _ => by unfold lnE; omega
theorem lnEA_wg : ∀ d : List D, lnEA d ≤ 10 * wgEA d
  | [] => Nat.zero_le _
  | x :: xs => by have := lnE_wg x; have := lnEA_wg xs; unfold lnEA wgEA; omega
end
/-- how a value is shown, as a text that may be told once more -/
theorem shE_len {d : D} (h : rkE d = true) : (shE d).length ≤ lnE d := by
  have := lnE_le d h
  have e : (shE d).length = (toPyE d).shown.length := by unfold shE; simp [Str.length]
  omega
theorem S_shE (d : D) : S (shE d) = (toPyE d).shown := S_of _
theorem shE_told {d : D} (h : rkE d = true) : (toPyE (.str (shE d))).shown.length ≤ 10 * lnE d + 2 := by
  have h1 := StrLaws.reprText_len (S (shE d)) (by rw [S_shE]; exact sgE d h)
  have h2 := shE_len h
  rw [S_len] at h1
  have h1 : (toPyE (.str (shE d))).shown.length ≤ 10 * (shE d).length + 2 := h1
  omega
theorem rX_told {d : D} (h : rkE d = true) (hl : lnE d ≤ 1600000) : rX (.str (shE d)) := ⟨rfl, Nat.zero_le _, by
  have := shE_told h
  rw [sizeLine_eq]; omega⟩
end Pl

namespace Pl
open PySem PySem.Spec PyProof.Rows L2

/-! ### tuple of a list, of a tuple, of a text -/
def gTupleS : FL := fun ds Q => match ds with
  | [.lst xs] => Q (.tup xs)
  | [.tup xs] => Q (.tup xs)
  | [.str x] => Q (.tup (x.map fun c => D.str [c]))
  | _ => False
theorem mo_gTupleS : MoL gTupleS := fun a Q Q' h q => by
  unfold gTupleS at q ⊢
  split at q <;> first | exact h _ q | exact q
def rTupleS (K : Fg0) : List V → Hp → VK → Prop := fun xs H Q => rTuple K xs H Q ∨ ∃ z, xs = [.str z] ∧ z.length ≤ sizeLine ∧ ∀ l, H l = none → Q (.ref l) (upd H l (.tup (z.cps.toList.map fun c => V.str (S [c]))))
theorem call_tupleS {X : Cx} (hh : X.A.handled = none) : CallR X (.type "tuple") (fun xs H Q => ∃ z, xs = [.str z] ∧ z.length ≤ sizeLine ∧ ∀ l, H l = none → Q (.ref l) (upd H l (.tup (z.cps.toList.map fun c => V.str (S [c]))))) := by
  intro pins s σ H xs us Q I r h
  obtain ⟨z, rfl, hz, q⟩ := h
  obtain ⟨u, rfl, rx⟩ := vals1 r
  obtain ⟨t, rfl⟩ := rx
  refine PySem.call_tuple_str hh z t (fun h' tk acc k ia => ?_) hz
  obtain ⟨hs, ha⟩ := ia
  have I1 : Inv X pins σ H { s with heap := h', toks := tk } := I.kept (t' := tk) k
  have key : ∀ (l : List Nat) (vs : List Value), vs.length = l.length → (∀ (j : Nat) (v : Value), vs[j]? = some v → ∃ c u, l[j]? = some c ∧ v = Value.str ⟨#[c]⟩ u) → Vals (l.map fun c => V.str (S [c])) vs := by
    intro l
    induction l with
    | nil => intro vs hl _; cases vs with
      | nil => exact .nil
      | cons _ _ => cases hl
    | cons c l ih =>
      intro vs hl hv
      cases vs with
      | nil => cases hl
      | cons v vs =>
        obtain ⟨c', u, e1, e2⟩ := hv 0 v rfl
        have e1' : c = c' := by simpa using e1
        subst e1'
        exact .cons ⟨u, e2⟩ (ih vs (by simpa using hl) fun j v h => hv (j + 1) v (by simpa using h))
  have hv := key z.cps.toList acc.toList (by simpa using hs) fun j v h => by
    obtain ⟨c, u, e1, e2⟩ := ha j v (by simpa using h)
    exact ⟨c, u, by simpa using e1, e2⟩
  have I2 : Inv X pins σ (upd H h'.objs.size (.tup (z.cps.toList.map fun c => V.str (S [c])))) { s with heap := h'.push { cls := .type "tuple", data := .seq acc }, toks := tk } :=
    I1.laid (t' := tk) (fun b o e => Heap.get?_push_of_some _ e) (Nat.le_refl _) (show ObjOk X.prog X.w _ _ _ (.tup (z.cps.toList.map fun c => V.str (S [c]))) from ⟨by rw [List.length_map]; simpa [Str.length] using hz, acc.toList, hv, by simpa using IsTup.new h' acc⟩)
  exact ⟨.ref h'.objs.size, _, I2, rfl, q _ (I1.hok.fresh (Nat.le_refl _))⟩
theorem b_tupleS {K : Fg0} {X : Cx} (hh : X.A.handled = none) (hK : X.K = K := by rfl) : BR K X (.type "tuple") (rTupleS K) gTupleS := by
  subst hK
  refine ⟨(b_tuple (X := X)).cr.or (call_tupleS hh), fun M m H vs ds Q h ii q => ?_, mo_gTupleS⟩
  unfold gTupleS at q
  split at q
  · exact .inl ((b_tuple (X := X)).rd M m H vs _ Q h ii q)
  · exact .inl ((b_tuple (X := X)).rd M m H vs _ Q h ii q)
  · rename_i x
    obtain ⟨v, rfl, i⟩ := ii.one
    obtain ⟨e, z⟩ := i.str
    subst e
    refine .inr ⟨_, rfl, by rw [S_len]; exact z, fun l n => ?_⟩
    rw [S_list]
    refine Wn.tup h q n ?_ (by rw [List.length_map]; exact z)
    have key : ∀ l : List Nat, IsA X.K M (hid m H) (l.map fun c => V.str (S [c])) (l.map fun c => D.str [c]) := fun l => by
      induction l with
      | nil => exact .nil
      | cons c l ih => exact .cons (.str [c] (by rw [sizeLine_eq]; simp)) ih
    exact key x
  · exact q.elim
end Pl

namespace Pl
open PySem PySem.Spec PyProof.Rows L2

/-! words: all steps, more of them -/
end Pl

namespace Pl
open PySem PySem.Spec PyProof.Rows L2

/-! ### xs.index(x) of lists -/
def gLIndex : FM := fun o ds Q => match o, ds with
  | .lst xs, [d] => sh (.lst xs) = true ∧ sh d = true ∧ ∃ j z, xs[j]? = some z ∧ eqv z d = true ∧ (∀ (m : Nat) z', m < j → xs[m]? = some z' → eqv z' d = false) ∧ Q (.int (j : Nat))
  | _, _ => False
theorem mo_gLIndex : MoM gLIndex := fun o a Q Q' h q => by
  unfold gLIndex at q ⊢
  split at q
  · obtain ⟨a, b, j, z, c, d, e, q⟩ := q
    exact ⟨a, b, j, z, c, d, e, h _ q⟩
  · exact q
theorem m_lindex {K : Fg0} {X : Cx} {k : Nat} (hr : Room k X.A) (hK : X.K = K := by rfl) : MR K X "list.index" (rIndexD K) gLIndex := by
  subst hK
  refine ⟨mt_indexD (by have := hr.un; omega), fun M m H v vs d ds Q h i ii q => ?_, mo_gLIndex⟩
  unfold gLIndex at q
  split at q
  · rename_i xs d
    obtain ⟨a1, a2, j, z, c, e, f, q⟩ := q
    obtain ⟨w, rfl, k⟩ := ii.one
    have hd := i.dp a1
    obtain ⟨p, us, rfl, _⟩ := i.lst
    refine ⟨p, w, toPy d, toPyA xs, j, toPy z, rfl, rfl, hd, k.dp a2, shaped_py a1, shaped_py a2, by rw [toPyA_map, List.getElem?_map, c]; rfl, e, fun m z' hm hz => ?_, Wn.int h q⟩
    rw [toPyA_map, List.getElem?_map] at hz
    cases e2 : xs[m]? with
    | none => rw [e2] at hz; cases hz
    | some y =>
      rw [e2] at hz
      cases hz
      exact f m y hm e2
  · exact q.elim

/-! ### min of a list of texts -/
theorem eqv_str (a b : List Nat) : eqv (.str a) (.str b) = decide (a = b) := by
  unfold eqv toPy
  rw [PyData.eqv]
  by_cases h : a = b
  · subst h; simp
  · rw [decide_eq_false h, beq_eq_false_iff_ne]
    exact fun z => h (S_inj.mp z)
theorem lt_S (x y : List Nat) : PySem.W.DatumOrd.lt (S x) (S y) = decide (x < y) := by
  show decide ((S x).cps.toList < (S y).cps.toList) = _
  rw [S_list, S_list]
theorem tot_str {x y : List Nat} (h : ¬ x < y) : y ≤ x := List.not_lt.mp h
theorem minOf_S (x : List Nat) (xs : List (List Nat)) : ∃ m ∈ x :: xs, PySem.W.minOf (S x) (xs.map S) = S m ∧ ∀ y ∈ x :: xs, m ≤ y := by
  induction xs generalizing x with
  | nil => exact ⟨x, List.mem_cons_self, rfl, fun y hy => by rw [List.mem_singleton.mp hy]; exact List.le_refl _⟩
  | cons y xs ih =>
    have e : PySem.W.minOf (S x) ((y :: xs).map S) = PySem.W.minOf (if PySem.W.DatumOrd.lt (S y) (S x) = true then S y else S x) (xs.map S) := rfl
    rw [e, lt_S]
    by_cases h : y < x
    · rw [if_pos (decide_eq_true h)]
      obtain ⟨m, hm, em, hle⟩ := ih y
      refine ⟨m, List.mem_cons_of_mem _ hm, em, fun z hz => ?_⟩
      rcases List.mem_cons.mp hz with rfl | hz
      · exact List.le_trans (hle y List.mem_cons_self) (List.le_of_lt h)
      · exact hle z hz
    · rw [if_neg (by rw [decide_eq_false h]; exact Bool.false_ne_true)]
      obtain ⟨m, hm, em, hle⟩ := ih x
      refine ⟨m, ?_, em, fun z hz => ?_⟩
      · rcases List.mem_cons.mp hm with rfl | hm
        · exact List.mem_cons_self
        · exact List.mem_cons_of_mem _ (List.mem_cons_of_mem _ hm)
      · rcases List.mem_cons.mp hz with rfl | hz
        · exact hle z List.mem_cons_self
        · rcases List.mem_cons.mp hz with rfl | hz
          · exact List.le_trans (hle x List.mem_cons_self) (tot_str h)
          · exact hle z (List.mem_cons_of_mem _ hz)
theorem depth_strs : ∀ xs : List (List Nat), PyData.depthAll ((xs.map D.str).map toPy) ≤ 50
  | [] => by show (0 : Nat) ≤ 50; decide
  | x :: xs => by
    have := depth_strs xs
    show max (PyData.depth (toPy (.str x))) (PyData.depthAll ((xs.map D.str).map toPy)) ≤ 50
    have h : PyData.depth (toPy (.str x)) = 0 := rfl
    omega
theorem min_strs {x : List Nat} {xs : List (List Nat)} {Q : D → Prop} (hok : ∀ y ∈ x :: xs, okS y = true) (h : ∀ m ∈ x :: xs, (∀ y ∈ x :: xs, m ≤ y) → Q (.str m)) : gMinD [.lst ((x :: xs).map D.str)] Q := by
  have em : ((x :: xs).map D.str).map toPy = ((x :: xs).map S).map PySem.W.Datum.toD := by
    rw [List.map_map, List.map_map]; rfl
  refine ⟨⟨fun d hd => ?_, ?_, depth_strs (x :: xs)⟩, fun d hd e => ?_⟩
  · obtain ⟨p, hp, rfl⟩ := List.mem_map.mp (show d ∈ (x :: xs).map D.str from hd)
    unfold okD; exact hok p hp
  · show PySem.W.AlikeAll (((x :: xs).map D.str).map toPy)
    rw [em]; exact PySem.W.alikeAll_datum _
  · obtain ⟨p, hp, rfl⟩ := List.mem_map.mp (show d ∈ (x :: xs).map D.str from hd)
    obtain ⟨m, hm, e2, hle⟩ := minOf_S x xs
    have : toPy (.str p) = toPy (.str m) := by
      rw [e]
      have e3 := PySem.W.minD_map (S x) (xs.map S)
      rw [e2] at e3
      have e4 : (xs.map D.str).map toPy = (xs.map S).map PySem.W.Datum.toD := by rw [List.map_map, List.map_map]; rfl
      rw [e4]
      exact e3
    have : p = m := by
      unfold toPy at this
      exact S_inj.mp (PyData.str.inj this)
    rw [this]
    exact h m hm hle

/-! ### sorted of pairs of a text and a number -/
def psD (p : List Nat × Nat) : D := .tup [.str p.1, .int p.2]
def psI (p : List Nat × Nat) : Str × Int := (S p.1, p.2)
theorem toPy_psD (p : List Nat × Nat) : toPy (psD p) = PySem.W.Datum.toD (psI p) := rfl
/-- in the order of pairs -/
def lePs (p q : List Nat × Nat) : Prop := p.1 < q.1 ∨ p.1 = q.1 ∧ p.2 ≤ q.2
instance (p q : List Nat × Nat) : Decidable (lePs p q) := by unfold lePs; exact inferInstance
theorem lt_psI (p q : List Nat × Nat) : PySem.W.DatumOrd.lt (psI p) (psI q) = true ↔ p.1 < q.1 ∨ p.1 = q.1 ∧ p.2 < q.2 := by
  show (if S p.1 = S q.1 then decide ((p.2 : Int) < (q.2 : Int)) else decide ((S p.1).cps.toList < (S q.1).cps.toList)) = true ↔ _
  rw [S_list, S_list]
  split
  · rename_i h
    have h := S_inj.mp h
    rw [decide_eq_true_eq, h]
    constructor
    · intro z; exact .inr ⟨rfl, by omega⟩
    · rintro (z | ⟨_, z⟩)
      · exact absurd z (List.lt_irrefl _)
      · omega
  · rename_i h
    have h : p.1 ≠ q.1 := fun z => h (by rw [z])
    rw [decide_eq_true_eq]
    constructor
    · exact .inl
    · rintro (z | ⟨z, _⟩)
      · exact z
      · exact absurd z h
theorem le_psD (p q : List Nat × Nat) : leD (psD p) (psD q) = decide (lePs p q) := by
  have h := lt_psI q p
  have e : leD (psD p) (psD q) = !PySem.W.dataLt (toPy (psD q)) (toPy (psD p)) := congrFun (congrFun (PySem.W.dataLe_eq false toPy) _) _
  rw [e, toPy_psD, toPy_psD, PySem.W.DatumOrd.lt_eq]
  by_cases z : lePs p q
  · rw [decide_eq_true z]
    cases c : PySem.W.DatumOrd.lt (psI q) (psI p) with
    | false => rfl
    | true =>
      exfalso
      have := h.mp c
      unfold lePs at z
      rcases z with z | ⟨z, z2⟩ <;> rcases this with y | ⟨y, y2⟩
      · exact List.lt_irrefl _ (List.lt_trans z y)
      · rw [y] at z; exact List.lt_irrefl _ z
      · rw [z] at y; exact List.lt_irrefl _ y
      · omega
  · rw [decide_eq_false z]
    cases c : PySem.W.DatumOrd.lt (psI q) (psI p) with
    | true => rfl
    | false =>
      exfalso
      refine z ?_
      unfold lePs
      by_cases a : p.1 < q.1
      · exact .inl a
      · by_cases b : p.1 = q.1
        · refine .inr ⟨b, ?_⟩
          by_cases d : p.2 ≤ q.2
          · exact d
          · have : PySem.W.DatumOrd.lt (psI q) (psI p) = true := h.mpr (.inr ⟨b.symm, by omega⟩)
            rw [c] at this; cases this
        · have : PySem.W.DatumOrd.lt (psI q) (psI p) = true := h.mpr (.inl (by
            rcases List.le_total q.1 p.1 with y | y
            · by_cases d : q.1 < p.1
              · exact d
              · exact absurd (List.le_antisymm (List.not_lt.mp d) y) b
            · exact absurd (List.le_antisymm y (List.not_lt.mp a)) b))
          rw [c] at this; cases this
theorem srt_ps {xs : List (List Nat × Nat)} (h : ∀ p ∈ xs, okS p.1 = true) : SrtOk (xs.map psD) := by
  refine ⟨fun d hd => ?_, ?_, ?_⟩
  · obtain ⟨x, hx, rfl⟩ := List.mem_map.mp hd
    refine ⟨?_, by show (1 : Nat) ≤ 40; decide⟩
    show (okD (.str x.1) && (true && true)) = true
    rw [show okD (.str x.1) = true from h x hx]; rfl
  · rw [List.map_map]
    exact PySem.W.AllAlike.of fun b b' => by
      show PySem.W.alike (PySem.W.Datum.toD (psI b)) (PySem.W.Datum.toD (psI b')) = true
      exact PySem.W.DatumOrd.alike _ _
  · rw [List.map_map]
    exact PySem.W.Sortable.tuples fun b => ⟨_, _, rfl⟩
/-- the first of sorted pairs -/
theorem sorted_ps {xs : List (List Nat × Nat)} (h : xs ≠ []) : ∃ m ms, (xs.map psD).mergeSort leD = (m :: ms).map psD ∧ m ∈ xs ∧ ∀ y ∈ xs, lePs m y := by
  have e : (xs.map psD).mergeSort leD = (xs.mergeSort fun p q => decide (lePs p q)).map psD := (List.map_mergeSort (f := psD) (fun x _ y _ => (le_psD x y).symm)).symm
  have tr : ∀ a b c : List Nat × Nat, lePs a b → lePs b c → lePs a c := fun a b c h1 h2 => by
    unfold lePs at *
    rcases h1 with h1 | ⟨h1, h3⟩ <;> rcases h2 with h2 | ⟨h2, h4⟩
    · exact .inl (List.lt_trans h1 h2)
    · rw [h2] at h1; exact .inl h1
    · rw [← h1] at h2; exact .inl h2
    · exact .inr ⟨h1.trans h2, by omega⟩
  have tt : ∀ a b : List Nat × Nat, lePs a b ∨ lePs b a := fun a b => by
    unfold lePs
    by_cases x : a.1 < b.1
    · exact .inl (.inl x)
    · by_cases y : b.1 < a.1
      · exact .inr (.inl y)
      · have := List.le_antisymm (List.not_lt.mp y) (List.not_lt.mp x)
        rcases Nat.le_total a.2 b.2 with z | z
        · exact .inl (.inr ⟨this, z⟩)
        · exact .inr (.inr ⟨this.symm, z⟩)
  have hp := List.pairwise_mergeSort (le := fun p q : List Nat × Nat => decide (lePs p q)) (fun a b c h1 h2 => decide_eq_true (tr a b c (of_decide_eq_true h1) (of_decide_eq_true h2))) (fun a b => by
    rcases tt a b with h | h
    · rw [decide_eq_true h]; rfl
    · rw [decide_eq_true h, Bool.or_true]) xs
  have hm := List.mergeSort_perm xs fun p q : List Nat × Nat => decide (lePs p q)
  rw [e]
  cases c : xs.mergeSort fun p q => decide (lePs p q) with
  | nil =>
    rw [c] at hm
    exact absurd hm.symm.eq_nil h
  | cons m ms =>
    rw [c] at hm hp
    refine ⟨m, ms, rfl, hm.mem_iff.mp List.mem_cons_self, fun y hy => ?_⟩
    rcases List.mem_cons.mp (hm.mem_iff.mpr hy) with z | z
    · rw [z]
      rcases tt m m with q | q <;> exact q
    · exact of_decide_eq_true ((List.pairwise_cons.mp hp).1 y z)
end Pl

namespace Pl
open PySem PySem.Spec PyProof.Rows L2

/-! ### tuple * int -/
theorem tuple_mul1 (l : Addr) (items : Array Value) (n : Nat) (dd : Option Addr) (sl : Array (Option Value)) (u : Tok) :
    Meets (Builtin.«tuple.__mul__» ⟨[.ref l, .int 1 u], []⟩) (fun _ R s => s.heap.get? l = some { cls := .type "tuple", dict := dd, data := .seq items n, slots := sl } ∧
      R (.ok (.ret (Value.ref l))) s) :=
  .of_wp fun prog w A R s h => by
    obtain ⟨hp, g, d, tk, os⟩ := s
    obtain ⟨hl, h⟩ := h
    have f1 := AutoSeq1.idx_int
    have c0 : (decide ((1 : Int) < -(2 ^ 63)) || decide ((1 : Int) ≥ 2 ^ 63)) = false := by decide
    have c1 : (items.isEmpty || (1 : Int) == 1) = true := by rw [show ((1 : Int) == 1) = true from rfl, Bool.or_true]
    wp_walk using AutoSeq1.wpAny_loadPart' hl
    repeat (first
      | (refine wpAny_ite_false (decide_eq_false (by rw [c0]; exact Bool.false_ne_true)) ?_; wp_walk using AutoSeq1.wpAny_loadPart' hl)
      | (refine wpAny_ite_true (decide_eq_true c1) ?_; wp_walk using AutoSeq1.wpAny_loadPart' hl))
    exact ⟨_, rfl, h⟩
def rRepT1 (K : Fg0) : R2 := fun x y H Q => ∃ l xs, x = .ref l ∧ y = .int 1 ∧ SqT K H l xs ∧ Q (.ref l) H
theorem op_repT1 {X : Cx} : OpR X (binaryOp .Mult) (rRepT1 X.K) := by
  intro pins s σ H x y v u Q I rx ry h
  obtain ⟨l, xs, rfl, rfl, hT, q⟩ := h
  cases rx
  obtain ⟨t, rfl⟩ := ry
  obtain ⟨its, r, ⟨⟨cls, dd, data, sl⟩, ho, hc, n, hd⟩, hs⟩ := I.tuple hT
  simp only at hc hd
  subst hc hd
  refine wpAny_binaryOp_repeat_ref (T := "tuple") (U := "int") (by decide) ⟨_, ho, rfl⟩ (fun s' => typeIs_int s' 1 t) noFill_tuple_mul PySem.F.fills_int_mul PySem.F.slot_int_rmul repeat_tuple PySem.F.slot_int_index.lookup
    (call_meets PySem.F.slot_int_rmul (typeIs_int s 1 t) PySem.F.entry_int_rmul (PySem.F.args_int_rmul_2 _ _) (int_rmul_tuple 1 t l its.toArray n dd sl)
      ⟨ho, rfl, ⟨_, ho, rfl⟩, call_meets PySem.F.slot_tuple_mul ⟨_, ho, rfl⟩ PySem.F.entry_tuple_mul (PySem.F.args_tuple_mul_2 _ _) (tuple_mul1 l its.toArray n dd sl t) ⟨ho, ?_⟩⟩)
  exact ⟨.ref l, H, I, rfl, q⟩
def gMulT : F2 := fun a b Q => match a, b with
  | .tup xs, .int k => xs ≠ [] ∧ 1 ≤ k ∧ k ≤ 1000 ∧ xs.length ≤ 1000 ∧ Q (.tup (List.replicate k.toNat xs).flatten)
  | _, _ => False
theorem mo_gMulT : Mo2 gMulT := fun a b Q Q' h q => by
  unfold gMulT at q ⊢
  split at q
  · exact ⟨q.1, q.2.1, q.2.2.1, q.2.2.2.1, h _ q.2.2.2.2⟩
  · exact q
theorem rd_mulT {K : Fg0} : R2d K (fun x y H Q => rRepT K x y H Q ∨ rRepT1 K x y H Q) gMulT := fun M m H x y a b Q h ia ib q => by
  unfold gMulT at q
  split at q
  · rename_i xs k
    obtain ⟨h1, h2, h3, h4, q⟩ := q
    obtain ⟨p, vs, rfl, r, k1, t, z⟩ := ia.tup
    by_cases e : k = 1
    · subst e
      refine .inr ⟨p, vs, rfl, ib.int, r, ?_⟩
      rw [show (List.replicate (Int.toNat 1) xs).flatten = xs by simp [List.replicate]] at q
      exact Wn.flat h q (.tup t k1 z)
    · have f : ∀ n : Nat, IsA K M (hid m H) (List.replicate n vs).flatten (List.replicate n xs).flatten := fun n => by
        induction n with
        | zero => exact .nil
        | succ n ih => rw [List.replicate_succ, List.replicate_succ, List.flatten_cons, List.flatten_cons]; exact k1.append ih
      refine .inl ⟨p, k, vs, rfl, ib.int, r, fun e2 => h1 ?_, by omega, h3, by rw [k1.length]; exact h4, fun l n => Wn.tup h q n (f _) ?_⟩
      · subst e2
        cases k1; rfl
      · rw [List.length_flatten, List.map_replicate, List.sum_replicate_nat, sizeLine_eq]
        have a1 : k.toNat * xs.length ≤ 1000 * 1000 := Nat.mul_le_mul (by omega) h4
        omega
  · exact q.elim
theorem e_mulT {K : Fg} {X : Cx} {a b : Expr} {ta tb : TE} {fa fb : FE} {pos : Pos} (ha : DT K X a ta fa) (hb : DT K X b tb fb) (hK : X.K = K := by rfl) : DE K X (.BinOp a .Mult b pos) (tOp (fun x y H Q => rRepT K x y H Q ∨ rRepT1 K x y H Q) ta tb) (f2 gMulT fa fb) := by
  obtain ⟨K, stK⟩ := K
  replace hK : X.K = K := hK
  subst hK
  exact e_bin (op_repT.or op_repT1) rd_mulT mo_gMulT ha hb
end Pl

namespace Pl
open PySem PySem.Spec PyProof.Rows L2
open PySem.W (EachIs AllAlike Sortable dataLe SortsAt sortVals sortVals_length sortVals_data each_map sortingHeap copyHeap sorting_copy_old bound_map dataKind copyHeap_at list_sort_vals list_sort_rev_vals)

/-! ### sorted of tuples, and the other way round -/
section
variable {prog : Program} {w : World} {A : Around} {E : Value → Shared → Prop} {s : Shared}
theorem collect_tup {l : Addr} {vs : List Value} {Q : List Value → Shared → Prop} (hl : IsTup s.heap l vs.toArray)
    (h : Q vs { s with heap := (s.heap.push (seqObj "list" #[] 0)).update s.heap.objs.size (Obj.mapSeq (· ++ vs.toArray)) }) (hsz : vs.length ≤ sizeLine) :
    wpAny (model prog w) A (collect (.ref l)) Q E s := by
  obtain ⟨o, ho, hc, n, hd⟩ := id hl
  unfold collect
  refine wpAny_bind (wpAny_runValue (codeAny_builtin entry_proto_collect' ?_))
  show wpAny _ _ (do again (.builtin "list.__iadd__" ⟨[← newList [], .ref l], []⟩)) _ _ s
  refine wpAny_bind (wpAny_newList (wpAny_pure ⟨Code.quiet_builtin _ (by decide +kernel), codeAny_builtin entry_list_iadd' ?_⟩))
  show wpAny _ _ (Builtin.List.listExtendWith (.ref s.heap.objs.size) (.ref l) (.ref s.heap.objs.size)) _ _ { s with heap := s.heap.push (seqObj "list" #[] 0) }
  unfold Builtin.List.listExtendWith
  have ho' : (s.heap.push (seqObj "list" #[] 0)).get? l = some o := Heap.get?_push_of_some _ ho
  refine wpAny_bind (wpAny_typeOf (T := "tuple") ⟨o, ho', hc⟩ ?_)
  have ht : (Value.type "tuple" == Value.type "tuple") = true := by rfl
  rw [if_pos (by rw [ht]; simp)]
  refine wpAny_bind (listItems_at ho' hd ?_)
  refine wpAny_bind (listItems_at (xs := #[]) (n := 0) (Heap.get?_push_size _ rfl) rfl ?_)
  rw [if_neg (by simp)]
  refine wpAny_bind (listUpdate_at (xs := #[]) (n := 0) (Heap.get?_push_size _ rfl) rfl ?_ (Nat.zero_le _) (by show (#[] ++ vs.toArray).size ≤ sizeLine + 1; simp only [Array.size_append, List.size_toArray, List.length_nil]; omega))
  refine wpAny_pure ?_
  show wpAny (model prog w) A (do
      let o ← load s.heap.objs.size
      match o.data with
      | .seq xs _ => pure xs.toList
      | _ => unsupported "internal:collect") Q E { s with heap := (s.heap.push (seqObj "list" #[] 0)).update s.heap.objs.size (Obj.mapSeq (· ++ vs.toArray)) }
  refine wpAny_bind (wpAny_load (get?_update_seq (Heap.get?_push_size _ rfl) _) ?_)
  show wpAny _ _ (pure ((#[] : Array Value) ++ vs.toArray).toList) Q E _
  rw [show ((#[] : Array Value) ++ vs.toArray).toList = vs by simp]
  exact wpAny_pure h
theorem sorted_of_sortT {l : Addr} {vs : List Value} {kw : List (Str × Value)} {Q : Value → Shared → Prop} (hl : IsTup s.heap l vs.toArray) (hL : vs.length ≤ sizeLine) (ha1 : argsOk "sorted" ⟨[.ref l], kw⟩) (ha2 : ∀ x, argsOk "list.sort" ⟨[.ref x], kw⟩)
    (body : ∀ E' : Value → Shared → Prop, wpAny (model prog w) A.in1.in1 (Builtin.«list.sort» ⟨[.ref (s.heap.objs.size + 1)], kw⟩) (fun f s' => f = .done (.ret .none) ∧ Q (.ref (s.heap.objs.size + 1)) s') E' { s with heap := copyHeap s.heap vs }) :
    wpAny (model prog w) A (call (.builtin "sorted") [.ref l] kw) Q E s := by
  refine call_function_entry_kw kind_sorted plain_sorted entry_sorted ha1 ?_
  unfold Builtin.«sorted»
  refine wpAny_bind (m := checkCount "sorted" 1 1 _) (wpAny_pure ?_)
  refine wpAny_bind (collect_tup hl ?_ hL)
  refine wpAny_bind (wpAny_newList ?_ hL)
  have hsz : ((s.heap.push (seqObj "list" #[] 0)).update s.heap.objs.size (Obj.mapSeq (· ++ vs.toArray))).objs.size = s.heap.objs.size + 1 := by
    rw [Heap.size_update, size_push']
  show wpAny _ _ _ _ _ { s with heap := copyHeap s.heap vs }
  rw [hsz]
  refine wpAny_bind (wpAny_holding (wpAny_call_entry_kw slot_list_sort ⟨_, copyHeap_at s.heap vs, rfl⟩ entry_list_sort ?body (ha2 _)))
  case body =>
    show wpAny (model prog w) A.in1.in1 (Builtin.«list.sort» ⟨[.ref (s.heap.objs.size + 1)], kw⟩) _ _ _
    refine wpAny_mono (body _) (fun f s' hf => ?_) fun _ _ e => e
    obtain ⟨rfl, hq⟩ := hf
    exact ⟨_, rfl, wpAny_pure ⟨_, rfl, hq⟩⟩
variable {β : Type} {bs : List β} {enc : β → PyData} {R : Value → β → Prop} {vs : List Value}
theorem sorted_dataT {l : Addr} {Q : Value → Shared → Prop} (hl : IsTup s.heap l vs.toArray) (e : EachIs R vs bs) (er : EachIs (fun v b => ∃ as, Reads s.heap v (enc b) as) vs bs) (hal : AllAlike (bs.map enc)) (hk : Sortable (bs.map enc)) (hL : bs.length ≤ sizeLine)
    (hu : ∀ b, b ∈ bs → A.units + 2 + (enc b).depth < cLine) (h : ∀ out, out.length = bs.length → EachIs R out (bs.mergeSort (dataLe false enc)) → Q (.ref (s.heap.objs.size + 1)) { s with heap := sortedAll s.heap vs (List.toArray out) }) :
    wpAny (model prog w) A (call (.builtin "sorted") [.ref l]) Q E s := by
  have er' : EachIs (fun v b => ∃ as, Reads (sortingHeap (copyHeap s.heap vs) (s.heap.objs.size + 1) vs) v (enc b) as) vs bs := er.mono fun _ _ ⟨as, r⟩ => ⟨as, PyProof.Rows.Reads.keeps (fun _ _ => sorting_copy_old) r⟩
  exact sorted_of_sortT hl (by rw [e.length]; exact hL) (args_sorted1 _) (fun _ => args_list_sort _) fun _ => list_sort_vals (s := { s with heap := copyHeap s.heap vs }) (copyHeap_at s.heap vs) (SortsAt.data (s := { s with heap := sortingHeap (copyHeap s.heap vs) (s.heap.objs.size + 1) vs }) (each_map (R := fun v d => ∃ as, Reads (sortingHeap (copyHeap s.heap vs) (s.heap.objs.size + 1) vs) v d as) enc er') hal hk (bound_map hu)) (by rw [e.length]; exact hL)
    ⟨rfl, h _ (by rw [sortVals_length false rfl]; exact e.length) (sortVals_data false e er' hal)⟩
theorem sorted_rev_dataT {l : Addr} {b : Bool} {Q : Value → Shared → Prop} (hl : IsTup s.heap l vs.toArray) (e : EachIs R vs bs) (er : EachIs (fun v b => ∃ as, Reads s.heap v (enc b) as) vs bs) (hal : AllAlike (bs.map enc)) (hk : Sortable (bs.map enc)) (hL : bs.length ≤ sizeLine)
    (hu : ∀ b, b ∈ bs → A.units + 2 + (enc b).depth < cLine) (h : ∀ out, out.length = bs.length → EachIs R out (bs.mergeSort (dataLe b enc)) → Q (.ref (s.heap.objs.size + 1)) { s with heap := sortedAll s.heap vs (List.toArray out) }) :
    wpAny (model prog w) A (call (.builtin "sorted") [.ref l] [(Str.ofString "reverse", .bool b)]) Q E s := by
  have er' : EachIs (fun v b => ∃ as, Reads (sortingHeap (copyHeap s.heap vs) (s.heap.objs.size + 1) vs) v (enc b) as) vs bs := er.mono fun _ _ ⟨as, r⟩ => ⟨as, PyProof.Rows.Reads.keeps (fun _ _ => sorting_copy_old) r⟩
  exact sorted_of_sortT hl (by rw [e.length]; exact hL) (args_sorted_rev _ _) (fun _ => args_list_sort_rev _ _) fun _ => list_sort_rev_vals (s := { s with heap := copyHeap s.heap vs }) (copyHeap_at s.heap vs) (SortsAt.data (s := { s with heap := sortingHeap (copyHeap s.heap vs) (s.heap.objs.size + 1) vs }) (each_map (R := fun v d => ∃ as, Reads (sortingHeap (copyHeap s.heap vs) (s.heap.objs.size + 1) vs) v d as) enc er') hal hk (bound_map hu)) (by rw [e.length]; exact hL)
    ⟨rfl, h _ (by rw [sortVals_length b rfl]; exact e.length) (sortVals_data b e er' hal)⟩
end
/-- sorted(list or tuple) -/
def rSortedT (K : Fg0) (rev : Bool) : List V → Hp → VK → Prop := fun vs H Q => ∃ (a : Addr) (xs : List V) (ds : List D) (B : V → D → Prop), vs = [.ref a] ∧ (SqL K H a xs ∨ SqT K H a xs) ∧ EachIs B xs ds ∧ EachIs (fun v d => Dp K H v (toPy d)) xs ds ∧ SrtOk ds ∧ ds.length ≤ sizeLine ∧
  ∀ p ws, H p = none → EachIs B ws (ds.mergeSort (dataLe rev toPy)) → Q (.ref p) (upd H p (.lst ws))
theorem sortT_fin {X : Cx} {pins : List (Addr × Obj)} {s : Shared} {σ : L2.St} {H : Hp} {Q : VK} {rev : Bool} {ds : List D} {B : V → D → Prop} {its : List Value} (I : Inv X pins σ H s) (hL : ds.length ≤ sizeLine) (q : ∀ p ws, H p = none → EachIs B ws (ds.mergeSort (dataLe rev toPy)) → Q (.ref p) (upd H p (.lst ws))) :
    ∀ out, out.length = ds.length → EachIs (fun u d => ∃ v, RelV v u ∧ B v d) out (ds.mergeSort (dataLe rev toPy)) → EP X pins σ Q (.ref (s.heap.objs.size + 1)) { s with heap := sortedAll s.heap its (List.toArray out) } := fun out ho eo => by
  obtain ⟨ws, h1, h2⟩ := val_each eo
  obtain ⟨ep, he'⟩ := PyProof.Rows.sortedAll_at s.heap its out.toArray
  have hlen : ws.length ≤ sizeLine := by rw [each_len h2, List.length_mergeSort]; exact hL
  exact ⟨.ref _, upd H (s.heap.objs.size + 1) (.lst ws), I.laid (t' := s.toks) (fun _ _ => PyProof.Rows.sortedAll_old) (Nat.le_succ _) ⟨hlen, out.toArray.toList, ep, h1, he'⟩, rfl, q _ ws (I.hok.fresh (Nat.le_succ _)) h2⟩
theorem cr_sortedT {X : Cx} (hu : X.A.units + 64 < cLine) : CallR X (.builtin "sorted") (rSortedT X.K false) := by
  intro pins s σ H xs us Q I r h
  obtain ⟨a, xs, ds, B, rfl, hs, hB, hD, ok, hL, q⟩ := h
  have hd : ∀ d, d ∈ ds → X.A.units + 2 + (toPy d).depth < cLine := fun d hd => by
    have := (ok.ok d hd).2
    rw [depth_py]; omega
  rcases hs with hs | hs
  · obtain ⟨its, rv, hl, zl⟩ := I.list hs
    rw [Vals.ref1 r]
    have er : EachIs (fun u d => ∃ as, Reads s.heap u (toPy d) as) its ds := each_mono (fun u d ⟨v, hr, hd⟩ => Dp.reads I _ _ _ hd hr) (each_val hD rv)
    exact PySem.W.sorted_data (R := fun u d => ∃ v, RelV v u ∧ B v d) hl.isList (each_val hB rv) er ok.al ok.so hL hd (sortT_fin I hL q)
  · obtain ⟨its, rv, hl, zl⟩ := I.tuple hs
    rw [Vals.ref1 r]
    have er : EachIs (fun u d => ∃ as, Reads s.heap u (toPy d) as) its ds := each_mono (fun u d ⟨v, hr, hd⟩ => Dp.reads I _ _ _ hd hr) (each_val hD rv)
    exact sorted_dataT (R := fun u d => ∃ v, RelV v u ∧ B v d) hl (each_val hB rv) er ok.al ok.so hL hd (sortT_fin I hL q)
theorem cr_sortedR {X : Cx} {rev : Bool} (hu : X.A.units + 64 < cLine) : CallRK X (.builtin "sorted") [Str.ofString "reverse"] (fun vs zs H Q => zs = [.bl rev] ∧ rSortedT X.K rev vs H Q) := by
  intro pins s σ H vs zs us ws Q I r rz h
  obtain ⟨rfl, a, xs, ds, B, rfl, hs, hB, hD, ok, hL, q⟩ := h
  obtain ⟨w1, rfl, e1⟩ := vals1 rz
  obtain rfl : w1 = Value.bool rev := e1
  have hd : ∀ d, d ∈ ds → X.A.units + 2 + (toPy d).depth < cLine := fun d hd => by
    have := (ok.ok d hd).2
    rw [depth_py]; omega
  rcases hs with hs | hs
  · obtain ⟨its, rv, hl, zl⟩ := I.list hs
    rw [Vals.ref1 r]
    have er : EachIs (fun u d => ∃ as, Reads s.heap u (toPy d) as) its ds := each_mono (fun u d ⟨v, hr, hd⟩ => Dp.reads I _ _ _ hd hr) (each_val hD rv)
    exact PySem.W.sorted_rev_data (R := fun u d => ∃ v, RelV v u ∧ B v d) hl.isList (each_val hB rv) er ok.al ok.so hL hd (sortT_fin I hL q)
  · obtain ⟨its, rv, hl, zl⟩ := I.tuple hs
    rw [Vals.ref1 r]
    have er : EachIs (fun u d => ∃ as, Reads s.heap u (toPy d) as) its ds := each_mono (fun u d ⟨v, hr, hd⟩ => Dp.reads I _ _ _ hd hr) (each_val hD rv)
    exact sorted_rev_dataT (R := fun u d => ∃ v, RelV v u ∧ B v d) hl (each_val hB rv) er ok.al ok.so hL hd (sortT_fin I hL q)
def gSortedT (rev : Bool) : List D → (List D → Prop) → Prop := fun ds Q => match ds with
  | [.lst xs] => SrtOk xs ∧ Q (xs.mergeSort (dataLe rev toPy))
  | [.tup xs] => SrtOk xs ∧ Q (xs.mergeSort (dataLe rev toPy))
  | _ => False
theorem mo_gSortedT {rev : Bool} : ∀ a (Q Q' : List D → Prop), (∀ d, Q d → Q' d) → gSortedT rev a Q → gSortedT rev a Q' := fun a Q Q' h q => by
  unfold gSortedT at q ⊢
  split at q <;> first | exact ⟨q.1, h _ q.2⟩ | exact q
theorem rd_sortedT {K : Fg0} {rev : Bool} : RFd K (rSortedT K rev) (gSortedT rev) := fun M m H vs ds Q h ii q => by
  unfold gSortedT at q
  split at q
  · rename_i xs
    obtain ⟨ok, q⟩ := q
    obtain ⟨v, rfl, i⟩ := ii.one
    obtain ⟨p, ws, rfl, r, k, zl⟩ := i.lst
    refine ⟨p, ws, xs, Is K M (hid m H), rfl, .inl (.of r), k.each, ?_, ok, zl, fun l us n e => q l us n (each_isA e) (by rw [List.length_mergeSort]; exact zl)⟩
    exact each_mono (fun v d h => (h.1.mono hid_all).dp (ok.ok d h.2).1) (each_memR k.each)
  · rename_i xs
    obtain ⟨ok, q⟩ := q
    obtain ⟨v, rfl, i⟩ := ii.one
    obtain ⟨p, ws, rfl, r, k, t, zl⟩ := i.tup
    refine ⟨p, ws, xs, Is K M (hid m H), rfl, .inr r, k.each, ?_, ok, zl, fun l us n e => q l us n (each_isA e) (by rw [List.length_mergeSort]; exact zl)⟩
    exact each_mono (fun v d h => (h.1.mono hid_all).dp (ok.ok d h.2).1) (each_memR k.each)
  · exact q.elim
theorem lr_sortedT {K : Fg0} {X : Cx} (hu : X.A.units + 64 < cLine) (hK : X.K = K := by rfl) : LR K X (.builtin "sorted") (rSortedT K false) (gSortedT false) := by
  subst hK
  exact ⟨cr_sortedT hu, rd_sortedT, mo_gSortedT⟩
section
variable {K : Fg} {X : Cx} {x : Str} {p pos kpos cpos : Pos} {e : Expr} {t : TA} {fa : FA} {j : Nat}
/-- sorted(e, reverse=True) -/
theorem l_sortedR (hu : X.A.units + 64 < cLine) (hm : X.mg "sorted" = none) (ha : DAT K X [e] t fa) (hK : X.K = K := by rfl) (hg : Gl X "sorted" := by rfl)
    (he : backTo pos (starEach [e] X.env) = (false, eval e X.env) :: backTo pos (starEach [] X.env) := by rfl) (hpl : (backTo pos (starEach [e] X.env)).any (·.1) = false := by rfl)
    (hall : (backToKw pos (keywordEach [⟨some "reverse", .Constant (.bool true) j cpos, kpos⟩] X.env)).all (·.1.isSome) = true := by rfl) (hnone : (backToKw pos (keywordEach [⟨some "reverse", .Constant (.bool true) j cpos, kpos⟩] X.env)).any (·.1.isNone) = false := by rfl) (hks : (backToKw pos (keywordEach [⟨some "reverse", .Constant (.bool true) j cpos, kpos⟩] X.env)).filterMap (·.1) = [Str.ofString "reverse"] := by rfl) :
    DF K X (.Call (.Name "sorted" p) [e] [⟨some "reverse", .Constant (.bool true) j cpos, kpos⟩] pos) (tCKw (fun vs zs H Q => zs = [.bl true] ∧ rSortedT K true vs H Q) t (tCons (tC (.bl true)) tNil)) (lL (gSortedT true) fa) := by
  obtain ⟨K, stK⟩ := K
  replace hK : X.K = K := hK
  subst hK
  refine ⟨pe_callBK (cr_sortedR hu) hg hm (by decide +kernel) ha.pa (pk_cons pe_bl pk_nil) (by decide) (by decide) he hpl hall hnone hks, fun M H0 z m H σ ρ Q I q => ?_, fun ρ Q Q' h q => ha.mo ρ _ _ (fun ds q => mo_gSortedT _ _ _ h q) q⟩
  exact ha.rd M H0 z m H σ ρ _ I (ha.mo ρ _ _ (fun xs q vs H1 s1 i1 => by
    have h1 := I.hx.step s1
    refine ⟨rfl, rd_sortedT (K := X.K) (rev := true) M m H1 vs xs Q h1 i1 (mo_gSortedT _ _ _ (fun ds q p ws np a zl => ?_) q)⟩
    have s2 : Stp M H1 (upd H1 p (.lst ws)) := .new h1.ok np
    refine q p ws _ (s1.trans s2) ?_ upd_same (a.mono ((hid_more np).trans (hid_same fun b u _ e => by rw [upd_ne (ne_of_none e np)]; exact e))) zl
    cases e : H p with
    | none => rfl
    | some o => exact absurd np (s1.there p (by rw [e]; exact fun q => nomatch q))) q)
end
theorem sortedF_str (xs : List (List Nat)) : (xs.map D.str).mergeSort (dataLe false toPy) = (srS xs).map D.str := sorted_str xs
theorem ge_str (x y : List Nat) : dataLe true toPy (.str x) (.str y) = decide (y ≤ x) := by
  have := congrFun (congrFun (PySem.W.dataGe_str (fun x : List Nat => S x)) x) y
  rw [S_list, S_list] at this
  exact this
/-- the list, sorted the other way round -/
def grS (xs : List (List Nat)) : List (List Nat) := xs.mergeSort fun x y => decide (y ≤ x)
theorem sortedR_str (xs : List (List Nat)) : (xs.map D.str).mergeSort (dataLe true toPy) = (grS xs).map D.str :=
  (List.map_mergeSort (f := D.str) (fun x _ y _ => (ge_str x y).symm)).symm
theorem grS_perm (xs : List (List Nat)) : (grS xs).Perm xs := List.mergeSort_perm _ _
theorem grS_sorted (xs : List (List Nat)) : (grS xs).Pairwise (fun x y => y ≤ x) := by
  have := List.pairwise_mergeSort (le := fun x y : List Nat => decide (y ≤ x)) (fun a b c h1 h2 => decide_eq_true (List.le_trans (of_decide_eq_true h2) (of_decide_eq_true h1))) (fun a b => by
    rcases List.le_total a b with h | h
    · rw [decide_eq_true h, Bool.or_true]
    · rw [decide_eq_true h]; rfl) xs
  exact this.imp fun h => of_decide_eq_true h
end Pl

namespace Pl
open PySem PySem.Spec PyProof.Rows L2
/-! words: all steps, sorted of lists and tuples too -/
end Pl

/-! Exceptions of the program: super().__init__(..) -/
namespace Pl
open PySem PySem.Spec PyProof.Rows L2

/-- what the module says of an exception class C whose __init__ (at f, words F) says super().__init__(..) -/
structure ExcK (P : Program) (K : Fg0) (C f cc : Addr) (F : NdefX.NF) : Prop where
  oex : OexC K C
  fn : ∃ od sl doc pm ctv, K.lookup f = some (⟨.type "function", od, .func (F.fd doc pm ctv), sl⟩ : Obj)
  code : PySem.W.codeIn K (.ref F.c) F.qual = true
  file : ∃ ccl cdd vs ccs file tf, K.lookup F.c = some (⟨ccl, cdd, .fields vs, ccs⟩ : Obj) ∧ vs[2]? = some (.str file tf) ∧ ((P.main.file : Str) == file) = true
  cl : F.cl = [(("__class__" : Str), cc)]
  cell : ∃ cl cld csl, K.lookup cc = some (⟨cl, cld, .cell (some (.ref C)), csl⟩ : Obj)
  self : PySem.W.mroIn K C (.ref C) = some true
  sup : PySem.W.ks_superIn K C C "__init__" = some (some (.builtin "ValueError.__init__"))
  subV : PySem.W.subIn K (.ref C) (.type "ValueError") = some true
  stat : PySem.W.nsIn K PySem.cStatics "thirdparty.any" = some none
  top : (P.main.scope.names.lookup ("super" : Str)).isSome = false
section
variable {X : Cx} {pins : List (Addr × Obj)} {σ : L2.St} {H : Hp} {s : Shared} {a C f cc : Addr} {F : NdefX.NF} {body : List Stmt} {p0 p1 p2 pos : Pos} {E : Value → Shared → Prop} {x0 : Str}
/-- super(), asked for a method -/
theorem super_base {Q : Value → Shared → Prop} {ar : Arg} {attr : Str} {whole : Sem Value} (Z : ExcK X.prog X.K C f cc F) (I : Inv X pins σ H s) (ea : H a = some (exo a C none)) (hsu : X.mg "super" = none)
    (hks : X.env.kindOf "super" = some .globalImplicit) (hkc : X.env.kindOf "__class__" = some .free) (hat : (attr == ("__class__" : Str)) = false) (hfu : X.env.func = some f) (hco : X.env.code = .ref F.c) (hcl : X.env.cells.lookup ("__class__" : Str) = some cc)
    (hp : (F.params.posonlyargs ++ F.params.args).head? = some ar) (hN : X.N[0]? = some ar.arg) (hka : X.env.kindOf ar.arg = some .local) (hσ : σ[0]? = some (some (.ref a)))
    (h : ∀ so s', Inv X ((so, PySem.W.ks_superObj C a C) :: pins) σ H s' → Q (.ref so) s') :
    _root_.PySem.wpAt (model X.prog X.w) X.A (.func body X.env) (attributeBase (.Call (.Name "super" p0) [] [] p1) attr X.env whole) Q E s := by
  obtain ⟨od, sl, doc, pm, ctv, hf⟩ := Z.fn
  obtain ⟨ccl, cdd, vs, ccs, file, tf, hcode, hvs, hfile⟩ := Z.file
  obtain ⟨cl, cld, csl, hcell⟩ := Z.cell
  obtain ⟨t1, ho⟩ := exo_at I.hok ea
  have KX := I.kIn
  refine ks_wpAt_super_base hks hkc hat hfu (KX _ _ hf) rfl hp hco (KX _ _ hcode) rfl hvs hfile Z.top ?_
  obtain ⟨mb, h1, h2⟩ := I.mod.blt
  refine PySem.W.ks_loadName_global I.ok.kind hks (Calls.loadGlobal_builtin (by rw [I.ok.glob]; exact I.mod.glob.keeps I.bk) hsu (by rw [I.ok.blt]; exact h1.keeps I.bk) ((h2 _ (by decide)).trans PyProof.Rows.Boot.«super») ⟨rfl, ?_⟩)
  refine wpAny_loadName_free I.ok.kind hkc hcl ⟨_, KX _ _ hcell, rfl⟩ ?_
  obtain ⟨m, hns, hlk⟩ := I.loc
  obtain ⟨u, ru, lu⟩ := hlk 0 ar.arg _ hN hσ (.inl hka)
  have eu : u = .ref a := ru
  subst eu
  have hm : m ar.arg = some (.ref a) := by
    rcases lu with ⟨_, e⟩ | ⟨k, _⟩
    · exact e
    · rw [hka] at k
      rcases k with k | k <;> cases k
  refine wpAny_loadName_local I.ok.kind hka hns hm ?_
  obtain ⟨nm, q, N, bs, bm, sn, sub, ab, col, dd, k0, k1, k2, k3, k5, hC, hbm⟩ := Z.oex.cls
  have hD := KX _ _ hC
  refine PySem.ks_wpAny_isType_cls hD rfl ⟨rfl, ?_⟩
  obtain ⟨hh, g, d, t, os⟩ := s
  refine PySem.ks_wpAny_call_super hD rfl ho rfl (fun c e => nomatch e) (PySem.W.looks_mroIn KX Z.self) (fun h' e k => ?_)
  exact h _ _ (ClX.pin_new I k (Nat.le_refl _) e fun v z => nomatch z)

/-- the built-in's __init__, bound to the exception, called -/
theorem super_call {Q : Value → Shared → Prop} {u : Addr} {us : List Value} (T : OexC X.K C) (I : Inv X pins σ H s) (ea : H a = some (exo a C none)) (hu : s.heap.get? u = some (PySem.W.kxs_mw "ValueError.__init__" a)) (hz : us.length ≤ sizeLine)
    (h : ∀ s', Inv X pins σ H s' → Q .none s') : wpAny (model X.prog X.w) X.A (call (.ref u) us) Q E s := by
  obtain ⟨nm, q, N, bs, bm, sn, sub, ab, col, dd, k0, k1, k2, k3, k5, hC, hbm⟩ := T.cls
  have hC := I.kIn _ _ hC
  obtain ⟨t1, ho⟩ := exo_at I.hok ea
  obtain ⟨hh, g, d, tk, os⟩ := s
  refine wpAny_call (codeAny_of_tree ?_)
  show wpAny _ X.A.in1 (callAny (.ref u) ⟨us, []⟩) _ _ _
  simp only [callAny]
  refine wpAny_bind (wpAny_load hu ?_)
  simp only [PySem.W.kxs_mw, show (Value.type "method-wrapper" == Value.type "method" || Value.type "method-wrapper" == Value.type "builtin_function_or_method" || Value.type "method-wrapper" == Value.type "method-wrapper") = true by decide, if_true]
  refine PySem.W.KFB.if_so (by decide) ?_
  refine wpAny_bind (PySem.W.check_bound_init F.excBase_ValueError.toExcCallFacts hC ho rfl ?_)
  refine wpAny_bind (wpAny_pure (wpAny_pure ?_))
  refine ⟨plainId_quiet F.excBase_ValueError.init.plain _, codeAny_builtin F.excBase_ValueError.initEntry ?_⟩
  refine PySem.W.exc_init_tree (cls := .ref C) (t0 := t1) (dv := none) (c2 := .none) (c3 := .none) (b4 := .bool false) ho hz fun h' k e' t' => ?_
  have J := I.write (t' := tk) (x := a) (e := a) (o := exo a C none) (by rw [ea]; exact True.intro) (.inl rfl) k ⟨_, e'⟩ (exo_ok e')
  have eu : upd H a (exo a C none) = H := by
    funext b
    by_cases hb : b = a
    · rw [hb, upd_same, ea]
    · rw [upd_ne hb]
  rw [eu] at J
  exact h _ J

/-- super().__init__ asked for -/
theorem super_method {Q : Value × List Value → Shared → Prop} {so : Addr} {pl : Sem Bool} (Z : ExcK X.prog X.K C f cc F) (I : Inv X ((so, PySem.W.ks_superObj C a C) :: pins) σ H s) (ea : H a = some (exo a C none))
    (h : ∀ u s', Inv X ((u, PySem.W.kxs_mw "ValueError.__init__" a) :: (so, PySem.W.ks_superObj C a C) :: pins) σ H s' → Q (.ref u, []) s') :
    wpAny (model X.prog X.w) X.A (getMethod (.ref so) "__init__" pl) Q E s := by
  obtain ⟨nm, q, N, bs, bm, sn, sub, ab, col, dd, k0, k1, k2, k3, k5, hC, hbm⟩ := Z.oex.cls
  obtain ⟨t1, ho⟩ := exo_at I.hok ea
  have KX := I.kIn
  have hcd : ∃ cd, PySem.W.clsIn X.K C = some cd := by
    unfold PySem.W.clsIn
    rw [hC]
    exact ⟨_, rfl⟩
  obtain ⟨cd, hcd⟩ := hcd
  have J : PySem.W.InstAt s.heap a ({ cls := .ref C, dict := none, data := .fields #[.ref t1, .none, .none, .none, .bool false, .none] } : Obj) C none := ⟨ho, rfl, rfl, trivial⟩
  have hI : PySem.W.Looks (model X.prog X.w) s.heap (isInstance (.ref a) (.type "ValueError")) true := J.type.andThen (PySem.W.looks_subIn KX Z.subV)
  have hso := ClX.pin_at I
  have hm := Z.sup
  unfold PySem.W.ks_superIn at hm
  rw [hcd] at hm
  obtain ⟨hh, g, d, t, os⟩ := s
  refine PySem.W.kxs_getMethod PySem.W.kxs_ValueError hso (PySem.W.looks_opaque KX Z.stat) (l₀ := cd.mro) ?_ rfl KX hm hI (PySem.W.ks_ne KX J hcd) rfl ?_
  · exact fun A Q E s k q => wpAny_bind ((PySem.W.looks_clsIn KX hcd) A _ E s k (wpAny_pure q))
  · exact h _ _ (ClX.pin_new I (fun _ _ z => Heap.get?_push_of_some _ z) (Nat.le_refl _) (Heap.get?_push_size hh rfl) fun v z => nomatch z)
/-- super().__init__(e, ..) -/
theorem super_stmt {Q : Flow → Shared → Prop} {ar : Arg} {es : List Expr} {ta : TA} {p4 : Pos} {pl : Sem Bool} (Z : ExcK X.prog X.K C f cc F) (I : Inv X pins σ H s) (ea : H a = some (exo a C none)) (hsu : X.mg "super" = none)
    (hks : X.env.kindOf "super" = some .globalImplicit) (hkc : X.env.kindOf "__class__" = some .free) (hfu : X.env.func = some f) (hco : X.env.code = .ref F.c) (hcl : X.env.cells.lookup ("__class__" : Str) = some cc)
    (hp : (F.params.posonlyargs ++ F.params.args).head? = some ar) (hN : X.N[0]? = some ar.arg) (hka : X.env.kindOf ar.arg = some .local) (hσ : σ[0]? = some (some (.ref a)))
    (ha : PA X es ta) (hq : ta σ H fun vs H1 => vs.length ≤ 1000 ∧ H1 = H) (h : ∀ s', Inv X pins σ H s' → Q .next s')
    (hi : interactive X.env = false) (hs : swapsWith (.Call (.Attribute (.Call (.Name "super" p0) [] [] p1) "__init__" p2) es [] pos) none p4.line X.env = pure false)
    (he : eval (.Call (.Attribute (.Call (.Name "super" p0) [] [] p1) "__init__" p2) es [] pos) X.env = (do
      let ov ← attributeBase (.Call (.Name "super" p0) [] [] p1) "__init__" X.env (eval (.Call (.Name "super" p0) [] [] p1) X.env)
      standAt p2.atName
      let (fn, first) ← holding [ov] (getMethod ov "__init__" pl)
      callWith pos fn first (backTo pos (starEach es X.env)) []))
    (hes : (es = [] ∧ ta = tNil) ∨ ∃ e r, es = e :: r ∧ starEach (e :: r) X.env = (false, eval e X.env) :: starEach r X.env ∧ (backTo pos (starEach r X.env)).any (·.1) = false) :
    _root_.PySem.wpAt (model X.prog X.w) X.A (.func body X.env) (exec (.Expr (.Call (.Attribute (.Call (.Name "super" p0) [] [] p1) "__init__" p2) es [] pos) p4) X.env) Q X.xe s := by
  refine ks_wpAt_Expr_any (ks_wpAt_MethodCall (super_base Z I ea hsu hks hkc rfl hfu hco hcl hp hN hka hσ fun so s1 I1 => ?_) he) hi hs
  refine super_method Z I1 ea fun u s2 I2 => ?_
  have fin : ∀ {vs : List V} {H1 : Hp} {us : List Value} {s3 : Shared}, Inv X ((u, PySem.W.kxs_mw "ValueError.__init__" a) :: (so, PySem.W.ks_superObj C a C) :: pins) σ H1 s3 → Vals vs us → vs.length ≤ 1000 ∧ H1 = H →
      wpAny (model X.prog X.w) X.A (call (.ref u) us) (fun _ => Q .next) X.xe s3 := fun {vs H1 us s3} I3 r q => by
    obtain ⟨q1, q2⟩ := q
    subst q2
    refine super_call Z.oex I3 ea (ClX.pin_at I3) (by rw [← Paired.length r, sizeLine_eq]; omega) fun s4 J => h _ (ClX.unpin (ClX.unpin J))
  rcases hes with ⟨rfl, rfl⟩ | ⟨e, r, rfl, e1, e2⟩
  · exact PySem.W.kxs_callWith (i := "ValueError.__init__") (x := a) rfl (evalArgs_empty ⟨ClX.pin_at I2, fin I2 .nil hq⟩)
  · have run := thn (ha.run pos _ s2 σ H _ I2 hq) fun us s3 ⟨vs, H1, I3, r, q⟩ => (⟨ClX.pin_at I3, fin I3 r q⟩ : PySem.W.KxsAt "ValueError.__init__" u a s3.heap ∧ wpAny (model X.prog X.w) X.A (call (.ref u) us) (fun _ => Q .next) X.xe s3)
    rw [e1] at run ⊢
    refine PySem.W.kxs_callWith (i := "ValueError.__init__") (x := a) (by show (false || (backTo pos (starEach r X.env)).any (·.1)) = false; rw [e2]; rfl) ?_
    exact Calls.evalArgs_plain run
end

section
variable {P : Program} {w : World} {K : Fg0} {mg : Str → Option Value} {base : Heap} {C f cc : Addr} {F : NdefX.NF} {N ps : List Str} {k : Nat} {sp : Sp} {p0 p1 p2 pos p4 : Pos} {es : List Expr} {rest : List Stmt} {ar : Arg} {pl : Sem Bool}
open NdefX in
/-- a def __init__ whose first word is super().__init__(..) -/
theorem init_ok {od : Option Addr} {sl : Array (Option Value)} {doc pm ctv : Value} (Z : ExcK P K C f cc F) (S : NScope N ps ["__class__"] F.scope) (hsu : mg "super" = none) (lk : K.lookup f = some (⟨.type "function", od, .func (F.fd doc pm ctv), sl⟩ : Obj))
    (hB : F.body = .Expr (.Call (.Attribute (.Call (.Name "super" p0) [] [] p1) "__init__" p2) es [] pos) p4 :: rest)
    (hks : F.scope.names.lookup ("super" : Str) = some .globalImplicit) (hkc : F.scope.names.lookup ("__class__" : Str) = some .free) (hp : (F.params.posonlyargs ++ F.params.args).head? = some ar) (hN : N[0]? = some ar.arg) (hka : F.scope.names.lookup ar.arg = some .local)
    (hi : ∀ L, interactive (envF F f L) = false) (hs : ∀ L, swapsWith (.Call (.Attribute (.Call (.Name "super" p0) [] [] p1) "__init__" p2) es [] pos) none p4.line (envF F f L) = pure false)
    (he : ∀ L, eval (.Call (.Attribute (.Call (.Name "super" p0) [] [] p1) "__init__" p2) es [] pos) (envF F f L) = (do
      let ov ← attributeBase (.Call (.Name "super" p0) [] [] p1) "__init__" (envF F f L) (eval (.Call (.Name "super" p0) [] [] p1) (envF F f L))
      standAt p2.atName
      let (fn, first) ← holding [ov] (getMethod ov "__init__" pl)
      callWith pos fn first (backTo pos (starEach es (envF F f L))) []))
    (hes : es = [] ∨ ∃ e r, es = e :: r ∧ ∀ L, starEach (e :: r) (envF F f L) = (false, eval e (envF F f L)) :: starEach r (envF F f L) ∧ (backTo pos (starEach r (envF F f L))).any (·.1) = false)
    (len : ∀ vs H Q E, sp vs H Q E → vs.length = ps.length)
    (hbody : ∀ (A : Around) (outer : List Env) (s : Shared) (H : Hp) (vs : List V) (Q : VK) (E : XK), sp vs H Q E →
      ∃ (a : Addr) (ta : TA) (t : TS), vs[0]? = some (.ref a) ∧ H a = some (exo a C none) ∧ PA (ncx CX0 P w K mg base N F f A outer s H E) es ta ∧ (es = [] → ta = tNil) ∧ ta (startF N vs [none]) H (fun vs H1 => vs.length ≤ 1000 ∧ H1 = H) ∧
        PSs (ncx CX0 P w K mg base N F f A outer s H E) rest t ∧ t { nx := fun _ H' => Q .non H', rt := Q } (startF N vs [none]) H) :
    FnOk P w K mg base CX0 (k + 1) f (F.fd doc pm ctv) ps sp := by
  refine ⟨len, fun A outer s H args us vs Q E hr e0 hb r hsp => ?_⟩
  have hl := len _ _ _ _ hsp
  have KX : K.In s.heap := e0.mod.kin.keeps fun b o e => (e0.bs b o e).1
  have lim : s.heap.NoLimit := e0.mod.nolimit.keeps fun b o e => (e0.bs b o e).1
  obtain ⟨a, ta, t, ev, ea, pa, hnil, hta, ht, hq⟩ := hbody A outer s H vs Q E hsp
  obtain ⟨cl, cld, csl, hcell⟩ := Z.cell
  have C1 : CellsAt F.cl ["__class__"] [none] s.heap H := by
    have hc := e0.bs _ _ (e0.mod.kin _ _ hcell)
    rw [Z.cl]
    have one : ∀ (y : Str) (c : Addr), ([(("__class__" : Str), cc)] : List (Str × Addr)).lookup y = some c → y = "__class__" ∧ c = cc := fun y c h => by
      rw [List.lookup_cons] at h
      split at h
      · rename_i h1
        cases h
        exact ⟨by simpa using h1, rfl⟩
      · cases h
    refine ⟨rfl, fun y c h => ?_, fun x y c h1 h2 => ?_, fun i y h => ?_⟩
    · obtain ⟨_, rfl⟩ := one y c h
      exact ⟨hc.2, _, _, hc.1, rfl⟩
    · exact (one x c h1).1.trans (one y c h2).1.symm
    · refine ⟨cc, ?_, fun v h => ?_⟩
      · cases i with
        | zero => cases h; rfl
        | succ i => cases h
      · cases i with
        | zero => cases h
        | succ i => cases h
  refine codeAny_call_function hr.depth (KX _ _ lk) rfl S.co S.gen rfl (PySem.W.codeRec_of KX Z.code) (hb _ _ _ _ ?_)
  refine wpAny_newFunctionEnv S.nocell (fun ⟨n, _⟩ hy => S.par n (List.of_mem_zip hy).1) (fun h₁ hns hsb => ⟨lim.fresh _ hsb, ?_⟩) S.kind
  show codeAny _ _ (.func F.body (envF F f s.heap.objs.size)) _ _
  have kp : ∀ b o, s.heap.get? b = some o → h₁.get? b = some o := fun b o e => hsb.extBut b o (Nat.ne_of_lt (Heap.lt_size e)) (Heap.get?_push_of_some _ e)
  have I : Inv (ncx CX0 P w K mg base N F f A outer s H E) [] (startF N vs [none]) H { s with heap := h₁, toks := s.toks + (ps.zip us).length } := inv_startN S hr.hd e0 hl r C1 hns kp
  refine ks_codeAny_funcAt ?_
  rw [hB]
  refine ks_wpAt_execs_cons ?_
  have hσ : (startF N vs [none])[0]? = some (some (.ref a)) := by
    unfold startF
    rw [List.getElem?_append_left (by rw [List.length_map]; exact (List.getElem?_eq_some_iff.mp ev).1), List.getElem?_map, ev]
    rfl
  have hcl : (ncx CX0 P w K mg base N F f A outer s H E).env.cells.lookup ("__class__" : Str) = some cc := by
    show F.cl.lookup ("__class__" : Str) = some cc
    rw [Z.cl]
    rfl
  refine super_stmt (X := ncx CX0 P w K mg base N F f A outer s H E) (F := F) (C := C) (ar := ar) Z I ea hsu hks hkc rfl rfl hcl hp hN hka hσ pa hta (fun s' J => ?_) (hi _) (hs _) (he _) ?_
  · refine PySem.wpAt_of_wpAny ?_
    refine wpAny_mono (ht.run [] s' (startF N vs [none]) H _ J hq) (fun fl s' hs => ?_) fun e s' hs => hs
    have fin : ∀ {σ' : L2.St} {H' : Hp} {v : V} {u : Value}, Inv (ncx CX0 P w K mg base N F f A outer s H E) [] σ' H' s' → L2.RelV v u → Q v H' → CE outer P w H s Q u s' :=
      fun {σ' H' v u} J rv q => ⟨v, H', J.os, J.bare, J.base, J.hok, rv, q⟩
    cases fl with
    | ret u =>
      obtain ⟨v, σ', H', J, rv, q⟩ := hs
      exact fin J rv q
    | next =>
      obtain ⟨σ', H', J, q⟩ := hs
      exact fin (v := V.non) (u := Value.none) J rfl q
    | brk =>
      obtain ⟨_, _, _, q⟩ := hs
      exact False.elim q
    | cont =>
      obtain ⟨_, _, _, q⟩ := hs
      exact False.elim q
  · rcases hes with e | ⟨e, r, e1, e2⟩
    · exact .inl ⟨e, hnil e⟩
    · exact .inr ⟨e, r, e1, (e2 _).1, (e2 _).2⟩
end
end Pl

/-! Exceptions of the program, by plain data. -/
namespace Pl
open PySem PySem.Spec PyProof.Rows L2

/-- an exception: its class by name, its fields -/
structure Xd where
  name : Str
  fs : List (Str × D)
/-- the exception x, as it lies: of the class cls, its fields in d -/
def XIs (K : Fg0) (mg : Str → Option Value) (M : Ml) (m : Addr → Prop) (H : Hp) (x : Xd) (cls : Value) (d : Option Addr) : Prop :=
  mg x.name = some cls ∧ XFs K M (hid m H) d x.fs
/-- what is wished of exceptions over the heap, by what is wished of plain ones -/
def LinkX (K : Fg) (mg : Str → Option Value) (W : WX) (xw : En → Xd → Prop) : Prop := ∀ (M : Ml) (H0 : Hp) (z m : Addr → Prop) (H : Hp) (σ : L2.St) (ρ : En), EnOk K M H0 z m H σ ρ → ∀ x, xw ρ x → ∀ cls d, XIs K mg M m H x cls d → W cls d σ H
section
variable {X : Cx} {pins : List (Addr × Obj)} {σ : L2.St} {H : Hp} {s : Shared}
/-- the end of C(), no field kept -/
theorem mk_endN {H1 H2 : Hp} {Q : XK} {hp hp2 h2 : Heap} {g1 g2 : Array GenState} {d1 d2 : Drawn} {t1 t2 : Nat} {os1 os2 : OsState} {a C : Addr} (T : Raises X (.ref C)) (I1 : Inv X pins σ H1 ⟨hp, g1, d1, t1, os1⟩)
    (ha : hp.objs.size ≤ a) (k : ∀ b o, hp.get? b = some o → hp2.get? b = some o) (un : Un (frs X.stack) [] (upd H1 a (exo a C none)) H2 hp2 h2) (hok : HOk X.prog X.w H2 h2) (ho : os2 = os1) (hb : AllBare g2)
    (ea : H2 a = some (exo a C none)) (q : Q (.ref C) none (del H2 a)) : MkP X pins σ Q (.ref a) ⟨h2, g2, d2, t2, os2⟩ := by
  obtain ⟨t0, hoe⟩ := exo_at hok ea
  have hn : H1 a = none := I1.hok.fresh ha
  obtain ⟨G, g1', g2'⟩ := restrict h2 fun b => decide (b ≠ a)
  have gk : ∀ b, b ≠ a → G.get? b = h2.get? b := fun b hb => g1' b (decide_eq_true hb)
  have ge : G.get? a = none := g2' a (by simp)
  have nha : ∀ {b : Addr} {o : Obj}, hp.get? b = some o → b ≠ a := fun {b o} z => Nat.ne_of_lt (Nat.lt_of_lt_of_le (Heap.lt_size z) ha)
  have up : ∀ {b : Addr}, b ≠ a → H1 b = none → upd H1 a (exo a C none) b = none := fun {b} hb n => by rw [upd_ne hb]; exact n
  have U : Un (frs X.stack) [] H1 (del H2 a) hp G := {
    keep := fun b o z n hf hx => by
      rw [gk b (nha z)]
      exact un.keep b o (k b o z) (up (nha z) n) hf hx
    slot := fun b o z n hf hx => by
      rw [gk b (nha z)]
      exact un.slot b o (k b o z) (up (nha z) n) hf hx
    free := fun b o z n hx => by
      rw [del_ne (nha z)]
      exact un.free b o (k b o z) (up (nha z) n) hx
    there := fun b o z hx => by
      rw [gk b (nha z)]
      exact un.there b o (k b o z) hx
    tups := fun b xs z => by
      rw [del_ne (ne_of_none z hn)]
      exact un.tups b xs (by rw [upd_ne (ne_of_none z hn)]; exact z)
    frzs := fun b o v z => by
      rw [del_ne (ne_of_none z hn)]
      exact un.frzs b o v (by rw [upd_ne (ne_of_none z hn)]; exact z)
    tbls := fun b ps z => by
      rw [del_ne (ne_of_none z hn)]
      exact un.tbls b ps (by rw [upd_ne (ne_of_none z hn)]; exact z) }
  have hok3 : HOk X.prog X.w (del H2 a) G := fun b o z => by
    have hba : b ≠ a := fun e => by
      rw [e, del_same] at z
      cases z
    rw [del_ne hba] at z
    have noa : ∀ {c : Addr}, H2 c = some (.own b) → c ≠ a := fun {c} hc => at_ne ea hc exo_own
    exact (hok b o z).stay (fun c v hc y => by
        have hca : c ≠ a := by
          rcases hc with hc | hc
          · rw [hc]
            exact hba
          · exact noa hc
        rw [gk c hca]
        exact y)
      (fun c hc => by rw [del_ne (noa hc)]; exact hc) (fun c xs hc => by rw [del_ne (at_ne ea hc exo_tup)]; exact hc)
  have J : Inv X pins σ (del H2 a) ⟨G, g2, d2, t2, os2⟩ := I1.call' (ch := []) ho U hok3 hb (fun b z => absurd z (by simp))
  refine ⟨a, _, _, ⟨G, g2, d2, t2, os2⟩, _, .ref C, none, rfl, J, fun b o z => ?_, ge, hoe, ⟨rfl, rfl⟩, rfl, rfl, del_same, rfl, hb, T, q⟩
  by_cases hba : b = a
  · rw [hba, ge] at z
    cases z
  · exact (gk b hba).symm.trans z
end

/-- C(), C's own __init__ keeping nothing -/
def tMkN (C : Addr) (sp : Sp) : L2.St → Hp → XK → Prop := fun σ H Q => ∀ a, H a = none → sp [.ref a] (upd H a (exo a C none)) (fun v H2 => v = .non ∧ H2 a = some (exo a C none) ∧ Q (.ref C) none (del H2 a)) (fun _ _ _ => False)
section
variable {X : Cx} {x : Str} {C fI : Addr} {k : Nat} {fd : FuncData} {ps : List Str} {sp : Sp} {p pos : Pos}
theorem pmk_oexN {CX : CXT} (T : OexC X.K C) (iC : PySem.W.findIn X.K (.ref C) "__init__" = some (some (.ref fI))) (tI : PySem.W.typeIn X.K (.ref fI) = some (.type "function"))
    (F1 : FnOk X.prog X.w X.K X.mg X.base CX k fI fd ps sp) (hr : Room (k + 1) X.A) (hb : Binds X.K fd ps []) (hx : Passes CX X (fun _ _ _ => False)) (hg : Gl X x) (hm : X.mg x = some (.ref C))
    (hdb : (x == ("__debug__" : Str)) = false := by decide) :
    PMk X (.Call (.Name x p) [] [] pos) (tMkN C sp) := by
  intro pins s σ H Q I h
  obtain ⟨nm, q, N, bs, bm, sn, sub, ab, col, dd, k0, k1, k2, k3, k5, hC, hbm⟩ := T.cls
  refine wpAny_Call_Name_kw (ld_glob I hg hm ?_ hdb)
  refine PySem.W.callWith_K0 I.kIn T.kC ?_
  show wpAny _ _ (call (.ref C) []) _ _ _
  obtain ⟨hp, g, dr, tk, os⟩ := s
  have hsz : hp.objs.size ≤ hp.objs.size + 1 := Nat.le_succ _
  have hn : H (hp.objs.size + 1) = none := I.hok.fresh hsz
  have hq := h (hp.objs.size + 1) hn
  have kk : ∀ b o, hp.get? b = some o → ((hp.push (PySem.W.kdv_tup [])).push (PySem.HandSPX.excO C hp.objs.size)).get? b = some o := fun b o e => Heap.get?_push_of_some _ (Heap.get?_push_of_some _ e)
  have hget : ((hp.push (PySem.W.kdv_tup [])).push (PySem.HandSPX.excO C hp.objs.size)).get? (hp.objs.size + 1) = some (PySem.HandSPX.excO C hp.objs.size) := by heap_get
  have I2 : Inv X pins σ (upd H (hp.objs.size + 1) (exo (hp.objs.size + 1) C none)) ⟨(hp.push (PySem.W.kdv_tup [])).push (PySem.HandSPX.excO C hp.objs.size), g, dr, tk, os⟩ :=
    I.laid (t' := tk) (a := hp.objs.size + 1) (o := exo (hp.objs.size + 1) C none) (h' := (hp.push (PySem.W.kdv_tup [])).push (PySem.HandSPX.excO C hp.objs.size)) kk hsz (exo_ok hget)
  have r2 : Vals [V.ref (hp.objs.size + 1)] [Value.ref (hp.objs.size + 1)] := .cons rfl .nil
  have hl : [Value.ref (hp.objs.size + 1)].length = ps.length := by
    have e := r2.length
    rw [F1.len _ _ _ _ hq] at e
    exact e.symm
  have hbb := hb _ [Value.ref (hp.objs.size + 1)] I2.kIn (by rw [List.append_nil]; exact hl)
  rw [List.append_nil] at hbb
  refine wpAny_call (PySem.HandSPX.call_own F.excBase_ValueError (fun Y => PySem.HandSPX.refsVE_contains Y bm hbm) (I.kIn _ _ hC) (PySem.W.looks_findIn I.kIn iC) (fun self => PySem.W.bind_fn I.kIn self tI) (Nat.zero_le _)
    (codeAny_mono (F1.run _ X.stack _ _ ⟨[Value.ref (hp.objs.size + 1)], []⟩ [Value.ref (hp.objs.size + 1)] _ _ (fun _ _ _ => False) (hr.make C [] []) (I2.env0.make C [] []) hbb r2 hq) fun r s' hq' => ?_))
  cases r with
  | error er => exact hx pins σ _ _ er s' I2 hq'
  | ok fl =>
    cases fl with
    | ret u =>
      obtain ⟨v, H2, os2, bare2, un2, hok2, rv, ev, ea, q2⟩ := hq'
      subst ev
      obtain ⟨h2, g2, d2, t2, os'⟩ := s'
      exact ⟨rv, mk_endN (raises_own T.exC T.tyC) I hsz kk un2 hok2 os2 bare2 ea q2⟩
    | next => exact False.elim hq'
    | brk => exact False.elim hq'
    | cont => exact False.elim hq'
end
/-- the promises of such an __init__ -/
def spI0 (C : Addr) : Sp := fun vs H Q _ => ∃ a, vs = [.ref a] ∧ H a = some (exo a C none) ∧ Q .non H
def spI1 (C : Addr) (fl : Str) : Sp := fun vs H Q _ => ∃ a v, vs = [.ref a, v] ∧ H a = some (exo a C none) ∧ ∀ dx, H dx = none → dx ≠ a → Q .non (upd (upd H dx (exd dx [(fl, v)])) a (exo a C (some dx)))

/-- raise C(e), raise C() -/
def sRaise1 (xw : En → Xd → Prop) (x fl : Str) (fa : FA) : FS := fun _ ρ => fa ρ fun ds => match ds with
  | [y] => xw ρ ⟨x, [(fl, y)]⟩
  | _ => False
def sRaise0 (xw : En → Xd → Prop) (x : Str) : FS := fun _ ρ => xw ρ ⟨x, []⟩
/-- what the module says of an exception class, told by name -/
structure XCls (P : Program) (w : World) (K : Fg0) (mg : Str → Option Value) (base : Heap) (x : Str) (C fI : Addr) (fd : FuncData) (ps : List Str) (sp : Sp) : Prop where
  oex : OexC K C
  iC : PySem.W.findIn K (.ref C) "__init__" = some (some (.ref fI))
  tI : PySem.W.typeIn K (.ref fI) = some (.type "function")
  ok : FnOk P w K mg base CX0 1 fI fd ps sp
  hb : Binds K fd ps []
  hm : mg x = some (.ref C)
section
variable {K : Fg} {X : Cx} {W : WX} {xw : En → Xd → Prop} {x fl : Str} {C fI : Addr} {fd : FuncData} {ps : List Str} {p pos pos' : Pos} {e : Expr} {ta : TA} {fa : FA} {k : Nat}
theorem d_raise1 (Z : XCls X.prog X.w X.K X.mg X.base x C fI fd ps (spI1 C fl)) (hL : LinkX K X.mg W xw) (tk : Takes X W) (hc : X.calm = true) (hr : Room 2 X.A) (ha : DA K X [e] ta fa) (hK : X.K = K := by rfl) (hg : Gl X x := by rfl)
    (hdb : (x == ("__debug__" : Str)) = false := by decide) (he : starEach [e] X.env = (false, eval e X.env) :: starEach [] X.env := by rfl) (hpl : (backTo pos (starEach [] X.env)).any (·.1) = false := by rfl) :
    DS K X (.Raise (some (.Call (.Name x p) [e] [] pos)) none pos') (fun _ σ H => tMkO C (spI1 C fl) [] ta σ H fun cls d H' => W cls d σ H') (sRaise1 xw x fl fa) := by
  refine ⟨ps_raise hc tk (pmk_oex (CX := CX0) (ds := []) Z.oex Z.iC Z.tI Z.ok hr Z.hb .nil pass0 hg Z.hm ha.pa hdb he hpl), fun M H0 z m H σ ρ W' E I c q => ?_⟩
  refine ha.rd M H0 z m H σ ρ _ I (ha.mo ρ _ _ (fun ds q vs H1 s1 i1 => ?_) q)
  match ds, i1, q with
  | [y], .cons (v := v) iv .nil, q =>
    refine ⟨(by simp), fun a na => ⟨a, v, rfl, upd_same, fun dx nd nda => ⟨rfl, dx, [(fl, v)], upd_same, ?_, ?_, ?_⟩⟩⟩
    · rw [upd_ne nda, upd_same]
    · rw [upd_ne nda] at nd; exact nd
    · have nd1 : H1 dx = none := by rw [upd_ne nda] at nd; exact nd
      have e : upd (del (upd (upd (upd H1 a (exo a C none)) dx (exd dx [(fl, v)])) a (exo a C (some dx))) a) dx (.xd [(fl, v)]) = upd H1 dx (.xd [(fl, v)]) := by
        funext b
        by_cases hb : b = dx
        · rw [hb, upd_same, upd_same]
        · rw [upd_ne hb, upd_ne hb]
          by_cases ha : b = a
          · rw [ha, del_same, na]
          · rw [del_ne ha, upd_ne ha, upd_ne hb, upd_ne ha]
      rw [e]
      have I1 := I.step s1
      have I2 := I1.step (Stp.new (o := .xd [(fl, v)]) I1.ok nd1)
      refine hL M H0 z m _ σ ρ I2 _ q _ _ ⟨Z.hm, .inr ⟨dx, fl, v, y, rfl, rfl, by rw [hid_in (fun z => I1.tr _ z nd1)]; exact upd_same, ?_⟩⟩
      exact I1.is (Stp.new (o := .xd [(fl, v)]) I1.ok nd1) iv
theorem d_raise0 (Z : XCls X.prog X.w X.K X.mg X.base x C fI fd ps (spI0 C)) (hL : LinkX K X.mg W xw) (tk : Takes X W) (hc : X.calm = true) (hr : Room 2 X.A) (hK : X.K = K := by rfl) (hg : Gl X x := by rfl)
    (hdb : (x == ("__debug__" : Str)) = false := by decide) :
    DS K X (.Raise (some (.Call (.Name x p) [] [] pos)) none pos') (fun _ σ H => tMkN C (spI0 C) σ H fun cls d H' => W cls d σ H') (sRaise0 xw x) := by
  refine ⟨ps_raise hc tk (pmk_oexN (CX := CX0) Z.oex Z.iC Z.tI Z.ok hr Z.hb pass0 hg Z.hm hdb), fun M H0 z m H σ ρ W' E I c q => ?_⟩
  intro a na
  refine ⟨a, rfl, upd_same, rfl, upd_same, ?_⟩
  have e : del (upd H a (exo a C none)) a = H := by
    funext b
    by_cases hb : b = a
    · rw [hb, del_same, na]
    · rw [del_ne hb, upd_ne hb]
  rw [e]
  exact hL M H0 z m H σ ρ I _ q _ _ ⟨Z.hm, .inl ⟨rfl, rfl⟩⟩
end
end Pl

/-! Defs that may raise, and their calls. -/
namespace Pl
open PySem PySem.Spec PyProof.Rows L2

abbrev FLX := List D → (D → Prop) → (Xd → Prop) → Prop
def MoLX (g : FLX) : Prop := ∀ ds (Q Q' : D → Prop) (E E' : Xd → Prop), (∀ d, Q d → Q' d) → (∀ x, E x → E' x) → g ds Q E → g ds Q' E'
def WnX (K : Fg0) (mg : Str → Option Value) (M : Ml) (z : Addr → Prop) (H : Hp) (E : XK) (x : Xd) : Prop := ∀ cls d H', Stp M H H' → XIs K mg M z H' x cls d → E cls d H'
def SpX (K : Fg0) (mg : Str → Option Value) (g : FLX) : Sp := fun vs H Q E => ∃ (M : Ml) (z : Addr → Prop) (ds : List D), Hx M z H ∧ IsA K M (hid z H) vs ds ∧ g ds (Wn K M z H Q) (WnX K mg M z H E)
/-- the def at f does g, and may raise -/
structure FnX (P : Program) (w : World) (K : Fg0) (mg : Str → Option Value) (base : Heap) (k : Nat) (f : Addr) (fd : FuncData) (ps : List Str) (g : FLX) : Prop where
  len : ∀ ds Q E, g ds Q E → ds.length = ps.length
  mo : MoLX g
  run : ∀ (A : Around) (outer : List Env) (s : Shared) (H : Hp) (args : Args) (us : List Value) (vs : List V) (Q : VK) (E : XK), Room k A → A.guards = some [] → Env0 P w K mg base A outer s H → BindsTo s fd args (ps.zip us) → Vals vs us → SpX K mg g vs H Q E →
    codeAny (model P w) A (.call (.ref f) args) (L2.CR (L2.CX P w) outer P w H s Q E) s
section
variable {P : Program} {w : World} {K : Fg0} {mg : Str → Option Value} {base : Heap} {f : Addr} {fd : FuncData} {ps : List Str} {g g' : FLX} {j k : Nat}
theorem FnX.lift (F : FnX P w K mg base j f fd ps g) (h : j ≤ k) : FnX P w K mg base k f fd ps g := ⟨F.len, F.mo, fun A outer s H args us vs Q E hr => F.run A outer s H args us vs Q E (hr.mono h)⟩
/-- where it does not raise -/
theorem FnX.toG (F : FnX P w K mg base k f fd ps g) : FnG P w K mg base k f fd ps (fun ds Q => g ds Q fun _ => False) := by
  refine ⟨fun ds Q q => F.len ds Q _ q, fun ds Q Q' h q => F.mo ds Q Q' _ _ h (fun _ z => z) q, fun A outer s H args us vs Q hr hg e0 hb r ⟨M, z, ds, hx, ia, q⟩ => ?_⟩
  refine codeAny_mono (F.run A outer s H args us vs Q (fun _ _ _ => False) hr hg e0 hb r ⟨M, z, ds, hx, ia, F.mo ds _ _ _ _ (fun _ z => z) (fun x z => z.elim) q⟩) fun r s' hq => ?_
  cases r with
  | error e =>
    obtain ⟨_, _, _, _, _, _, _, _, _, _, _, _, z⟩ := hq
    exact z.elim
  | ok fl => cases fl <;> exact hq
theorem fnX_of {x qual : Str} {st : Stmt} {N : List Str} (F : Fun K x qual st f fd) (S : FnScope N ps (defScope st)) (len : ∀ ds Q E, g ds Q E → ds.length = ps.length) (mo : MoLX g)
    (body : ∀ (cdv : Value) (A : Around) (outer : List Env) (s : Shared) (H : Hp) (E : XK) (sg : Ml → Hp → (Addr → Prop) → Prop) (W : WX) (xe : Xd → Prop), Room k (A.deeper (envOfC qual (defScope st) s.heap.objs.size f cdv)) → A.guards = some [] →
      Takes (cxOf (L2.CX P w) P w K mg base N qual (defScope st) f cdv A outer s H E) W → LinkX ⟨K, sg⟩ mg W (fun _ => xe) →
      ∃ t b, DSs ⟨K, sg⟩ (cxOf (L2.CX P w) P w K mg base N qual (defScope st) f cdv A outer s H E) (defBody st) t b ∧
        ∀ ds Q, g ds Q xe → b { nx := fun _ => Q .non, rt := Q } (ent N.length ds)) : FnX P w K mg base (k + 1) f fd ps g := by
  obtain ⟨oc, od, kV, doc, pm, an, cdv, ct, osl, rfl, lk, hcd⟩ := F.ex
  refine ⟨len, mo, fun A outer s H args us vs Q E hr hG e0 hb r ⟨M, z, ds, hx, ia, q⟩ => ?_⟩
  have hl : vs.length = ps.length := ia.length.trans (len _ _ _ q)
  have KX : K.In s.heap := e0.mod.kin.keeps fun b o e => (e0.bs b o e).1
  have lim : s.heap.NoLimit := e0.mod.nolimit.keeps fun b o e => (e0.bs b o e).1
  refine codeAny_call_function hr.depth (KX _ _ lk) rfl S.co S.gen rfl (PySem.W.codeRec_of KX hcd) (hb _ _ _ _ ?_)
  refine wpAny_newFunctionEnv_cells S.kind (fun ⟨n, v⟩ hy => ?_) fun env he s1 x1 => ?_
  · rcases S.par n (List.of_mem_zip hy).1 with q | q
    · exact .inl q
    · exact .inr ⟨q, PySem.W.cellsFrom_some _ _ _ (.inl q)⟩
  · subst he
    refine ⟨lim.keeps x1.toInCall.keep, codeAny_func ?_⟩
    have tk : Takes (cxOf (L2.CX P w) P w K mg base N qual (defScope st) f cdv A outer s H E) (fun cls d _ H => E cls d H) := takes_of (E := E) rfl rfl rfl rfl
    have hL : LinkX ⟨K, fun M' H' z' => M' = M ∧ H' = H ∧ z' = z⟩ mg (fun cls d _ H => E cls d H) (fun _ => WnX K mg M z H E) := fun M' H0 z' m H' σ ρ I x hx cls d xi => by
      obtain ⟨rfl, rfl, rfl⟩ := I.st
      refine hx cls d H' I.stp ⟨xi.1, ?_⟩
      exact xi.2.mono (hid_less I.zm)
    obtain ⟨t, b, hbd, hq⟩ := body cdv A outer s H E _ _ _ (hr.deeper _) hG tk hL
    have I := inv_start (CX := L2.CX P w) (E := E) S hr.hd e0 hl r x1
    have npl : ps.length ≤ N.length := by have := congrArg List.length S.pre; rw [List.length_take] at this; omega
    have en : EnOk ⟨K, fun M' H' z' => M' = M ∧ H' = H ∧ z' = z⟩ M H z z H (L2.start N vs) (ent N.length ds) := ent_ok ⟨rfl, rfl, rfl⟩ hx ia (by rw [len _ _ _ q]; exact npl)
    have co : Co ⟨K, fun M' H' z' => M' = M ∧ H' = H ∧ z' = z⟩ M H z z H ({ nx := fun _ H' => Q .non H', rt := Q } : Ends) ({ nx := fun _ => Wn K M z H Q .non, rt := Wn K M z H Q } : DEn) :=
      ⟨fun m' σ' H' ρ' I' f q => q .non H' I'.stp .non, fun m' σ' H' ρ' I' f q => q.elim, fun m' σ' H' ρ' I' f q => q.elim, fun v H' d s i q => q v H' s i, fun _ _ _ _ _ _ _ _ q => q.elim⟩
    have q' := hbd.rd M H z z H (L2.start N vs) _ _ _ en co (hq ds _ q)
    have run := hbd.ps.run [] s1 (L2.start N vs) H ({ nx := fun _ H' => Q .non H', rt := Q } : Ends) I q'
    refine wpAny_mono run (fun fl s' hs => ?_) fun e s' hs => hs
    cases fl with
    | ret u =>
      obtain ⟨v, σ', H', J, rv, q⟩ := hs
      exact ⟨v, H', J.os, J.bare, J.base, J.hok, rv, q⟩
    | next =>
      obtain ⟨σ', H', J, q⟩ := hs
      exact ⟨.non, H', J.os, J.bare, J.base, J.hok, rfl, q⟩
    | brk => obtain ⟨_, _, _, q⟩ := hs; exact q.elim
    | cont => obtain ⟨_, _, _, q⟩ := hs; exact q.elim
end

/-! ### calls that may raise -/
def CalX (g : FLX) (ds : List D) (Q : D → Prop) (E : Xd → Prop) (_ : Dep Q := .mk) (_ : Dep E := .mk) : Prop := g ds Q E
def tCallX (sp : Sp) (W : WX) (t : TA) : TE := fun σ H Q => t σ H fun vs H1 => sp vs H1 Q (fun cls d H' => W cls d σ H')
def fCallX (xw : En → Xd → Prop) (g : FLX) (fa : FA) : FE := fun ρ Q => fa ρ fun ds => CalX g ds Q (xw ρ)
theorem mo_fCallX {xw : En → Xd → Prop} {g : FLX} {fa : FA} (hg : MoLX g) (ha : MoA fa) : MoE (fCallX xw g fa) := fun ρ Q Q' h q => ha ρ _ _ (fun xs q => hg xs _ _ _ _ h (fun _ z => z) q) q
section
variable {X : Cx} {K : Fg} {W : WX} {xw : En → Xd → Prop} {k : Nat} {f : Addr} {fd : FuncData} {ps : List Str} {g : FLX} {x : Str} {p pos : Pos} {e : Expr} {es : List Expr} {t : TA} {fa : FA} {sp : Sp}
theorem rd_callX (hL : LinkX K X.mg W xw) (hg : MoLX g) (ha : RdA K t fa) (ma : MoA fa) : RdE K (tCallX (SpX K X.mg g) W t) (fCallX xw g fa) := fun M H0 z m H σ ρ Q I q =>
  ha M H0 z m H σ ρ _ I (ma ρ _ _ (fun ds q' vs H1 s1 i1 => ⟨M, m, ds, I.hx.step s1, i1, hg _ _ _ _ _ (fun d q => q.mono s1) (fun x hx cls d H' s2 xi => hL M H0 z m H' σ ρ ((I.step s1).step s2) x hx cls d xi) q'⟩) q)
theorem run_x {pins : List (Addr × Obj)} {σ : L2.St} {H : Hp} {s : Shared} {Q : VK} {us ws : List Value} {vs : List V} {kw : List (Str × Value)} (F : FnX X.prog X.w X.K X.mg X.base k f fd ps g) (tk : Takes X W) (hr : Room k X.A) (hG : X.A.guards = some []) (hb : BindsTo s fd ⟨ws, kw⟩ (ps.zip us))
    (I : Inv X pins σ H s) (r : Vals vs us) (h : SpX X.K X.mg g vs H Q (fun cls d H' => W cls d σ H')) : wpAny (model X.prog X.w) X.A (call (.ref f) ws kw) (EP X pins σ Q) X.xe s := by
  refine wpAny_call (codeAny_mono (F.run X.A X.stack s H _ us vs Q _ hr hG I.env0 hb r h) fun r s' hq => ?_)
  cases r with
  | error e => exact passAt tk σ pins H s e s' I hq
  | ok fl =>
    cases fl with
    | ret u => exact I.after hq
    | next => exact False.elim hq
    | brk => exact False.elim hq
    | cont => exact False.elim hq
theorem FnX.lenS (F : FnX X.prog X.w X.K X.mg X.base k f fd ps g) {vs : List V} {H : Hp} {Q : VK} {E : XK} (h : SpX X.K X.mg g vs H Q E) : vs.length = ps.length := by
  obtain ⟨M, z, ds, _, ia, q⟩ := h
  exact ia.length.trans (F.len _ _ _ q)
theorem pe_callX (F : FnX X.prog X.w X.K X.mg X.base k f fd ps g) (tk : Takes X W) (hr : Room k X.A) (hG : X.A.guards = some []) (hg : Gl X x) (hm : X.mg x = some (.ref f)) (hk : PySem.W.keepIn X.K (.ref f) = true) (hb : Binds X.K fd ps [])
    (ha : PA X (e :: es) t) (hdb : (x == ("__debug__" : Str)) = false := by decide) (he : starEach (e :: es) X.env = (false, eval e X.env) :: starEach es X.env := by rfl) (hpl : (backTo pos (starEach es X.env)).any (·.1) = false := by rfl) :
    PE X (.Call (.Name x p) (e :: es) [] pos) (tCallX (SpX X.K X.mg g) W t) := by
  refine ⟨fun pins s σ H Q I h => ?_⟩
  refine wpAny_Call_Name_kw (ld_glob I hg hm ?_ hdb)
  refine PySem.W.callWith_K (h₀ := X.base) I.ok.mod.kin hk (thn (ha.run pos pins s σ H _ I h) fun us s1 ⟨vs, H1, I1, r, q⟩ => ⟨I1.kIn, ?_⟩) he hpl
  exact run_x F tk hr hG (us := us) (by have := hb s1 us I1.kIn (by rw [List.append_nil, ← r.length]; exact F.lenS q); rwa [List.append_nil] at this) I1 r q
theorem pe_callX0 (F : FnX X.prog X.w X.K X.mg X.base k f fd ps g) (tk : Takes X W) (hr : Room k X.A) (hG : X.A.guards = some []) (hg : Gl X x) (hm : X.mg x = some (.ref f)) (hk : PySem.W.keepIn X.K (.ref f) = true) (hb : Binds X.K fd ps [])
    (hdb : (x == ("__debug__" : Str)) = false := by decide) : PE X (.Call (.Name x p) [] [] pos) (tCallX (SpX X.K X.mg g) W tNil) := by
  refine ⟨fun pins s σ H Q I h => ?_⟩
  refine wpAny_Call_Name_kw (ld_glob I hg hm ?_ hdb)
  refine PySem.W.callWith_K0 I.kIn hk ?_
  exact run_x F tk hr hG (us := []) (vs := []) (by have := hb s [] I.kIn (by have := F.lenS h; simpa using this); simpa using this) I .nil h
theorem e_callX (F : FnX X.prog X.w X.K X.mg X.base k f fd ps g) (tk : Takes X W) (hL : LinkX K X.mg W xw) (hr : Room k X.A) (hG : X.A.guards = some []) (hm : X.mg x = some (.ref f)) (hk : PySem.W.keepIn X.K (.ref f) = true) (hb : Binds X.K fd ps [])
    (ha : DA K X (e :: es) t fa) (hK : X.K = K := by rfl) (hg : Gl X x := by rfl) (hdb : (x == ("__debug__" : Str)) = false := by decide) (he : starEach (e :: es) X.env = (false, eval e X.env) :: starEach es X.env := by rfl) (hpl : (backTo pos (starEach es X.env)).any (·.1) = false := by rfl) :
    DE K X (.Call (.Name x p) (e :: es) [] pos) (tCallX (SpX K X.mg g) W t) (fCallX xw g fa) := by
  obtain ⟨K, stK⟩ := K
  replace hK : X.K = K := hK
  subst hK
  exact ⟨pe_callX F tk hr hG hg hm hk hb ha.pa hdb he hpl, rd_callX hL F.mo ha.rd ha.mo, mo_fCallX F.mo ha.mo⟩
theorem e_callX0 (F : FnX X.prog X.w X.K X.mg X.base k f fd ps g) (tk : Takes X W) (hL : LinkX K X.mg W xw) (hr : Room k X.A) (hG : X.A.guards = some []) (hm : X.mg x = some (.ref f)) (hk : PySem.W.keepIn X.K (.ref f) = true) (hb : Binds X.K fd ps [])
    (hK : X.K = K := by rfl) (hg : Gl X x := by rfl) (hdb : (x == ("__debug__" : Str)) = false := by decide) : DE K X (.Call (.Name x p) [] [] pos) (tCallX (SpX K X.mg g) W tNil) (fCallX xw g aNil) := by
  obtain ⟨K, stK⟩ := K
  replace hK : X.K = K := hK
  subst hK
  exact ⟨pe_callX0 F tk hr hG hg hm hk hb hdb, rd_callX hL F.mo (a_nil (K := ⟨X.K, stK⟩) (X := X)).rd mo_aNil, mo_fCallX F.mo mo_aNil⟩
/-! by names -/
variable {kws : List Keyword} {tkw : TA} {ks : List Str} {n : Nat} {π : List Nat} {fk : FA}
def tCallXK (sp : Sp) (W : WX) (n : Nat) (m : Nat) (π : List Nat) (t tk : TA) : TE := fun σ H Q => t σ H fun vs H1 => tk σ H1 fun zs H2 => vs.length = n ∧ zs.length = m ∧ sp (sel π (vs ++ zs)) H2 Q (fun cls d H' => W cls d σ H')
theorem pe_callXK (F : FnX X.prog X.w X.K X.mg X.base k f fd ps g) (tk : Takes X W) (hr : Room k X.A) (hG : X.A.guards = some []) (hg : Gl X x) (hm : X.mg x = some (.ref f)) (hk : PySem.W.keepIn X.K (.ref f) = true) (hb : KBd X.K fd ps ks n π)
    (ha : PA X (e :: es) t) (hkw : PK X kws tkw) (hall : (backToKw pos (keywordEach kws X.env)).all (·.1.isSome) = true := by rfl) (hks : (backToKw pos (keywordEach kws X.env)).filterMap (·.1) = ks := by rfl)
    (hdb : (x == ("__debug__" : Str)) = false := by decide) (he : starEach (e :: es) X.env = (false, eval e X.env) :: starEach es X.env := by rfl)
    (hpl : ((backTo pos (starEach (e :: es) X.env)).any (·.1) || (backToKw pos (keywordEach kws X.env)).any (·.1.isNone)) = false := by rfl) :
    PE X (.Call (.Name x p) (e :: es) kws pos) (tCallXK (SpX X.K X.mg g) W n ks.length π t tkw) := by
  refine ⟨fun pins s σ H Q I h => ?_⟩
  refine wpAny_Call_Name_kw (ld_glob I hg hm ?_ hdb)
  refine PySem.W.callWith_KW (h₀ := X.base) I.ok.mod.kin hk hall (thn (ha.run pos pins s σ H _ I h) fun us s1 ⟨vs, H1, I1, r, q⟩ => ?_) hpl he
  refine thn (hkw.run pos pins s1 σ H1 _ I1 q) fun ws s2 ⟨zs, H2, I2, rz, l1, l2, q2⟩ => ⟨I2.kIn, ?_⟩
  rw [hks]
  exact run_x F tk hr hG (us := sel π (us ++ ws)) (hb.to s2 us ws (by rw [← r.length]; exact l1) (by rw [← rz.length]; exact l2)) I2 (sel_vals (r.append rz) π) q2
theorem pe_callXK0 (F : FnX X.prog X.w X.K X.mg X.base k f fd ps g) (tk : Takes X W) (hr : Room k X.A) (hG : X.A.guards = some []) (hg : Gl X x) (hm : X.mg x = some (.ref f)) (hk : PySem.W.keepIn X.K (.ref f) = true) (hb : KBd X.K fd ps ks 0 π)
    (hkw : PK X kws tkw) (hall : (backToKw pos (keywordEach kws X.env)).all (·.1.isSome) = true := by rfl) (hks : (backToKw pos (keywordEach kws X.env)).filterMap (·.1) = ks := by rfl)
    (hdb : (x == ("__debug__" : Str)) = false := by decide) (hpl : ((backTo pos (starEach [] X.env)).any (·.1) || (backToKw pos (keywordEach kws X.env)).any (·.1.isNone)) = false := by rfl) :
    PE X (.Call (.Name x p) [] kws pos) (tCallXK (SpX X.K X.mg g) W 0 ks.length π tNil tkw) := by
  refine ⟨fun pins s σ H Q I h => ?_⟩
  refine wpAny_Call_Name_kw (ld_glob I hg hm ?_ hdb)
  refine PySem.W.callWith_KW0 (h₀ := X.base) I.ok.mod.kin hk hall (thn (hkw.run pos pins s σ H _ I h) fun ws s2 ⟨zs, H2, I2, rz, l1, l2, q2⟩ => ⟨I2.kIn, ?_⟩) hpl
  rw [hks]
  exact run_x F tk hr hG (us := sel π ([] ++ ws)) (hb.to s2 [] ws rfl (by rw [← rz.length]; exact l2)) I2 (sel_vals (vs := [] ++ zs) rz π) q2
def fLKX (xw : En → Xd → Prop) (g : FLX) (n m : Nat) (π : List Nat) (fa fk : FA) : FE := fun ρ Q => fa ρ fun ds => fk ρ fun es => ds.length = n ∧ es.length = m ∧ CalX g (sel π (ds ++ es)) Q (xw ρ)
theorem rd_callXK {tk : TA} (hL : LinkX K X.mg W xw) (hg : MoLX g) (ha : RdA K t fa) (ma : MoA fa) (hk : RdA K tk fk) (mk : MoA fk) : RdE K (tCallXK (SpX K X.mg g) W n ks.length π t tk) (fLKX xw g n ks.length π fa fk) := fun M H0 z m H σ ρ Q I q =>
  ha M H0 z m H σ ρ _ I (ma ρ _ _ (fun ds q1 vs H1 s1 i1 => hk M H0 z m H1 σ ρ _ (I.step s1) (mk ρ _ _ (fun es q2 ws H2 s2 i2 => ⟨by rw [i1.length]; exact q2.1, by rw [i2.length]; exact q2.2.1, M, m, sel π (ds ++ es), (I.hx.step s1).step s2, sel_is ((i1.mono ((I.hx.step s1).same s2)).append i2) π,
    hg _ _ _ _ _ (fun d q => q.mono (s1.trans s2)) (fun x hx cls d H' s3 xi => hL M H0 z m H' σ ρ (((I.step s1).step s2).step s3) x hx cls d xi) q2.2.2⟩) q1)) q)
theorem mo_fLKX {m : Nat} (hg : MoLX g) (ha : MoA fa) (hk : MoA fk) : MoE (fLKX xw g n m π fa fk) := fun ρ Q Q' h q => ha ρ _ _ (fun ds q => hk ρ _ _ (fun es q => ⟨q.1, q.2.1, hg _ _ _ _ _ h (fun _ z => z) q.2.2⟩) q) q
theorem e_callXK (n : Nat) (π : List Nat) (F : FnX X.prog X.w X.K X.mg X.base k f fd ps g) (tk : Takes X W) (hL : LinkX K X.mg W xw) (hr : Room k X.A) (hG : X.A.guards = some []) (hm : X.mg x = some (.ref f)) (hk : PySem.W.keepIn X.K (.ref f) = true) (hb : KBd X.K fd ps ks n π)
    (ha : DA K X (e :: es) t fa) (hkw : DK K X kws tkw fk) (hK : X.K = K := by rfl) (hg : Gl X x := by rfl) (hall : (backToKw pos (keywordEach kws X.env)).all (·.1.isSome) = true := by rfl) (hks : (backToKw pos (keywordEach kws X.env)).filterMap (·.1) = ks := by rfl)
    (hdb : (x == ("__debug__" : Str)) = false := by decide) (he : starEach (e :: es) X.env = (false, eval e X.env) :: starEach es X.env := by rfl)
    (hpl : ((backTo pos (starEach (e :: es) X.env)).any (·.1) || (backToKw pos (keywordEach kws X.env)).any (·.1.isNone)) = false := by rfl) :
    DE K X (.Call (.Name x p) (e :: es) kws pos) (tCallXK (SpX K X.mg g) W n ks.length π t tkw) (fLKX xw g n ks.length π fa fk) := by
  obtain ⟨K, stK⟩ := K
  replace hK : X.K = K := hK
  subst hK
  exact ⟨pe_callXK F tk hr hG hg hm hk hb ha.pa hkw.pk hall hks hdb he hpl, rd_callXK hL F.mo ha.rd ha.mo hkw.rd hkw.mo, mo_fLKX F.mo ha.mo hkw.mo⟩
theorem e_callXK0 (π : List Nat) (F : FnX X.prog X.w X.K X.mg X.base k f fd ps g) (tk : Takes X W) (hL : LinkX K X.mg W xw) (hr : Room k X.A) (hG : X.A.guards = some []) (hm : X.mg x = some (.ref f)) (hk : PySem.W.keepIn X.K (.ref f) = true) (hb : KBd X.K fd ps ks 0 π)
    (hkw : DK K X kws tkw fk) (hK : X.K = K := by rfl) (hg : Gl X x := by rfl) (hall : (backToKw pos (keywordEach kws X.env)).all (·.1.isSome) = true := by rfl) (hks : (backToKw pos (keywordEach kws X.env)).filterMap (·.1) = ks := by rfl)
    (hdb : (x == ("__debug__" : Str)) = false := by decide) (hpl : ((backTo pos (starEach [] X.env)).any (·.1) || (backToKw pos (keywordEach kws X.env)).any (·.1.isNone)) = false := by rfl) :
    DE K X (.Call (.Name x p) [] kws pos) (tCallXK (SpX K X.mg g) W 0 ks.length π tNil tkw) (fLKX xw g 0 ks.length π aNil fk) := by
  obtain ⟨K, stK⟩ := K
  replace hK : X.K = K := hK
  subst hK
  exact ⟨pe_callXK0 F tk hr hG hg hm hk hb hkw.pk hall hks hdb hpl, rd_callXK hL F.mo (a_nil (K := ⟨X.K, stK⟩) (X := X)).rd mo_aNil hkw.rd hkw.mo, mo_fLKX F.mo mo_aNil hkw.mo⟩
end
end Pl

/-! try: return e / except C as n: return e2 -/
namespace Pl
open PySem PySem.Spec PyProof.Rows L2

/-- what the module says of an exception class that is caught -/
structure XHot (K : Fg0) (C : Addr) : Prop where
  xf : XfC K C
  cl : (PySem.W.clsIn K C).isSome = true
  ca : PySem.W.findIn K (.ref C) "__class__" = some (some (.builtin "object.__class__"))
  sp : PySem.W.specialIn K (.builtin "object.__class__") "__get__" = some (some (.builtin "getset_descriptor.__get__"))
  tk : PySem.W.takesIn K (.builtin "object.__class__") = some true
  mo : PySem.W.mroIn K C (.type "object") = some true
/-- isinstance(e, c), e the exception that the suite holds, whatever its dict -/
def rIsE2 (K : Fg0) (C a : Addr) (d : Option Addr) : List V → Hp → VK → Prop := fun xs H Q => ∃ (c : V) (cv : Value) (b : Bool), xs = [.ref a, c] ∧ (∀ u, RelV c u → u = cv) ∧ PySem.W.kitOne K (.ref C) cv = some b ∧ (d = none ∨ ∃ dd fs, d = some dd ∧ H dd = some (.xd fs)) ∧ Q (.bl b) H
section
variable {X : Cx} {a C C2 : Addr} {oe : Obj} {d : Option Addr} {pn : List (Addr × Obj)} {i : Nat} {n x : Str} {p p1 p2 pos : Pos} {K : Fg}
theorem call_isE2 (Z : XHot X.K C) (hz : Zc (.ref C) d oe) (hf : ∃ vs, oe.data = .fields vs) : CallR (X.suite a ((a, oe) :: pn)) (.builtin "isinstance") (rIsE2 X.K C a d) := by
  intro pins s σ H xs us Q I r h
  obtain ⟨c, cv, b, rfl, hcv, e, hd, q⟩ := h
  cases r with
  | cons rx rr =>
    cases rr with
    | cons rt rr =>
      cases rr
      cases rx
      have ec := hcv _ rt
      subst ec
      obtain ⟨hget, _⟩ := I.pin (a, oe) (List.mem_append.mpr (.inl List.mem_cons_self))
      obtain ⟨vs, hv⟩ := hf
      have J : ∃ od, PySem.W.InstAt s.heap a oe C od := by
        obtain ⟨oc, od, oda, osl⟩ := oe
        obtain ⟨h1, h2⟩ := hz
        dsimp only at h1 h2 hv
        subst h1 h2 hv
        rcases hd with rfl | ⟨dd, fs, rfl, ed⟩
        · exact ⟨none, hget, rfl, rfl, trivial⟩
        · have hx : ObjOk X.prog X.w H s.heap dd (.xd fs) := I.hok dd _ ed
          obtain ⟨mA, hns, hr⟩ := hx
          obtain ⟨o2, ho, hl⟩ := lookIn_ns hns
          exact ⟨some o2, hget, rfl, rfl, ho⟩
      obtain ⟨od, J⟩ := J
      exact PySem.W.kia_one (PySem.W.kitx_exc Z.cl Z.xf.ga Z.xf.gg Z.xf.exC Z.ca Z.sp Z.tk Z.mo) I.kIn J e (fun z => nomatch z) fun tk => ⟨.bl b, H, I.kept (t' := tk) fun _ _ z => z, rfl, q⟩
/-- the caught exception's field -/
def fExF (i : Nat) (a : Addr) (d : Option Addr) (fs : List (Str × D)) (f : Str) : FE := fun ρ Q => ρ[i]? = some (.ex a d fs) ∧ exS (fs.lookup f) Q
def fExI (i : Nat) (a : Addr) (d : Option Addr) (fs : List (Str × D)) (b : Bool) : FE := fun ρ Q => ρ[i]? = some (.ex a d fs) ∧ Q (.bl b)
theorem e_exf (i : Nat) (f : Str) (fs : List (Str × D)) (T : XHot X.K C) (hno : PySem.W.findIn X.K (.ref C) f = some none) (hz : Zc (.ref C) d oe) (hf : ∃ vs, oe.data = .fields vs) (hN : X.N[i]? = some n := by rfl) (hv : Vis X.env.scope n := by first | exact Or.inl rfl | exact Or.inr (Or.inl rfl) | exact Or.inr (Or.inr rfl))
    (hd : (n == ("__debug__" : Str)) = false := by decide) (hcd : (n == ("__classdict__" : Str)) = false := by decide) (hb : attributeBase (.Name n p) f X.env (eval (.Name n p) X.env) = eval (.Name n p) X.env := by rfl) :
    DE K (X.suite a ((a, oe) :: pn)) (.Attribute (.Name n p) f pos) (tXf a (.ref C) d C f (tVar i)) (fExF i a d fs f) := by
  refine ⟨pe_xf T.xf hno hz hf (pe_var (X := X.suite a ((a, oe) :: pn)) hN hv hd hcd) hb, fun M H0 z m H σ ρ Q I q => ?_, fun ρ Q Q' h q => ⟨q.1, exS_mo h q.2⟩⟩
  obtain ⟨q1, y, ey, q⟩ := q
  obtain ⟨e1, e2⟩ := I.slot i _ q1
  refine ⟨.ref a, e1, rfl, rfl, ?_⟩
  rcases e2 with ⟨rfl, _⟩ | ⟨dd, f', v, y', rfl, rfl, e3, iv⟩
  · cases ey
  · rw [List.lookup_cons] at ey
    split at ey
    · rename_i hff
      cases ey
      refine ⟨dd, [(f', v)], v, rfl, (hid_some e3).2, ?_, q.flat I.hx iv⟩
      rw [List.lookup_cons, hff]
    · cases ey
theorem e_exi (i : Nat) (b : Bool) (fs : List (Str × D)) (T : XHot X.K C) (hz : Zc (.ref C) d oe) (hf : ∃ vs, oe.data = .fields vs) (hk : PySem.W.kitOne X.K (.ref C) (.ref C2) = some b) (hm : X.mg "isinstance" = none) (hm2 : X.mg x = some (.ref C2))
    (hN : X.N[i]? = some n := by rfl) (hv : Vis X.env.scope n := by first | exact Or.inl rfl | exact Or.inr (Or.inl rfl) | exact Or.inr (Or.inr rfl)) (hg : Gl X "isinstance" := by rfl) (hg2 : Gl X x := by rfl)
    (hd : (n == ("__debug__" : Str)) = false := by decide) (hcd : (n == ("__classdict__" : Str)) = false := by decide) (hdb : (x == ("__debug__" : Str)) = false := by decide)
    (he : starEach [.Name n p, .Name x p2] X.env = (false, eval (.Name n p) X.env) :: starEach [.Name x p2] X.env := by rfl) (he2 : starEach [.Name x p2] X.env = (false, eval (.Name x p2) X.env) :: starEach [] X.env := by rfl) (hpl : (backTo pos (starEach [.Name x p2] X.env)).any (·.1) = false := by rfl) :
    DE K (X.suite a ((a, oe) :: pn)) (.Call (.Name "isinstance" p1) [.Name n p, .Name x p2] [] pos) (tCB (rIsE2 X.K C a d) (tCons (tVar i) (tCons (tC (.ref C2)) tNil))) (fExI i a d fs b) := by
  refine ⟨pe_callB (call_isE2 T hz hf) hg hm (by decide +kernel) (pa_cons (pe_var (X := X.suite a ((a, oe) :: pn)) hN hv hd hcd) (pa_cons (pe_glob (X := X.suite a ((a, oe) :: pn)) (v := .ref C2) hg2 hm2 rfl hdb) pa_nil he2) he) (by decide) (by decide) he hpl, fun M H0 z m H σ ρ Q I q => ?_, fun ρ Q Q' h q => ⟨q.1, h _ q.2⟩⟩
  obtain ⟨q1, q⟩ := q
  obtain ⟨e1, e2⟩ := I.slot i _ q1
  refine ⟨.ref a, e1, .ref C2, .ref C2, b, rfl, fun u r => r, hk, ?_, q.flat I.hx (.bl b)⟩
  rcases e2 with ⟨_, h⟩ | ⟨dd, f', v, y', _, h, e3, _⟩
  · exact .inl h
  · exact .inr ⟨dd, _, h, (hid_some e3).2⟩
end

/-- what is wished of an exception of a try's body -/
def tryX (tab : List (Str × Bool)) (i : Nat) (f : Addr → Option Addr → List (Str × D) → FE) (xw : En → Xd → Prop) (E : DEn) (ρ : En) (x : Xd) : Prop := match tab.lookup x.name with
  | some true => i < ρ.length ∧ ∀ a d, f a d x.fs (ρ.set i (.ex a d x.fs)) E.rt
  | some false => xw ρ x
  | none => False
def sTry (tab : List (Str × Bool)) (i : Nat) (fb : (En → Xd → Prop) → FS) (f : Addr → Option Addr → List (Str × D) → FE) (xw : En → Xd → Prop) : FS := fun E ρ => fb (tryX tab i f xw E) E ρ
theorem EnOk.st_to {K : Fg} {sg : Ml → Hp → (Addr → Prop) → Prop} {M : Ml} {H0 H : Hp} {z m : Addr → Prop} {σ : L2.St} {ρ : En} (h : sg M H0 z) (I : EnOk K M H0 z m H σ ρ) : EnOk ⟨K.fr, sg⟩ M H0 z m H σ ρ := ⟨h, I.stp, I.zw, I.zm, I.zt, I.tr, I.len, I.slot, I.apart⟩
theorem EnOk.st_of {K : Fg} {sg : Ml → Hp → (Addr → Prop) → Prop} {M : Ml} {H0 H : Hp} {z m : Addr → Prop} {σ : L2.St} {ρ : En} (h : K.st M H0 z) (I : EnOk ⟨K.fr, sg⟩ M H0 z m H σ ρ) : EnOk K M H0 z m H σ ρ := ⟨h, I.stp, I.zw, I.zm, I.zt, I.tr, I.len, I.slot, I.apart⟩
section
variable {X : Cx} {K : Fg} {C : Addr} {nm n : Str} {i : Nat} {body : List Stmt} {e : Expr} {np rp pos pos' : Pos} {tb : WX → TS} {fb : (En → Xd → Prop) → FS} {te : Addr → Option Addr → TE} {f : Addr → Option Addr → List (Str × D) → FE} {Wout : WX} {xw : En → Xd → Prop} {tab : List (Str × Bool)}
theorem d_try (i : Nat) (tab : List (Str × Bool)) (hs : X.stack = X.env :: X.outer) (hf : X.env.frame = some X.env.locals) (hN : X.N.Nodup) (hi : X.N[i]? = some n) (hln : X.env.kindOf n = some .local) (hm : X.mg nm = some (.ref C)) (tk : Takes X Wout) (hL : LinkX K X.mg Wout xw)
    (ht : ∀ p ∈ tab, ∃ cls, X.mg p.1 = some cls ∧ PySem.W.exmOne X.K cls (.ref C) = some p.2) (ht2 : ∀ p ∈ tab, p.2 = true → p.1 = nm)
    (hb : ∀ (sg : Ml → Hp → (Addr → Prop) → Prop) (W : WX) (pn : List (Addr × Obj)) (xe : Value → Shared → Prop) (xw' : En → Xd → Prop), Takes (X.tr pn xe) W → LinkX ⟨K.fr, sg⟩ X.mg W xw' → DSs ⟨K.fr, sg⟩ (X.tr pn xe) body (tb W) (fb xw'))
    (hsu : ∀ (a : Addr) (oe : Obj) (d : Option Addr) (pn : List (Addr × Obj)) (fs : List (Str × D)), Zc (.ref C) d oe → (∃ vs, oe.data = .fields vs) → DE K (X.suite a ((a, oe) :: pn)) e (te a d) (f a d fs))
    (hg : Gl X nm := by rfl) (hdb : (nm == ("__debug__" : Str)) = false := by decide) :
    DS K X (.Try body [.ExceptHandler (some (.Name nm np)) (some n) [.Return (some e) rp] pos'] [] [] pos)
      (fun D σ H => tb (wAs X.K (.ref C) i (fun a cls d D σ H => cls = .ref C ∧ tRet (te a d) D σ H) Wout D) D σ H) (sTry tab i fb f xw) := by
  refine ⟨ps_try_as hs hf hN hi hln ⟨hg, hdb, .inl hm⟩ tk (fun W pn xe tkW _ => (hb (fun _ _ _ => False) W pn xe (fun _ _ => False) tkW fun M H0 z m H σ ρ I x hx => hx.elim).ps) (fun a oe cls d pn hz hd => ⟨fun pins s σ H D I h => ?_⟩), fun M H0 z m H σ ρ W E I c q => ?_⟩
  · obtain ⟨rfl, h⟩ := h
    exact (pss_one (ps_ret (hsu a oe d pn [] hz hd).pe)).run pins s σ H D I h
  · have hlink : LinkX ⟨K.fr, fun M' H0' z' => M' = M ∧ H0' = H0 ∧ z' = z⟩ X.mg (wAs X.K (.ref C) i (fun a cls d D σ H => cls = .ref C ∧ tRet (te a d) D σ H) Wout W) (tryX tab i f xw E) := fun M' H0' z' m' H' σ' ρ' I2 x hx cls d xi => by
      obtain ⟨rfl, rfl, rfl⟩ := I2.st
      have I3 := I2.st_of (K := K) I.st
      unfold tryX at hx
      split at hx
      · rename_i hl
        have hmem := PySem.mem_of_lookup hl
        obtain ⟨cls', e1, e2⟩ := ht _ hmem
        have e3 : cls' = cls := Option.some.inj (e1.symm.trans xi.1)
        subst e3
        have e4 : x.name = nm := ht2 _ hmem rfl
        rw [e4, hm] at e1
        have e5 := Option.some.inj e1
        subst e5
        refine ⟨true, e2, fun _ a na => ⟨rfl, ?_⟩, fun z => absurd z.symm Bool.false_ne_true⟩
        refine (hsu a { cls := .ref C, dict := d, data := .fields #[] } d [] x.fs ⟨rfl, rfl⟩ ⟨_, rfl⟩).rd M' H0' z' m' H' _ (ρ'.set i (.ex a d x.fs)) _ (I3.putS (v := .ref a) (s := .ex a d x.fs) hx.1 ⟨rfl, xi.2⟩ (fun o => False.elim o)) ?_
        · refine (hsu a { cls := .ref C, dict := d, data := .fields #[] } d [] x.fs ⟨rfl, rfl⟩ ⟨_, rfl⟩).mo _ _ _ (fun dd qq v H2 s2 iv => ?_) (hx.2 a d)
          exact c.rt v H2 dd (I3.stp.trans s2) (iv.mono (hid_less I3.zm)) qq
      · rename_i hl
        obtain ⟨cls', e1, e2⟩ := ht _ (PySem.mem_of_lookup hl)
        have e3 : cls' = cls := Option.some.inj (e1.symm.trans xi.1)
        subst e3
        exact ⟨false, e2, ⟨fun z => absurd z Bool.false_ne_true, fun _ => hL M' H0' z' m' H' σ' ρ' I3 x hx _ d xi⟩⟩
      · exact hx.elim
    exact (hb _ _ [] (fun _ _ => True) _ (fun _ _ _ => trivial) hlink).rd M H0 z m H σ ρ W E (I.st_to ⟨rfl, rfl, rfl⟩) ⟨fun m' σ' H' ρ' I' fw q => c.nx m' σ' H' ρ' (I'.st_of I.st) fw q, fun m' σ' H' ρ' I' fw q => c.bk m' σ' H' ρ' (I'.st_of I.st) fw q, fun m' σ' H' ρ' I' fw q => c.ct m' σ' H' ρ' (I'.st_of I.st) fw q, c.rt, c.rm⟩ q
end
end Pl

/-! The program's exception classes, out of the facts of the row. -/
namespace Pl
open PySem PySem.Spec PyProof.Rows L2
/-- self.f = v, v the second parameter -/
theorem ost_body {X : Cx} {f nm0 nm1 : Str} {p1 p2 p3 pos : Pos} {C : Addr} (T : OexC X.K C) (hno : PySem.W.findIn X.K (.ref C) f = some none) (h0 : X.N[0]? = some nm0) (h1 : X.N[1]? = some nm1) (v0 : Vis X.env.scope nm0) (v1 : Vis X.env.scope nm1)
    (d0 : (nm0 == ("__debug__" : Str)) = false) (d1 : (nm1 == ("__debug__" : Str)) = false) (c0 : (nm0 == ("__classdict__" : Str)) = false) (c1 : (nm1 == ("__classdict__" : Str)) = false)
    (hs : swapsWith (.Name nm1 p3) (some (.Attribute (.Name nm0 p1) f p2)) pos.line X.env = pure false) :
    PSs X [.Assign [.Attribute (.Name nm0 p1) f p2] (.Name nm1 p3) pos] (tOst X.K f (tVar 0) (tVar 1)) := pss_one (ps_ost (pe_var h0 v0 d0 c0) (pe_var h1 v1 d1 c1) hs)
theorem ost_reads {K : Fg0} {C a : Addr} {f : Str} {v : V} {Q : VK} {σ : L2.St} {H : Hp} (T : OexC K C) (hno : PySem.W.findIn K (.ref C) f = some none) (h0 : σ[0]? = some (some (.ref a))) (h1 : σ[1]? = some (some v)) (ea : H a = some (exo a C none))
    (q : ∀ dx, H dx = none → dx ≠ a → Q .non (upd (upd H dx (exd dx [(f, v)])) a (exo a C (some dx)))) : tOst K f (tVar 0) (tVar 1) { nx := fun _ H' => Q .non H', rt := Q } σ H :=
  ⟨v, h1, .ref a, h0, a, C, rfl, T, hno, .inl ⟨ea, q⟩⟩
/-- the facts of a row about an exception class -/
structure XRow (P : Program) (w : World) (K : Fg0) (C fI cc : Addr) (F : NdefX.NF) (od : Option Addr) (doc pm ctv : Value) (sl : Array (Option Value)) : Prop where
  ex : ExcK P K C fI cc F
  lk : K.lookup fI = some (⟨.type "function", od, .func (F.fd doc pm ctv), sl⟩ : Obj)
  iC : PySem.W.findIn K (.ref C) "__init__" = some (some (.ref fI))
  tI : PySem.W.typeIn K (.ref fI) = some (.type "function")
section
variable {P : Program} {w : World} {K : Fg0} {mg : Str → Option Value} {base : Heap} {x fl nm0 nm1 : Str} {C fI cc : Addr} {F : NdefX.NF} {od : Option Addr} {doc pm ctv : Value} {sl : Array (Option Value)} {p0 p1 p2 pos p4 q1 q2 q3 q4 q5 : Pos} {ar : Arg} {pl : Sem Bool}
open NdefX in
theorem xcls_one (R : XRow P w K C fI cc F od doc pm ctv sl) (hm : mg x = some (.ref C)) (hsu : mg "super" = none) (hno : PySem.W.findIn K (.ref C) fl = some none) (S : NScope [nm0, nm1, "__class__"] [nm0, nm1] ["__class__"] F.scope)
    (hB : F.body = [.Expr (.Call (.Attribute (.Call (.Name "super" p0) [] [] p1) "__init__" p2) [.Name nm1 q5] [] pos) p4, .Assign [.Attribute (.Name nm0 q1) fl q2] (.Name nm1 q3) q4])
    (hks : F.scope.names.lookup ("super" : Str) = some .globalImplicit) (hp : (F.params.posonlyargs ++ F.params.args).head? = some ar) (har : ar.arg = nm0)
    (hi : ∀ L, interactive (envF F fI L) = false) (hs : ∀ L, swapsWith (.Call (.Attribute (.Call (.Name "super" p0) [] [] p1) "__init__" p2) [.Name nm1 q5] [] pos) none p4.line (envF F fI L) = pure false)
    (he : ∀ L, eval (.Call (.Attribute (.Call (.Name "super" p0) [] [] p1) "__init__" p2) [.Name nm1 q5] [] pos) (envF F fI L) = (do
      let ov ← attributeBase (.Call (.Name "super" p0) [] [] p1) "__init__" (envF F fI L) (eval (.Call (.Name "super" p0) [] [] p1) (envF F fI L))
      standAt p2.atName
      let (fn, first) ← holding [ov] (getMethod ov "__init__" pl)
      callWith pos fn first (backTo pos (starEach [.Name nm1 q5] (envF F fI L))) []))
    (hes : ∀ L, starEach [.Name nm1 q5] (envF F fI L) = (false, eval (.Name nm1 q5) (envF F fI L)) :: starEach [] (envF F fI L) ∧ (backTo pos (starEach [] (envF F fI L))).any (·.1) = false)
    (hs2 : ∀ L, swapsWith (.Name nm1 q3) (some (.Attribute (.Name nm0 q1) fl q2)) q4.line (envF F fI L) = pure false) (hb : Binds K (F.fd doc pm ctv) [nm0, nm1] [])
    (d0 : (nm0 == ("__debug__" : Str)) = false := by decide) (d1 : (nm1 == ("__debug__" : Str)) = false := by decide) (c0 : (nm0 == ("__classdict__" : Str)) = false := by decide) (c1 : (nm1 == ("__classdict__" : Str)) = false := by decide) :
    XCls P w K mg base x C fI (F.fd doc pm ctv) [nm0, nm1] (spI1 C fl) := by
  have l0 : F.scope.names.lookup nm0 = some .local := S.par nm0 (by simp)
  have l1 : F.scope.names.lookup nm1 = some .local := S.par nm1 (by simp)
  refine ⟨R.ex.oex, R.iC, R.tI, init_ok (k := 0) (N := [nm0, nm1, "__class__"]) (ps := [nm0, nm1]) (p0 := p0) (p1 := p1) (p2 := p2) (pos := pos) (p4 := p4) (es := [.Name nm1 q5]) (ar := ar) (pl := pl) R.ex S hsu R.lk hB hks (S.frk "__class__" (by simp)) hp (by rw [har]; rfl) (by rw [har]; exact l0) hi hs he (.inr ⟨_, _, rfl, hes⟩) ?_ ?_, hb, hm⟩
  · rintro vs H Q E ⟨a, v, rfl, _⟩; rfl
  · rintro A outer s H vs Q E ⟨a, v, rfl, ea, q⟩
    refine ⟨a, tCons (tVar 1) tNil, tOst K fl (tVar 0) (tVar 1), rfl, ea, ?_, (fun z => nomatch z), ⟨v, rfl, by simp, rfl⟩, ?_, ost_reads R.ex.oex hno rfl rfl ea q⟩
    · exact pa_cons (X := ncx CX0 P w K mg base [nm0, nm1, "__class__"] F fI A outer s H E) (pe_var rfl (.inl l1) d1 c1) pa_nil (hes _).1
    · exact ost_body (X := ncx CX0 P w K mg base [nm0, nm1, "__class__"] F fI A outer s H E) (C := C) R.ex.oex hno rfl rfl (.inl l0) (.inl l1) d0 d1 c0 c1 (hs2 _)
open NdefX in
theorem xcls_none (R : XRow P w K C fI cc F od doc pm ctv sl) (hm : mg x = some (.ref C)) (hsu : mg "super" = none) (S : NScope [nm0, "__class__"] [nm0] ["__class__"] F.scope)
    (hB : F.body = [.Expr (.Call (.Attribute (.Call (.Name "super" p0) [] [] p1) "__init__" p2) [] [] pos) p4])
    (hks : F.scope.names.lookup ("super" : Str) = some .globalImplicit) (hp : (F.params.posonlyargs ++ F.params.args).head? = some ar) (har : ar.arg = nm0)
    (hi : ∀ L, interactive (envF F fI L) = false) (hs : ∀ L, swapsWith (.Call (.Attribute (.Call (.Name "super" p0) [] [] p1) "__init__" p2) [] [] pos) none p4.line (envF F fI L) = pure false)
    (he : ∀ L, eval (.Call (.Attribute (.Call (.Name "super" p0) [] [] p1) "__init__" p2) [] [] pos) (envF F fI L) = (do
      let ov ← attributeBase (.Call (.Name "super" p0) [] [] p1) "__init__" (envF F fI L) (eval (.Call (.Name "super" p0) [] [] p1) (envF F fI L))
      standAt p2.atName
      let (fn, first) ← holding [ov] (getMethod ov "__init__" pl)
      callWith pos fn first (backTo pos (starEach [] (envF F fI L))) []))
    (hb : Binds K (F.fd doc pm ctv) [nm0] []) : XCls P w K mg base x C fI (F.fd doc pm ctv) [nm0] (spI0 C) := by
  have l0 : F.scope.names.lookup nm0 = some .local := S.par nm0 (by simp)
  refine ⟨R.ex.oex, R.iC, R.tI, init_ok (k := 0) (N := [nm0, "__class__"]) (ps := [nm0]) (p0 := p0) (p1 := p1) (p2 := p2) (pos := pos) (p4 := p4) (es := []) (ar := ar) (pl := pl) R.ex S hsu R.lk hB hks (S.frk "__class__" (by simp)) hp (by rw [har]; rfl) (by rw [har]; exact l0) hi hs he (.inl rfl) ?_ ?_, hb, hm⟩
  · rintro vs H Q E ⟨a, rfl, _⟩; rfl
  · rintro A outer s H vs Q E ⟨a, rfl, ea, q⟩
    exact ⟨a, tNil, tNext, rfl, ea, pa_nil, (fun _ => rfl), ⟨by simp, rfl⟩, pss_nil, q⟩
end
end Pl

namespace Pl
open PySem PySem.Spec PyProof.Rows L2

/-! ### dict(pairs) as a value, list(dict) -/
def mgD (acc : List (Key × D)) (kvs : List (List Nat × D)) : List (Key × D) := kvs.foldl (fun acc p => putG acc (keyS p.1) p.2) acc
section
variable {κ α : Type} [DecidableEq κ]
open Classical in
theorem putG_keys (l : List (κ × α)) (k : κ) (v : α) : (putG l k v).map (·.1) = if k ∈ l.map (·.1) then l.map (·.1) else l.map (·.1) ++ [k] := by
  by_cases h : k ∈ l.map (·.1)
  · rw [if_pos h]
    have e : (l.any fun kv => decide (kv.1 = k)) = true := by
      obtain ⟨p, hp, rfl⟩ := List.mem_map.mp h
      exact List.any_eq_true.mpr ⟨p, hp, decide_eq_true rfl⟩
    unfold putG
    rw [if_pos e, List.map_map]
    refine List.map_congr_left fun p hp => ?_
    show (if p.1 = k then (p.1, v) else p).1 = p.1
    split <;> rfl
  · rw [if_neg h]
    have e : (l.any fun kv => decide (kv.1 = k)) = false := List.any_eq_false.mpr fun p hp z => h (List.mem_map.mpr ⟨p, hp, of_decide_eq_true z⟩)
    unfold putG
    rw [if_neg (by rw [e]; exact Bool.false_ne_true), List.map_append]
    rfl
end
/-- the keys: those of the pairs, each once -/
theorem mgD_keys : ∀ (kvs : List (List Nat × D)) (acc : List (Key × D)) (ks : List (List Nat)), acc.map (·.1) = ks.map keyS → ks.Nodup → ∃ js : List (List Nat), (mgD acc kvs).map (·.1) = js.map keyS ∧ js.Nodup ∧ (∀ x, x ∈ js ↔ x ∈ ks ∨ x ∈ kvs.map (·.1)) ∧ js.length ≤ ks.length + kvs.length
  | [], acc, ks, e, h => ⟨ks, e, h, fun x => by simp, Nat.le_add_right _ _⟩
  | p :: r, acc, ks, e, h => by
    have e1 := putG_keys acc (keyS p.1) p.2
    rw [e] at e1
    by_cases hk : p.1 ∈ ks
    · rw [if_pos (List.mem_map_of_mem hk)] at e1
      obtain ⟨js, g1, g2, g3, g4⟩ := mgD_keys r _ ks e1 h
      refine ⟨js, g1, g2, fun x => ?_, by rw [List.length_cons]; omega⟩
      rw [g3 x, List.map_cons, List.mem_cons]
      constructor
      · rintro (q | q)
        · exact .inl q
        · exact .inr (.inr q)
      · rintro (q | q | q)
        · exact .inl q
        · rw [q]; exact .inl hk
        · exact .inr q
    · have nk : keyS p.1 ∉ ks.map keyS := fun z => by
        obtain ⟨y, hy, ey⟩ := List.mem_map.mp z
        rw [keyS_inj.mp ey] at hy
        exact hk hy
      rw [if_neg nk] at e1
      obtain ⟨js, g1, g2, g3, g4⟩ := mgD_keys r _ (ks ++ [p.1]) (by rw [e1, List.map_append]; rfl) (List.nodup_append.mpr ⟨h, by simp, fun a ha b hb => by rw [List.mem_singleton.mp hb]; exact fun z => hk (z ▸ ha)⟩)
      refine ⟨js, g1, g2, fun x => ?_, by rw [List.length_append] at g4; rw [List.length_cons]; simp at g4; omega⟩
      rw [g3 x, List.map_cons, List.mem_cons, List.mem_append, List.mem_singleton, or_assoc]
section
variable {M : Ml} {H : Hp}
theorem isA_prs {K : Fg0} : ∀ {vs : List V} (kvs : List (List Nat × D)), IsA K M H vs (kvs.map fun p => D.tup [.str p.1, p.2]) → ∃ (ps : List Addr) (ws : List (Key × V)), vs = ps.map V.ref ∧ Paired (fun p kv => SqT K H p [kV kv.1, kv.2]) ps ws ∧ IsK K M H ws (mkS kvs)
  | _, [], .nil => ⟨[], [], rfl, .nil, .nil⟩
  | _, p :: kvs, .cons i t => by
    obtain ⟨ps, ws, e1, e2, e3⟩ := isA_prs kvs t
    cases i with
    | tup hs a z =>
      rename_i b xs
      cases a with
      | cons j1 j2 =>
        cases j1
        cases j2 with
        | @cons w _ _ _ j2 j3 =>
          cases j3
          exact ⟨b :: ps, (keyS p.1, w) :: ws, by rw [e1]; rfl, .cons hs e2, .cons j2 e3⟩
theorem isK_mg {K : Fg0} : ∀ (kvs : List (List Nat × D)) (ws acc : List (Key × V)) (ds : List (Key × D)), IsK K M H ws (mkS kvs) → IsK K M H acc ds → IsK K M H (mergeK acc ws) (mgD ds kvs)
  | [], _, _, _, .nil, h => h
  | p :: kvs, _, acc, ds, .cons (v := v) (vs := vs) i t, h => isK_mg kvs vs (putK acc (keyS p.1) v) (putG ds (keyS p.1) p.2) t (isK_put (keyS p.1) i h)
end
def gDict : FL := fun ds Q => match ds with
  | [.lst xs] => ∃ kvs : List (List Nat × D), xs = kvs.map (fun p => D.tup [.str p.1, p.2]) ∧ Q (.dk (mgD [] kvs))
  | _ => False
theorem mo_gDict : MoL gDict := fun a Q Q' h q => by
  unfold gDict at q ⊢
  split at q
  · obtain ⟨rows, e, q⟩ := q
    exact ⟨rows, e, h _ q⟩
  · exact q
theorem b_dict {K : Fg0} {X : Cx} (hc : X.calm = true) (hK : X.K = K := by rfl) : BR K X (.type "dict") (rDictP K) gDict := by
  subst hK
  refine ⟨call_dictP hc, fun M m H vs ds Q h ii q => ?_, mo_gDict⟩
  unfold gDict at q
  split at q
  · obtain ⟨kvs, rfl, q⟩ := q
    obtain ⟨v, rfl, i⟩ := ii.one
    obtain ⟨l, vs, rfl, hl, ia, zl⟩ := i.lst
    obtain ⟨ps, ws, rfl, hp, ik⟩ := isA_prs kvs ia
    refine ⟨l, ps, ws, rfl, .of hl, pair_mono hid_all hp, fun b nb => ?_⟩
    have s2 : Stp M H (upd H b (.dK (mergeK [] ws))) := .new h.ok nb
    exact q _ _ s2 (.dk (.of (by rw [hid_in (h.fresh nb)]; exact upd_same)) ((isK_mg kvs ws [] [] ik .nil).mono (h.same s2)))
  · exact q.elim
/-- list(d) -/
def rListK : List V → Hp → VK → Prop := fun xs H Q => ∃ p kvs, xs = [.ref p] ∧ Rd H p (.dK kvs) ∧ ∀ q, H q = none → Q (.ref q) (upd H q (.lst ((kvs.map (·.1)).map kV)))
theorem call_listK {X : Cx} (hc : X.calm = true) : CallR X (.type "list") rListK := by
  rintro pins s σ H _ us Q I r ⟨p, kvs, rfl, rd, q⟩
  obtain ⟨u, rfl, rx⟩ := r.one
  cases rx
  obtain ⟨z, lo, vs, rk, hd⟩ := (rd.ok I.hok : ObjOk X.prog X.w H s.heap p (.dK kvs))
  obtain ⟨ep, hat⟩ := hd.dictAt
  have hl : kvs.length = vs.length := Paired.length rk
  refine PySem.W.kdl_call (PySem.W.kdl_dict (knd := mixKind X.prog X.w) (ep := ep) lo) (I.ok.hd hc) hat (hl ▸ z) fun h' tk ac n hk hS ha => ?_
  have l1 : ac.toList.length = vs.length := by rw [Array.length_toList]; exact ha.1
  refine ⟨.ref s.heap.objs.size, upd H s.heap.objs.size (.lst ((kvs.map (·.1)).map kV)), I.laid hk (Nat.le_refl _) ?_, rfl, q _ (I.hok.fresh (Nat.le_refl _))⟩
  refine (show ObjOk X.prog X.w _ _ _ (.lst ((kvs.map (·.1)).map kV)) from ⟨by rw [List.length_map, List.length_map]; exact z, ac.toList, n, vals_of_at (by rw [List.length_map, List.length_map, l1, hl]) fun j x w h1 h2 => ?_, by rw [Array.toArray_toList]; exact hS⟩)
  obtain ⟨k, y, hky, hi⟩ := ha.2 j w (by rw [← Array.getElem?_toList]; exact h2)
  rw [List.getElem?_map, KV.keys rk, List.getElem?_map, hky] at h1
  rw [← Option.some.inj h1]
  exact keyIs_rel hi
def gListK : List D → (List D → Prop) → Prop := fun ds Q => match ds with
  | [.dk kvs] => ∃ ks : List (List Nat), kvs.map (·.1) = ks.map keyS ∧ ks.length ≤ sizeLine ∧ (∀ k ∈ ks, k.length ≤ sizeLine) ∧ Q (ks.map D.str)
  | _ => False
theorem lr_listK {K : Fg0} {X : Cx} (hc : X.calm = true) (hK : X.K = K := by rfl) : LR K X (.type "list") rListK gListK := by
  subst hK
  refine ⟨call_listK hc, fun M m H vs ds Q h ii q => ?_, fun a Q Q' h q => ?_⟩
  · unfold gListK at q
    split at q
    · obtain ⟨ks, ek, zl, zk, q⟩ := q
      obtain ⟨v, rfl, i⟩ := ii.one
      obtain ⟨p, ws, rfl, r, ik⟩ := i.dk
      refine ⟨p, ws, rfl, r, fun l n => ?_⟩
      rw [(isK_to ik).1, ek]
      have e : (ks.map keyS).map kV = (ks.map S).map V.str := by rw [List.map_map, List.map_map]; rfl
      rw [e]
      exact q l _ n (IsA.ofStrs zk) (by rw [List.length_map]; exact zl)
    · exact q.elim
  · unfold gListK at q ⊢
    split at q
    · obtain ⟨ks, e, a, b, q⟩ := q
      exact ⟨ks, e, a, b, h _ q⟩
    · exact q
end Pl

namespace Pl
open PySem PySem.Spec PyProof.Rows L2

/-! ### calls that may raise, within a try -/
section
variable {X : Cx} {pn : List (Addr × Obj)} {xe : Value → Shared → Prop} {K : Fg} {W : WX} {xw : En → Xd → Prop} {k : Nat} {f : Addr} {fd : FuncData} {ps : List Str} {g : FLX} {x : Str} {p pos : Pos} {e : Expr} {es : List Expr} {t : TA} {fa : FA} {sp : Sp}
theorem e_callT (F : FnX X.prog X.w X.K X.mg X.base k f fd ps g) (tk : Takes (X.tr pn xe) W) (hL : LinkX K X.mg W xw) (hr : Room k X.A) (hG : X.A.guards = some []) (hm : X.mg x = some (.ref f)) (hk : PySem.W.keepIn X.K (.ref f) = true) (hb : Binds X.K fd ps [])
    (ha : DA K (X.tr pn xe) (e :: es) t fa) (hK : X.K = K := by rfl) (hg : Gl X x := by rfl) (hdb : (x == ("__debug__" : Str)) = false := by decide) (he : starEach (e :: es) X.env = (false, eval e X.env) :: starEach es X.env := by rfl) (hpl : (backTo pos (starEach es X.env)).any (·.1) = false := by rfl) :
    DE K (X.tr pn xe) (.Call (.Name x p) (e :: es) [] pos) (tCallX (SpX X.K X.mg g) W t) (fCallX xw g fa) := by
  obtain ⟨K, stK⟩ := K
  replace hK : X.K = K := hK
  subst hK
  exact e_callX (X := X.tr pn xe) (K := ⟨X.K, stK⟩) F tk hL hr hG hm hk hb ha rfl hg hdb he hpl
theorem e_callT0 (F : FnX X.prog X.w X.K X.mg X.base k f fd ps g) (tk : Takes (X.tr pn xe) W) (hL : LinkX K X.mg W xw) (hr : Room k X.A) (hG : X.A.guards = some []) (hm : X.mg x = some (.ref f)) (hk : PySem.W.keepIn X.K (.ref f) = true) (hb : Binds X.K fd ps [])
    (hK : X.K = K := by rfl) (hg : Gl X x := by rfl) (hdb : (x == ("__debug__" : Str)) = false := by decide) : DE K (X.tr pn xe) (.Call (.Name x p) [] [] pos) (tCallX (SpX X.K X.mg g) W tNil) (fCallX xw g aNil) := by
  obtain ⟨K, stK⟩ := K
  replace hK : X.K = K := hK
  subst hK
  exact e_callX0 (X := X.tr pn xe) (K := ⟨X.K, stK⟩) F tk hL hr hG hm hk hb rfl hg hdb
variable {kws : List Keyword} {tkw : TA} {ks : List Str} {fk : FA}
theorem e_callTK (n : Nat) (π : List Nat) (F : FnX X.prog X.w X.K X.mg X.base k f fd ps g) (tk : Takes (X.tr pn xe) W) (hL : LinkX K X.mg W xw) (hr : Room k X.A) (hG : X.A.guards = some []) (hm : X.mg x = some (.ref f)) (hk : PySem.W.keepIn X.K (.ref f) = true) (hb : KBd X.K fd ps ks n π)
    (ha : DA K (X.tr pn xe) (e :: es) t fa) (hkw : DK K (X.tr pn xe) kws tkw fk) (hK : X.K = K := by rfl) (hg : Gl X x := by rfl) (hall : (backToKw pos (keywordEach kws X.env)).all (·.1.isSome) = true := by rfl) (hks : (backToKw pos (keywordEach kws X.env)).filterMap (·.1) = ks := by rfl)
    (hdb : (x == ("__debug__" : Str)) = false := by decide) (he : starEach (e :: es) X.env = (false, eval e X.env) :: starEach es X.env := by rfl)
    (hpl : ((backTo pos (starEach (e :: es) X.env)).any (·.1) || (backToKw pos (keywordEach kws X.env)).any (·.1.isNone)) = false := by rfl) :
    DE K (X.tr pn xe) (.Call (.Name x p) (e :: es) kws pos) (tCallXK (SpX X.K X.mg g) W n ks.length π t tkw) (fLKX xw g n ks.length π fa fk) := by
  obtain ⟨K, stK⟩ := K
  replace hK : X.K = K := hK
  subst hK
  exact e_callXK (X := X.tr pn xe) (K := ⟨X.K, stK⟩) n π F tk hL hr hG hm hk hb ha hkw rfl hg hall hks hdb he hpl
theorem e_callTK0 (π : List Nat) (F : FnX X.prog X.w X.K X.mg X.base k f fd ps g) (tk : Takes (X.tr pn xe) W) (hL : LinkX K X.mg W xw) (hr : Room k X.A) (hG : X.A.guards = some []) (hm : X.mg x = some (.ref f)) (hk : PySem.W.keepIn X.K (.ref f) = true) (hb : KBd X.K fd ps ks 0 π)
    (hkw : DK K (X.tr pn xe) kws tkw fk) (hK : X.K = K := by rfl) (hg : Gl X x := by rfl) (hall : (backToKw pos (keywordEach kws X.env)).all (·.1.isSome) = true := by rfl) (hks : (backToKw pos (keywordEach kws X.env)).filterMap (·.1) = ks := by rfl)
    (hdb : (x == ("__debug__" : Str)) = false := by decide) (hpl : ((backTo pos (starEach [] X.env)).any (·.1) || (backToKw pos (keywordEach kws X.env)).any (·.1.isNone)) = false := by rfl) :
    DE K (X.tr pn xe) (.Call (.Name x p) [] kws pos) (tCallXK (SpX X.K X.mg g) W 0 ks.length π tNil tkw) (fLKX xw g 0 ks.length π aNil fk) := by
  obtain ⟨K, stK⟩ := K
  replace hK : X.K = K := hK
  subst hK
  exact e_callXK0 (X := X.tr pn xe) (K := ⟨X.K, stK⟩) π F tk hL hr hG hm hk hb hkw rfl hg hall hks hdb hpl
end
theorem takes0 {X : Cx} : Takes X (fun _ _ _ _ => False) := fun u s' ⟨_, _, _, _, _, _, _, _, _, _, _, _, _, _, _, _, z⟩ => z.elim
/-- an exception that is caught -/
theorem tryX_yes {tab : List (Str × Bool)} {i : Nat} {f : Addr → Option Addr → List (Str × D) → FE} {xw : En → Xd → Prop} {E : DEn} {ρ : En} {x : Xd} (h : tab.lookup x.name = some true) (hi : i < ρ.length) (q : ∀ a d, f a d x.fs (ρ.set i (.ex a d x.fs)) E.rt) : tryX tab i f xw E ρ x := by
  unfold tryX
  rw [h]
  exact ⟨hi, q⟩
theorem tryX_no {tab : List (Str × Bool)} {i : Nat} {f : Addr → Option Addr → List (Str × D) → FE} {xw : En → Xd → Prop} {E : DEn} {ρ : En} {x : Xd} (h : tab.lookup x.name = some false) (q : xw ρ x) : tryX tab i f xw E ρ x := by
  unfold tryX
  rw [h]
  exact q
end Pl

namespace Pl
open PySem PySem.Spec PyProof.Rows L2

/-! ### s.rfind(letter) -/
theorem rfind1_S (x : List Nat) (c : Nat) : Txt.rfind (S x) (S [c]) = plI (rfindC x c x.length) := by
  have h := rfind4_S x c x.length
  have e : Txt.rfind (S x) (S [c]) = Txt.rfindIn (S x) (S [c]) 0 (x.length : Int) := by
    unfold Txt.rfind Txt.rfindIn
    have e1 : fromIndex (S x).length (0 : Int) = 0 := by unfold fromIndex; rw [if_neg (by omega)]; rfl
    have e2 : toIndexW (S x).length (x.length : Int) = (S x).length := by unfold toIndexW; rw [if_neg (by omega), S_len]; omega
    rw [e1, e2]
    cases Builtin.Str.lastOccurrence (S x) (S [c]) 0 (S x).length <;> rfl
  rw [e, h]
  unfold plI
  cases rfindC x c x.length <;> rfl
def gSRFind1 : FM := fun o ds Q => match o, ds with
  | .str x, [.str y] => ∃ c, y = [c] ∧ Q (.int (plI (rfindC x c x.length)))
  | _, _ => False
theorem mo_gSRFind1 : MoM gSRFind1 := fun o a Q Q' h q => by
  unfold gSRFind1 at q ⊢
  split at q
  · obtain ⟨c, e, q⟩ := q
    exact ⟨c, e, h _ q⟩
  · exact q
def rSRFind1 : V → List V → Hp → VK → Prop := fun x xs H Q => ∃ a b, x = .str a ∧ xs = [.str b] ∧ Q (.int (Txt.rfind a b)) H
theorem m_srfind1 {K : Fg0} {X : Cx} : MR K X "str.rfind" rSRFind1 gSRFind1 := by
  refine ⟨mt_rfind, fun M m H x vs d ds Q h i ii q => ?_, mo_gSRFind1⟩
  unfold gSRFind1 at q
  split at q
  · rename_i x y
    obtain ⟨c, rfl, q⟩ := q
    obtain ⟨w, rfl, j⟩ := ii.one
    refine ⟨_, _, i.str.1, by rw [j.str.1], ?_⟩
    rw [rfind1_S]
    exact Wn.int h q
  · exact q.elim
end Pl

namespace Pl
open PySem PySem.Spec PyProof.Rows L2
/-! words: all steps, exceptions and dicts too -/
end Pl

namespace Pl
open PySem PySem.Spec PyProof.Rows L2

/-! ### math.gcd -/
def gGcd : FL := fun ds Q => match ds with
  | [.int a, .int b] => Q (.int (Nat.gcd a.natAbs b.natAbs : Nat))
  | _ => False
theorem mo_gGcd : MoL gGcd := fun a Q Q' h q => by
  unfold gGcd at q ⊢
  split at q <;> first | exact h _ q | exact q
theorem b_gcd {K : Fg0} {X : Cx} : BR K X (.builtin "math.gcd") rGcd gGcd := by
  refine ⟨cr_gcd, fun M m H vs ds Q h ii q => ?_, mo_gGcd⟩
  unfold gGcd at q
  split at q
  · obtain ⟨v, w, rfl, i, j⟩ := ii.two
    exact ⟨_, _, by rw [i.int, j.int], Wn.int h q⟩
  · exact q.elim
section
variable {K : Fg} {X : Cx} {x : Str} {p pos : Pos} {e : Expr} {es : List Expr} {t : TA} {fa : FA} {id : String} {r : List V → Hp → VK → Prop} {g : FL}
/-- f(e, ..), f a module's name for a built-in function -/
theorem e_bf (b : BR K X (.builtin id) r g) (hm : X.mg x = some (.builtin id)) (ha : DAT K X (e :: es) t fa) (hg : Gl X x := by rfl) (hdb : (x == ("__debug__" : Str)) = false := by decide)
    (he : starEach (e :: es) X.env = (false, eval e X.env) :: starEach es X.env := by rfl) (hpl : (backTo pos (starEach es X.env)).any (·.1) = false := by rfl) : DE K X (.Call (.Name x p) (e :: es) [] pos) (tCB r t) (fL g fa) :=
  ⟨pe_callBfun b.cr hg hm ha.pa hdb he hpl, rd_fL b.rd b.mo ha.rd ha.mo, mo_fL b.mo ha.mo⟩
end

/-! ### (a, b) = a list of two -/
def gLst (K : Fg0) (n : Nat) (t : TGs) : TG := fun v σ H Q => ∃ a xs, v = .ref a ∧ SqL K H a xs ∧ xs.length = n ∧ t xs σ H Q
section
variable {K : Fg} {X : Cx} {pos : Pos} {es : List Expr} {u : TGs} {g : FGs} {n k : Nat} {s1 : List Nat}
theorem pg_lst (hc : X.calm = true) (h : PGs X es u) (hn : (assignEach es X.env).length = n) (hst : (assignEach es X.env).findIdx? (·.1) = none) : PG X (.Tuple es k pos) (gLst X.K n u) := by
  refine ⟨fun pins s σ H v w Q I r hw => ?_⟩
  obtain ⟨a, xs, rfl, hq, hl, hw⟩ := hw
  cases r
  obtain ⟨its, rv, hlist, hz⟩ := I.list hq
  have e : n = its.toArray.size := by rw [List.size_toArray, ← rv.length, hl]
  rw [assign_Tuple]
  refine wpAny_bind (wpAny_standAt ?_)
  unfold unpack
  rw [hn, hst, e]
  refine wpAny_bind (wpAny_holding (PySem.W.kun_itemsOf (I.ok.hd hc) hlist.isList fun h2 hx => ?_))
  have I1 : Inv X pins σ H { s with heap := h2 } := I.kept (t' := s.toks) fun b o eb => hx b o (Nat.ne_of_lt (Heap.lt_size eb)) eb
  exact h.run pins _ σ H xs _ Q I1 (by simpa using rv) hw
def gLstD (n : Nat) (g : FGs) : FG := fun d ρ Q => match d with
  | .lst ds => ds.length = n ∧ g ds ρ Q
  | _ => False
theorem g_lst (h : DGs K X es s1 u g) (hc : X.calm = true := by rfl) (hn : (assignEach es X.env).length = n := by rfl) (hst : (assignEach es X.env).findIdx? (·.1) = none := by rfl) (hK : X.K = K := by rfl) : DG K X (.Tuple es k pos) s1 (gLst K n u) (gLstD n g) := by
  obtain ⟨K, stK⟩ := K
  replace hK : X.K = K := hK
  subst hK
  refine ⟨pg_lst hc h.pg hn hst, fun M H0 z m H σ ρ v d Q I i q => ?_, fun d ρ Q Q' k q => ?_⟩
  · cases i with
    | lst r a _ => exact ⟨_, _, rfl, .inl (.of (hid_all _ _ r)), by rw [a.length]; exact q.1, h.rd M H0 z m H σ ρ _ _ _ I a q.2⟩
    | _ => exact q.elim
  · cases d with
    | lst ds => exact ⟨q.1, h.mo _ _ _ _ k q.2⟩
    | _ => exact q
end
end Pl

namespace Pl
open PySem PySem.Spec PyProof.Rows L2
/-! words: all steps, exceptions and dicts too -/
end Pl

namespace Pl
open PySem PySem.Spec PyProof.Rows L2 PySem.Froz

/-! ### sorted(set(texts)), len(set(texts)) -/
section
variable {P : Program} {w : World} {A : Around} {E : Value → Shared → Prop} {s : Shared}
/-- a set's payload that may be walked -/
def Led (w : World) (t : SetTable) : Prop := Ris t.place.toList ∧ (w.params.followText "set-order" = true ∨ t.led = true)
theorem led_tail {ep : Nat} {es1 : Array (Int × Value)} {t2 : SetTable} {b : Bool} (h : Led w t2) : Led w (tailTx ep es1 t2 b).2.2 := by
  unfold tailTx
  split
  · exact ⟨relayAll_ris _ _ _, h.2.imp id fun z => by rw [relayAll_led]; exact z⟩
  · exact h
theorem led_add {h : Int} {v : Value} {D : SD} (L : Led w D.2.2) : Led w (addTx h v D).2.2 := by
  unfold addTx
  refine led_tail ?_
  have h1 := layNew_ris D.2.2 D.1 h v L.1
  have h2 : w.params.followText "set-order" = true ∨ (layNew D.2.2 D.1 h v).2.1.led = true := L.2.imp id fun z => by rw [layNew_led]; exact z
  split
  · exact ⟨h1, h2⟩
  · exact ⟨h1, h2⟩
/-- a set of the texts l, each once -/
def TxS (P : Program) (w : World) (h : Heap) (a : Addr) (l : List Str) : Prop := ∃ D : SD, h.get? a = some (sObj "set" D) ∧ TxOk P w D l ∧ Led w D.2.2 ∧ l.Nodup
theorem TxS.at {h h' : Heap} {a : Addr} {l : List Str} (T : TxS P w h a l) (k : ∀ o, h.get? a = some o → h'.get? a = some o) : TxS P w h' a l := by
  obtain ⟨D, ho, r⟩ := T
  exact ⟨D, k _ ho, r⟩
theorem txs_fresh {h : Heap} {a : Addr} (ho : h.get? a = some { cls := .type "set", dict := none, data := .set #[] 0 (.fresh 0 0 (!w.params.followText "set-order")) }) : TxS P w h a [] :=
  ⟨(#[], 0, .fresh 0 0 (!w.params.followText "set-order")), ho, TxOk.nil (by rfl), ⟨List.Pairwise.nil, by
    show _ ∨ (!w.params.followText "set-order") = true
    cases w.params.followText "set-order"
    · exact .inr rfl
    · exact .inl rfl⟩, .nil⟩
/-- a text that the set has is not laid again -/
theorem add_has {a : Addr} {T : String} {D : SD} {l : List Str} {k : Str} {u : Tok} {Q : Bool → Shared → Prop} (ho : s.heap.get? a = some (sObj T D)) (F : TxOk P w D l) (hk : k ∈ l) (hb : l.length < scanBound)
    (h : Q false s) : wpAny (model P w) A (setAddHashed a (.str k u) (hashStr w k)) Q E s := by
  obtain ⟨es, ep, t⟩ := D
  have hd : (sObj T (es, ep, t)).data = .set es ep t := rfl
  have hf : t.fits es.size = true := F.fit
  have hel : ElemsOf (strKind P w) es.toList := F.el
  have hsz : es.size = l.length := F.sz
  have hkey : (strKind P w).is k (.str k u) = true := is_str k u
  unfold setAddHashed setAddHashedIn
  refine wpAny_holding (wpAny_bind (wpAny_setState_of ho hd hf ?_))
  dsimp only
  rw [byScan_of rfl (by omega) hel]
  simp only [↓reduceIte]
  unfold setAddByScan
  refine wpAny_bind ?_
  refine wpAny_bind (wpAny_rule ?_)
  refine wpAny_bind (wpAny_setScan_of (knd := strKind P w) (k := k) hkey ho hd hf hel ?_)
  cases hr : List.findIdx? (fun e => (strKind P w).is k e.2) es.toList with
  | some j =>
    dsimp only
    exact wpAny_pure (wpAny_pure h)
  | none =>
    obtain ⟨e, he, q⟩ := (F.mem k).mp hk
    have c := List.findIdx?_eq_none_iff.mp hr e he
    rw [q] at c
    cases c
theorem txs_add {a : Addr} {l : List Str} {k : Str} {u : Tok} {Q : Bool → Shared → Prop} (T : TxS P w s.heap a l) (hb : l.length + 1 < scanBound)
    (h : ∀ b h', Heap.SameBut a s.heap h' → ∀ l', TxS P w h' a l' → (∀ x, x ∈ l' ↔ x = k ∨ x ∈ l) → l'.length ≤ l.length + 1 → Q b { s with heap := h' }) : wpAny (model P w) A (setAddHashed a (.str k u) (hashStr w k)) Q E s := by
  obtain ⟨D, ho, F, L, n⟩ := T
  by_cases hk : k ∈ l
  · refine add_has ho F hk (by omega) ?_
    exact h false s.heap (Heap.SameBut.refl a s.heap) l ⟨D, ho, F, L, n⟩ (fun x => ⟨.inr, fun z => z.elim (fun e => by rw [e]; exact hk) id⟩) (Nat.le_succ _)
  · refine add_x ho F hk hb ?_
    exact h true _ (Heap.SameBut.update s.heap a _) (k :: l) ⟨addTx (hashStr w k) (.str k u) D, get_upd _ ho rfl, add_ok u F, led_add L, List.nodup_cons.mpr ⟨hk, n⟩⟩ (fun x => List.mem_cons) (Nat.le_refl _)
/-- set.update's loop -/
theorem set_update_txs {I : Addr} {fp wr : List Addr} {G : Array GenState → Array GenState → Prop} {n : Nat} {Pv : Nat → Value → Prop} {St : Nat → Shared → Prop} {R : Result → Shared → Prop}
    (W : WalksS P w A.in1 I fp wr G n Pv St) (S : Addr) (hSf : S ∉ fp) (ns : List Str) (hn : n = ns.length) (hb : ns.length + 1 < scanBound) (hval : ∀ i v, Pv i v → ∃ k t, ns[i]? = some k ∧ v = .str k t) :
    ∀ (k i : Nat) (s : Shared), n - i = k → i ≤ n → St i s → (∃ l, TxS P w s.heap S l ∧ l.length ≤ i ∧ ∀ x, x ∈ l ↔ x ∈ ns.take i) →
      (∀ s' l, Moved (S :: wr) G s s' → TxS P w s'.heap S l → (∀ x, x ∈ l ↔ x ∈ ns) → R (.ok (.ret .none)) s') →
      codeAny (model P w) A (.builtin "set.update.loop" ⟨[.ref S, .ref I], []⟩) R s := by
  have hSw : S ∉ wr := fun h => hSf (W.sub _ h)
  have hsub : ∀ b ∈ wr, b ∈ S :: wr := fun b hb => List.mem_cons_of_mem _ hb
  intro k
  induction k with
  | zero =>
    intro i s hk' hi hst ⟨l, hS, hc, hm0⟩ hR
    obtain rfl : i = n := by omega
    refine codeAny_builtin F.entry_set_update_loop ?_
    rw [Around.under_plainId F.plain_set_update_loop _]
    show wpAny _ A.in1 (pyNext (.ref I) >>= _) _ _ s
    refine wpAny_bind (W.done s _ _ hst fun s' hm => ?_)
    show wpAny _ A.in1 (ret Value.none) _ _ s'
    rw [List.take_of_length_le (by omega)] at hm0
    exact wpAny_pure (hR s' l (hm.mono hsub) (hS.at fun o e => hm.heap S o hSw e) hm0)
  | succ k ih =>
    intro i s hk' hi hst ⟨l, hS, hc, hm0⟩ hR
    have hlt : i < n := by omega
    refine codeAny_builtin F.entry_set_update_loop ?_
    rw [Around.under_plainId F.plain_set_update_loop _]
    show wpAny _ A.in1 (pyNext (.ref I) >>= _) _ _ s
    refine wpAny_bind (W.item i s _ _ hlt hst fun v s' hP hst' hm => ?_)
    obtain ⟨z, t, hz, rfl⟩ := hval i v hP
    have hS' : TxS P w s'.heap S l := hS.at fun o e => hm.heap S o hSw e
    show wpAny _ A.in1 (holding [Value.str z t] (setAdd S (.str z t)) >>= _) _ _ s'
    refine wpAny_bind (wpAny_holding ?_)
    unfold setAdd
    refine wpAny_holding ?_
    refine wpAny_bind ((strKind P w).pyHash (k := z) (is_str z t) ?_)
    refine txs_add (s := { s' with toks := s'.toks + 1 }) hS' (by omega) fun b h' hsb l' hS2 hm2 hl2 => ?_
    refine wpAny_pure ⟨plainId_quiet F.plain_set_update_loop _, ih (i + 1) _ (by omega) hlt (W.frame _ s' _ _ hst' (Nat.le_succ _) fun b hb o e => ?_) ⟨l', hS2, by omega, fun x => ?_⟩ fun s'' l2 hm'' hS'' hx'' => ?_⟩
    · rw [hsb.2 b (fun h : b = S => hSf (by rw [← h]; exact hb))]; exact e
    · rw [hm2, hm0, List.take_add_one, hz]
      simp [List.mem_append, or_comm]
    · refine hR s'' l2 (Moved.trans W.gtrans ((hm.mono hsub).then_heap (Nat.le_succ _) fun b o hb e => ?_) hm'') hS'' hx''
      rw [hsb.2 b (fun h : b = S => hb (by rw [h]; exact List.mem_cons_self))]; exact e
/-- the values are the texts ns -/
def TxsAre (vs : List Value) (ns : List Str) : Prop := ∃ ts : List (Str × Tok), vs = ts.map (fun p => Value.str p.1 p.2) ∧ ns = ts.map (·.1)
set_option maxRecDepth 100000 in
set_option maxHeartbeats 3200000 in
/-- set(xs), xs a list of texts -/
theorem call_set_txs {l : Addr} {items : Array Value} (ns : List Str) {Q : Value → Shared → Prop} (hh : A.handled = none) (hl : s.heap.IsList l items) (hit : TxsAre items.toList ns) (hb : ns.length + 1 < scanBound)
    (h : ∀ (h' : Heap) (tk : Nat) (L : List Str), TxS P w h' s.heap.objs.size L → (∀ x, x ∈ L ↔ x ∈ ns) → (∀ b o, s.heap.get? b = some o → h'.get? b = some o) → Q (.ref s.heap.objs.size) { s with heap := h', toks := tk }) :
    wpAny (model P w) A (call (.type "set") [.ref l]) Q E s := by
  obtain ⟨ts, hts, rfl⟩ := hit
  have hisz : items.size = (ts.map (·.1)).length := by
    have q := congrArg List.length hts
    rw [Array.length_toList, List.length_map] at q
    rw [List.length_map]
    exact q
  obtain ⟨c, tl, hmro⟩ := F.called_set.mro
  have hmade := F.called_set.made
  have hsub := F.called_set.sub
  refine wpAny_call (codeAny_of_tree ?_)
  show wpAny _ _ (callAny (.type "set") _) _ _ _
  refine wpAny_pure ⟨Code.quiet_builtin _ (by decide +kernel), codeAny_builtin F.entry_type_call ?_⟩
  rw [Around.under_plain (weight_type_call_type "set" [.ref l] []) rfl]
  have h1 := F.called_set.notType
  have h2 := F.called_set.canCreate
  have hct := F.typeCall_set_1 (.ref l)
  repeat (any_goals (first | assumption | wp_step))
  refine codeAny_mono (code_set_led1 (.ref l) (E := E) (Q₁ := fun obj s₁ => obj = .ref s.heap.objs.size ∧ s₁ = { s with heap := s.heap.push { cls := .type "set", dict := none, data := .set #[] 0 (.fresh 0 0 (!w.params.followText "set-order")) } }) ⟨rfl, rfl⟩) fun r s₁ hr => ?_
  cases r with
  | error e => exact hr
  | ok fl =>
    cases fl with
    | ret obj =>
      obtain ⟨rfl, rfl⟩ := hr
      have hS : (s.heap.push { cls := .type "set", dict := none, data := .set #[] 0 (.fresh 0 0 (!w.params.followText "set-order")) }).get? s.heap.objs.size = some { cls := .type "set", dict := none, data := .set #[] 0 (.fresh 0 0 (!w.params.followText "set-order")) } := Heap.get?_push_size _ rfl
      have hT : Shared.TypeIs { s with heap := s.heap.push { cls := .type "set", dict := none, data := .set #[] 0 (.fresh 0 0 (!w.params.followText "set-order")) } } (.ref s.heap.objs.size) "set" := ⟨_, hS, rfl⟩
      have hli := F.called_set.init.lookup
      have hbi := F.called_set.init.bind (.ref s.heap.objs.size)
      repeat (any_goals (first | assumption | wp_step))
      refine codeAny_mono (codeAny_call_builtin (R := wants (fun r s₂ => r = .none ∧ ∃ h' tk L, s₂ = { s with heap := h', toks := tk } ∧ TxS P w h' s.heap.objs.size L ∧ (∀ x, x ∈ L ↔ x ∈ ts.map (·.1)) ∧
          (∀ b o, s.heap.get? b = some o → h'.get? b = some o)) E) F.called_set.init.plain F.entry_set_init (check_set_init_1 hT ?_)) fun r₂ s₂ hr₂ => ?_
      · obtain ⟨ol, hol, hcl, nl, hdl⟩ := hl
        obtain ⟨ocls, odict, odata, oslots⟩ := ol
        simp only at hcl hdl
        subst hcl; subst hdl
        have hol' : (s.heap.push { cls := .type "set", dict := none, data := .set #[] 0 (.fresh 0 0 (!w.params.followText "set-order")) }).get? l = some { cls := .type "list", dict := odict, data := .seq items nl, slots := oslots } := Heap.get?_push_of_some _ hol
        have hsls := F.sub_list_set
        have hslf := F.sub_list_frozenset
        have hne : (Value.type "list" == Value.type "dict") = false := by decide
        have hl1 : (s.heap.push { cls := .type "set", dict := none, data := .set #[] 0 (.fresh 0 0 (!w.params.followText "set-order")) }).IsList l items := ⟨_, hol', rfl, nl, rfl⟩
        unfold Builtin.«set.__init__» noKeywords Builtin.Frozenset.updateFrom
        generalize hPI : pyIter = PI
        wp_walk
        subst hPI
        refine wpAny_pyIter_list hl1 ?_
        refine wpAny_bind (wpAny_runValue ?_)
        have hlS : l < s.heap.objs.size := Heap.lt_size hol
        have hh3 : A.in1.in1.in1.handled = none := by simp [hh]
        have hneI : l ≠ (s.heap.push { cls := .type "set", dict := none, data := .set #[] 0 (.fresh 0 0 (!w.params.followText "set-order")) }).objs.size := by
          rw [Heap.size_push]; exact Nat.ne_of_lt (Nat.lt_succ_of_lt hlS)
        have hSf : s.heap.objs.size ∉ [(s.heap.push { cls := .type "set", dict := none, data := .set #[] 0 (.fresh 0 0 (!w.params.followText "set-order")) }).objs.size, l] := by
          rw [Heap.size_push]; simp only [List.mem_cons, List.mem_singleton, List.not_mem_nil, or_false, not_or]
          exact ⟨Nat.ne_of_lt (Nat.lt_succ_self _), Nat.ne_of_gt hlS⟩
        have hval : ∀ (i : Nat) (v : Value), items[i]? = some v → ∃ k t, (ts.map (·.1))[i]? = some k ∧ v = .str k t := fun i v hv => by
          have q : items.toList[i]? = some v := by rw [Array.getElem?_toList]; exact hv
          rw [hts, List.getElem?_map] at q
          rw [List.getElem?_map]
          cases hq : ts[i]? with
          | none => rw [hq] at q; cases q
          | some p =>
            rw [hq] at q
            exact ⟨p.1, p.2, rfl, (Option.some.inj q).symm⟩
        refine set_update_txs ((Walks.list hh3 _ l hneI items).toS) s.heap.objs.size
          hSf (ts.map (·.1)) hisz hb hval (items.size - 0) 0 _ (by omega) (Nat.zero_le _)
          ⟨⟨_, Heap.get?_push_size _ rfl, rfl, rfl⟩, (hl1.push _)⟩ ?hS0 ?hR
        case hS0 =>
          have hget : ((s.heap.push { cls := .type "set", dict := none, data := .set #[] 0 (.fresh 0 0 (!w.params.followText "set-order")) }).push { cls := .type "list_iterator", data := .fields #[.ref l, .int 0 0] }).get? s.heap.objs.size
              = some { cls := .type "set", dict := none, data := .set #[] 0 (.fresh 0 0 (!w.params.followText "set-order")) } := Heap.get?_push_of_some _ hS
          exact ⟨[], txs_fresh hget, Nat.le_refl 0, fun x => by simp⟩
        case hR =>
          intro s' L hm hS' hx
          obtain ⟨h', g2, d', tk', os'⟩ := s'
          have eg : g2 = s.gens := hm.gens
          have ed : d' = s.drawn := hm.drawn
          have eo : os' = s.os := hm.os
          subst eg; subst ed; subst eo
          show wpAny _ _ _ _ _ _
          refine wpAny_pure ?_
          show wpAny _ _ (ret Value.none) _ _ _
          refine wpAny_pure ⟨rfl, h', tk', L, rfl, hS', hx, fun b o e => ?_⟩
          have hb0 : b < s.heap.objs.size := Heap.lt_size e
          have hb1 : b ≠ s.heap.objs.size := Nat.ne_of_lt hb0
          have hb2 : b ≠ (s.heap.push { cls := .type "set", dict := none, data := .set #[] 0 (.fresh 0 0 (!w.params.followText "set-order")) }).objs.size := by
            rw [Heap.size_push]; exact Nat.ne_of_lt (Nat.lt_succ_of_lt hb0)
          exact hm.heap b o (by simp only [List.mem_cons, List.mem_singleton, List.not_mem_nil, or_false, not_or]; exact ⟨hb1, hb2⟩) (Heap.get?_push_of_some _ (Heap.get?_push_of_some _ e))
      · cases r₂ with
        | error e => exact hr₂
        | ok fl₂ =>
          cases fl₂ with
          | ret r =>
            obtain ⟨rfl, h', tk, L, rfl, hS', hx, hk'⟩ := hr₂
            repeat (any_goals (first | assumption | wp_step))
            exact h _ _ _ hS' hx hk'
          | _ => exact hr₂.elim
    | _ => exact hr.elim
end
end Pl

namespace Pl
open PySem PySem.Spec PyProof.Rows L2 PySem.Froz
open PySem.W (EachIs AllAlike Sortable dataLe)

/-! ### sorted(set(texts)) -/
section
variable {P : Program} {w : World} {A : Around} {E : Value → Shared → Prop} {s : Shared}
theorem isStr_of {k : Str} {v : Value} (h : (strKind P w).is k v = true) : ∃ t, v = .str k t := by
  have h : Value.isStrOf k v = true := h
  unfold Value.isStrOf at h
  split at h
  · have e := eq_of_beq h
    subst e
    exact ⟨_, rfl⟩
  · cases h
theorem perm_sub {α : Type} : ∀ {l ks : List α}, l.Nodup → ks.length = l.length → (∀ x ∈ l, x ∈ ks) → l.Perm ks
  | [], ks, _, hl, _ => by
    rw [List.length_eq_zero_iff.mp hl]
  | x :: l, ks, n, hl, h => by
    obtain ⟨n1, n2⟩ := List.nodup_cons.mp n
    obtain ⟨a, b, rfl⟩ := List.append_of_mem (h x List.mem_cons_self)
    rw [List.length_append, List.length_cons, List.length_cons] at hl
    have p := perm_sub (ks := a ++ b) n2 (by rw [List.length_append]; omega) fun y hy => by
      have hne : y ≠ x := fun e => n1 (by rw [← e]; exact hy)
      rcases List.mem_append.mp (h y (List.mem_cons_of_mem _ hy)) with z | z
      · exact List.mem_append_left _ z
      · rcases List.mem_cons.mp z with e | z
        · exact absurd e hne
        · exact List.mem_append_right _ z
    exact (p.cons x).trans List.perm_middle.symm
/-- the values of a set's payload are the texts, in some order -/
theorem txs_vals {D : SD} {l : List Str} (F : TxOk P w D l) (n : l.Nodup) {vs : List Value} (pm : vs.Perm (D.1.toList.map (·.2))) : ∃ ks : List Str, ks.Perm l ∧ EachIs (fun v (k : Str) => ∃ t, v = Value.str k t) vs ks := by
  have each : ∀ vs : List Value, (∀ v ∈ vs, ∃ k t, v = Value.str k t) → ∃ ks : List Str, EachIs (fun v (k : Str) => ∃ t, v = Value.str k t) vs ks := by
    intro vs
    induction vs with
    | nil => intro _; exact ⟨[], .nil⟩
    | cons v vs ih =>
      intro h
      obtain ⟨k, t, e⟩ := h v List.mem_cons_self
      obtain ⟨ks, q⟩ := ih fun u hu => h u (List.mem_cons_of_mem _ hu)
      exact ⟨k :: ks, .cons ⟨t, e⟩ q⟩
  obtain ⟨ks, q⟩ := each vs fun v hv => by
    obtain ⟨e, he, rfl⟩ := List.mem_map.mp (pm.mem_iff.mp hv)
    obtain ⟨⟨k, h1, _⟩, _⟩ := F.el e he
    obtain ⟨t, e⟩ := isStr_of h1
    exact ⟨k, t, e⟩
  have hl : ks.length = l.length := by
    rw [← each_len q, pm.length_eq, List.length_map, Array.length_toList]
    exact F.sz
  have memq : ∀ {vs : List Value} {ks : List Str}, EachIs (fun v (k : Str) => ∃ t, v = Value.str k t) vs ks → ∀ v ∈ vs, ∀ k t, v = Value.str k t → k ∈ ks := by
    intro vs ks q
    induction q with
    | nil => intro v hv; cases hv
    | cons h t ih =>
      intro v hv k u e
      rcases List.mem_cons.mp hv with z | z
      · obtain ⟨t, e2⟩ := h
        rw [z, e2] at e
        cases e
        exact List.mem_cons_self
      · exact List.mem_cons_of_mem _ (ih v z k u e)
  have sub : ∀ x ∈ l, x ∈ ks := fun x hx => by
    obtain ⟨e, he, z⟩ := (F.mem x).mp hx
    obtain ⟨t, e2⟩ := isStr_of z
    exact memq q e.2 (pm.mem_iff.mpr (List.mem_map.mpr ⟨e, he, rfl⟩)) x t e2
  refine ⟨ks, ?_, q⟩
  exact (perm_sub n (by omega) sub).symm
/-- sorted(set) -/
theorem sorted_txs {a : Addr} {l : List Str} {Q : Value → Shared → Prop} (T : TxS P w s.heap a l) (hh : A.handled = none) (hb : l.length < scanBound) (hu : A.units + 8 < cLine)
    (hQ : ∀ s' p (out : List Value) (c : Nat) (ks : List Str), (∀ b o, s.heap.get? b = some o → s'.heap.get? b = some o) → s'.gens = s.gens → s'.os = s.os → s.heap.objs.size ≤ p →
      s'.heap.get? p = some (seqObj "list" out.toArray c) → EachIs (fun v (k : Str) => ∃ t, v = Value.str k t) out (ks.mergeSort (dataLe false PyData.str)) → ks.Perm l → Q (.ref p) s') :
    wpAny (model P w) A (call (.builtin "sorted") [.ref a]) Q E s := by
  obtain ⟨D, ho, F, L, n⟩ := T
  have hsz : D.1.size = l.length := F.sz
  refine Calls.call_function_entry kind_sorted plain_sorted entry_sorted (args_sorted1 _) ?_
  unfold Builtin.«sorted»
  refine wpAny_bind (m := checkCount "sorted" 1 1 _) (wpAny_pure ?_)
  refine wpAny_bind (collect_set (A := A.in1) hh ⟨_, ho, rfl, rfl⟩ F.fit (by rw [hsz]; exact hb) L.1 L.2 fun s1 vs k1 hz g1 o1 pm => ?_)
  obtain ⟨ks, pk, q⟩ := txs_vals F n pm
  have hkl : ks.length < scanBound := by rw [pk.length_eq]; exact hb
  have hvl : vs.length = ks.length := each_len q
  have hsb : scanBound ≤ sizeLine := by decide
  refine wpAny_bind (wpAny_newList ?_ (by rw [hvl]; omega))
  have hoL : (s1.heap.push (seqObj "list" vs.toArray 0)).get? s1.heap.objs.size = some (seqObj "list" vs.toArray 0) := Heap.get?_push_size _ rfl
  refine wpAny_bind (wpAny_holding (PySem.W.list_sort_data (s := { s1 with heap := s1.heap.push (seqObj "list" vs.toArray 0) }) (R := fun v (k : Str) => ∃ t, v = Value.str k t) (enc := PyData.str) (bs := ks) hoL q (each_mono (fun v k h => by
    obtain ⟨t, rfl⟩ := h
    exact ⟨[], .str k t, fun z => nomatch z⟩) q) (AllAlike.of fun b b' => by simp [PySem.W.alike]) (Sortable.others fun b => ⟨(fun z => nomatch z), (fun xs z => nomatch z)⟩) (by omega) (fun b hb => by
      show A.in1.units + 1 + 0 < cLine
      have : A.in1.units = A.units + 1 := rfl
      omega) fun out hol ho2 => ?_))
  obtain ⟨c, hc⟩ := sortedHeap_at (vs := vs) (out := out.toArray) hoL
  refine wpAny_pure ⟨_, rfl, hQ _ s1.heap.objs.size out c ks (fun b u e => ?_) g1 o1 hz hc ho2 pk⟩
  have q := k1 b u e
  have hlt := Heap.lt_size q
  show (sortedHeap (s1.heap.push (seqObj "list" vs.toArray 0)) s1.heap.objs.size vs out.toArray).get? b = some u
  rw [sortedHeap_old (Nat.ne_of_lt hlt) (by rw [size_push']; exact Nat.lt_succ_of_lt hlt)]
  exact Heap.get?_push_of_some _ q
/-! the order -/
theorem srS_uniq {a b : List (List Nat)} (p : a.Perm b) : srS a = srS b := by
  have q : (srS a).Perm (srS b) := ((srS_perm a).trans p).trans (srS_perm b).symm
  exact List.Perm.eq_of_pairwise (le := (· ≤ ·)) (fun x y _ _ h1 h2 => List.le_antisymm h1 h2) (srS_sorted a) (srS_sorted b) q
theorem dd_perm {a b : List (List Nat)} (n : a.Nodup) (h : ∀ x, x ∈ a ↔ x ∈ b) : a.Perm (dd b) :=
  (List.perm_ext_iff_of_nodup n (nodup_dd b)).mpr fun x => (h x).trans mem_dd.symm
theorem map_back : ∀ ks : List Str, (ks.map fun k : Str => k.cps.toList).map S = ks
  | [] => rfl
  | k :: ks => by rw [List.map_cons, List.map_cons, map_back ks, S_of]
theorem srS_data (ns : List (List Nat)) : (ns.map S).mergeSort (dataLe false PyData.str) = (srS ns).map S :=
  (List.map_mergeSort (f := S) (fun x _ y _ => by
    have := congrFun (congrFun (PySem.W.dataLe_str (fun x : Str => x)) (S x)) (S y)
    rw [S_list, S_list] at this
    exact this.symm)).symm
theorem vals_strs : ∀ {ns : List (List Nat)} {us : List Value}, Vals ((ns.map S).map V.str) us → ∃ ts : List (Str × Tok), us = ts.map (fun p => Value.str p.1 p.2) ∧ ns.map S = ts.map (·.1)
  | [], _, .nil => ⟨[], rfl, rfl⟩
  | n :: ns, _, .cons r t => by
    obtain ⟨ts, e1, e2⟩ := vals_strs t
    obtain ⟨tk, rfl⟩ := r
    exact ⟨(S n, tk) :: ts, by rw [e1]; rfl, by rw [List.map_cons, e2]; rfl⟩
theorem vals_each : ∀ {ns : List (List Nat)} {us : List Value}, EachIs (fun v (k : Str) => ∃ t, v = Value.str k t) us (ns.map S) → Vals ((ns.map S).map V.str) us
  | [], _, .nil => .nil
  | n :: ns, _, .cons r t => .cons r (vals_each t)
theorem inv_new {X : Cx} {pins : List (Addr × Obj)} {σ : L2.St} {H : Hp} {s s' : Shared} {p : Addr} {o : HO} (I : Inv X pins σ H s) (k : ∀ b u, s.heap.get? b = some u → s'.heap.get? b = some u) (g : s'.gens = s.gens) (os : s'.os = s.os) (hp : s.heap.objs.size ≤ p)
    (new : ObjOk X.prog X.w (upd H p o) s'.heap p o) : Inv X pins σ (upd H p o) s' := by
  have hn : H p = none := I.hok.fresh hp
  have J : Inv X pins σ (upd H p o) { s with heap := s'.heap, gens := s'.gens, drawn := s'.drawn, toks := s'.toks } :=
    I.call (ch := []) (Un.laid k hp hn) (I.hok.laid k hp new) (by rw [g]; exact I.bare) (fun _ z => nomatch z)
  have e : s' = { s with heap := s'.heap, gens := s'.gens, drawn := s'.drawn, toks := s'.toks } := by
    cases s'
    cases s
    cases os
    rfl
  rw [e]
  exact J
def tSortSet (K : Fg0) (ta : TE) : TE := fun σ H Q => ta σ H fun x H1 => ∃ (l : Addr) (ns : List (List Nat)), x = V.ref l ∧ SqL K H1 l ((ns.map S).map V.str) ∧ ns.length + 1 < scanBound ∧
  ∀ p, H1 p = none → Q (.ref p) (upd H1 p (.lst (((srS (dd ns)).map S).map V.str)))
theorem pe_sortSet {X : Cx} {a : Expr} {ta : TE} {p p2 q pos : Pos} (hc : X.calm = true) (hu : X.A.units + 64 < cLine) (hg : Gl X "sorted") (hm : X.mg "sorted" = none) (hg2 : Gl X "set") (hm2 : X.mg "set" = none) (ha : PE X a ta)
    (na : starEach [a] X.env = (false, eval a X.env) :: starEach [] X.env := by rfl) : PE X (.Call (.Name "sorted" p) [.Call (.Name "set" p2) [a] [] q] [] pos) (tSortSet X.K ta) := by
  refine ⟨fun pins s σ H Q I h => ?_⟩
  refine Call_ (ld_blt I hg hm PyProof.Rows.boot_sorted ?_)
  refine PyProof.Rows.callWith_builtin1 (PyProof.Rows.args_cons ?_ rfl) rfl rfl
  refine Call_ (ld_blt I hg2 hm2 PyProof.Rows.boot_set ?_)
  refine PyProof.Rows.callWith_type1 (PyProof.Rows.args_cons (thn (ha.run pins s σ H _ I h) fun v s1 ⟨x, H1, I1, r1, q1⟩ => PyProof.Rows.args_nil ?_) na) na rfl
  obtain ⟨l, ns, rfl, hl, hf, q1⟩ := q1
  cases r1
  obtain ⟨its, rv, pl, hz⟩ := I1.list hl
  obtain ⟨ts, e1, e2⟩ := vals_strs rv
  refine call_set_txs (P := X.prog) (w := X.w) (ns.map S) (I1.ok.hd hc) pl.isList ⟨ts, by simpa using e1, e2⟩ (by rw [List.length_map]; exact hf) fun h' tk L T hx k => ?_
  refine PyProof.Rows.args_nil ?_
  have I2 : Inv X pins σ H1 { s1 with heap := h', toks := tk } := I1.kept fun b o e => k b o e
  have hLl : L.length ≤ ns.length := by
    obtain ⟨D, _, F, _, nd⟩ := T
    have hp := (List.perm_ext_iff_of_nodup (nd.map (f := fun k : Str => k.cps.toList) fun a b hne e => hne (by rw [← S_of a, ← S_of b, e])) (nodup_dd ns)).mpr fun x => by
      rw [mem_dd, List.mem_map]
      constructor
      · rintro ⟨k, hk, rfl⟩
        obtain ⟨n, hn, rfl⟩ := List.mem_map.mp ((hx k).mp hk)
        rw [S_list]; exact hn
      · intro hn
        exact ⟨S x, (hx _).mpr (List.mem_map_of_mem hn), S_list x⟩
    have h1 := hp.length_eq
    rw [List.length_map] at h1
    have h2 : ∀ xs : List (List Nat), (dd xs).length ≤ xs.length := fun xs => by
      induction xs with
      | nil => exact Nat.le_refl _
      | cons x xs ih =>
        unfold dd
        split
        · rw [List.length_cons]; omega
        · rw [List.length_cons, List.length_cons]; omega
    have := h2 ns
    omega
  refine sorted_txs (s := { s1 with heap := h', toks := tk }) T (I2.ok.hd hc) (by omega) (by omega) fun s' p out c ks k' g o hp hgt he pk => ?_
  have hn : H1 p = none := I2.hok.fresh hp
  have nd : L.Nodup := by obtain ⟨_, _, _, _, nd⟩ := T; exact nd
  have ekl : (ks.map fun k : Str => k.cps.toList).map S = ks := map_back ks
  have epm : (ks.map fun k : Str => k.cps.toList).Perm (dd ns) := by
    refine dd_perm ((pk.nodup_iff.mpr nd).map (f := fun k : Str => k.cps.toList) fun a b hne e => hne (by rw [← S_of a, ← S_of b, e])) fun x => ?_
    rw [List.mem_map]
    constructor
    · rintro ⟨k, hk, rfl⟩
      obtain ⟨n, hn, rfl⟩ := List.mem_map.mp ((hx k).mp (pk.mem_iff.mp hk))
      rw [S_list]; exact hn
    · intro hn
      exact ⟨S x, pk.mem_iff.mpr ((hx _).mpr (List.mem_map_of_mem hn)), S_list x⟩
  rw [← ekl, srS_data, srS_uniq epm] at he
  have hv := vals_each he
  have hlen : (((srS (dd ns)).map S).map V.str).length ≤ sizeLine := by
    rw [List.length_map, List.length_map, (srS_perm _).length_eq, ← epm.length_eq, List.length_map, pk.length_eq]
    have : scanBound ≤ sizeLine := by decide
    omega
  have J : Inv X pins σ (upd H1 p (.lst (((srS (dd ns)).map S).map V.str))) s' := inv_new I2 k' g o hp ⟨hlen, out, c, hv, hgt⟩
  exact ⟨.ref p, _, J, rfl, q1 p hn⟩
end
/-- sorted(set(x)) -/
def lSortSet (f : FE) : FA := fun ρ Q => f ρ fun x => ∃ ns : List (List Nat), x = .lst (ns.map D.str) ∧ ns.length ≤ 4000 ∧ Q ((srS (dd ns)).map D.str)
theorem l_sortSet {K : Fg} {X : Cx} {a : Expr} {ta : TE} {f : FE} {p p2 q pos : Pos} (hc : X.calm = true) (hu : X.A.units + 64 < cLine) (hm : X.mg "sorted" = none) (hm2 : X.mg "set" = none) (h : DT K X a ta f) (hK : X.K = K := by rfl) (hg : Gl X "sorted" := by rfl) (hg2 : Gl X "set" := by rfl)
    (na : starEach [a] X.env = (false, eval a X.env) :: starEach [] X.env := by rfl) : DF K X (.Call (.Name "sorted" p) [.Call (.Name "set" p2) [a] [] q] [] pos) (tSortSet K ta) (lSortSet f) := by
  obtain ⟨K, stK⟩ := K
  replace hK : X.K = K := hK
  subst hK
  refine ⟨pe_sortSet hc hu hg hm hg2 hm2 h.pe na, fun M H0 z m H σ ρ Q I q => ?_, fun ρ Q Q' k q => h.mo ρ _ _ (fun x ⟨ns, e1, h1, q⟩ => ⟨ns, e1, h1, k _ q⟩) q⟩
  refine h.rd M H0 z m H σ ρ _ I (h.mo ρ _ _ (fun x q v H1 s1 i1 => ?_) q)
  obtain ⟨ns, rfl, hl, q⟩ := q
  obtain ⟨l, vs, rfl, r, k, zl⟩ := i1.lst
  obtain ⟨rfl, hz⟩ := k.strs
  refine ⟨l, ns, rfl, .of r, by unfold scanBound; omega, fun p np => ?_⟩
  have h3 := I.hx.step s1
  have s3 : Stp M H1 (upd H1 p (.lst (((srS (dd ns)).map S).map V.str))) := .new h3.ok np
  have hz2 : ∀ n ∈ srS (dd ns), n.length ≤ sizeLine := fun n hn => hz n (mem_dd.mp ((srS_perm _).mem_iff.mp hn))
  refine q p _ _ (s1.trans s3) ?_ upd_same (IsA.ofStrs hz2) ?_
  · cases e : H p with
    | none => rfl
    | some o => exact absurd np (s1.there p (by rw [e]; exact fun q => nomatch q))
  · have h2 : ∀ xs : List (List Nat), (dd xs).length ≤ xs.length := fun xs => by
      induction xs with
      | nil => exact Nat.le_refl _
      | cons x xs ih =>
        unfold dd
        split
        · rw [List.length_cons]; omega
        · rw [List.length_cons, List.length_cons]; omega
    rw [List.length_map, (srS_perm _).length_eq, sizeLine_eq]
    have := h2 ns
    omega
end Pl

namespace Pl
open PySem PySem.Spec PyProof.Rows L2
open PySem.W (EachIs AllAlike Sortable dataLe)

/-! ### sorted(x), x a list or a text -/
theorem each_of {α β : Type} {R : α → β → Prop} : ∀ {as : List α} {bs : List β}, as.length = bs.length → (∀ (i : Nat) a, as[i]? = some a → ∃ b, bs[i]? = some b ∧ R a b) → EachIs R as bs
  | [], [], _, _ => .nil
  | [], _ :: _, h, _ => by cases h
  | _ :: _, [], h, _ => by cases h
  | a :: as, b :: bs, hl, h => by
    obtain ⟨b', e, r⟩ := h 0 a rfl
    have e : b = b' := Option.some.inj e
    rw [← e] at r
    exact .cons r (each_of (Nat.succ.inj hl) fun i a' e => h (i + 1) a' e)
theorem ok_get {P : Program} {w : World} {H : Hp} {h : Heap} {a : Addr} {o : HO} (x : ObjOk P w H h a o) : ∃ u, h.get? a = some u := by
  cases o with
  | lst xs => obtain ⟨_, _, _, _, e⟩ := x; exact ⟨_, e⟩
  | tup xs => obtain ⟨_, _, _, ob, e, _⟩ := x; exact ⟨_, e⟩
  | dK kvs => obtain ⟨_, _, _, _, o, _, _, e, _⟩ := x; exact ⟨_, e⟩
  | dT kvs => obtain ⟨_, _, _, _, o, _, _, e, _⟩ := x; exact ⟨_, e⟩
  | set S n => obtain ⟨o, _, _, _, e, _⟩ := x; exact ⟨_, e⟩
  | ins C dx fs => obtain ⟨_, _, _, e, _⟩ := x; exact ⟨_, e⟩
  | own y => obtain ⟨_, e⟩ := x; exact ⟨_, e⟩
  | xd fs => obtain ⟨_, ⟨_, _, _, e, _⟩, _⟩ := x; exact ⟨_, e⟩
  | rng lo hi => obtain ⟨_, _, _, e⟩ := x; exact ⟨_, e⟩
  | frz ob u => obtain ⟨e, _⟩ := x; exact ⟨_, e⟩
  | tbl ps => exact ⟨_, show h.get? a = some _ from x⟩
  | met f y => exact ⟨_, show h.get? a = some _ from x⟩
  | ext φ => obtain ⟨_, ⟨_, e⟩, _⟩ := x; exact ⟨_, e⟩
theorem new_none {X : Cx} {pins : List (Addr × Obj)} {σ : L2.St} {H : Hp} {s : Shared} {p : Addr} (I : Inv X pins σ H s) (hp : s.heap.get? p = none) : H p = none := by
  cases e : H p with
  | none => rfl
  | some o =>
    obtain ⟨u, q⟩ := ok_get (I.hok p o e)
    rw [hp] at q; cases q
theorem inv_newN {X : Cx} {pins : List (Addr × Obj)} {σ : L2.St} {H : Hp} {s s' : Shared} {p : Addr} {o : HO} (I : Inv X pins σ H s) (k : ∀ b u, s.heap.get? b = some u → s'.heap.get? b = some u) (g : s'.gens = s.gens) (os : s'.os = s.os) (hp : s.heap.get? p = none)
    (new : ObjOk X.prog X.w (upd H p o) s'.heap p o) : Inv X pins σ (upd H p o) s' := by
  have hn : H p = none := new_none I hp
  have J : Inv X pins σ (upd H p o) { s with heap := s'.heap, gens := s'.gens, drawn := s'.drawn, toks := s'.toks } :=
    I.call (ch := []) (Un.laidN k hp hn) (I.hok.laidN k hn new) (by rw [g]; exact I.bare) (fun _ z => nomatch z)
  have e : s' = { s with heap := s'.heap, gens := s'.gens, drawn := s'.drawn, toks := s'.toks } := by
    cases s'
    cases s
    cases os
    rfl
  rw [e]
  exact J
/-- sorted(text) -/
theorem sorted_text {P : Program} {w : World} {A : Around} {E : Value → Shared → Prop} {s : Shared} {x : List Nat} {t : Tok} {Q : Value → Shared → Prop} (hh : A.handled = none) (hz : x.length ≤ sizeLine) (hu : A.units + 8 < cLine)
    (hQ : ∀ s' p (out : List Value) (c : Nat), (∀ b o, s.heap.get? b = some o → s'.heap.get? b = some o) → s'.gens = s.gens → s'.os = s.os → s.heap.get? p = none →
      s'.heap.get? p = some (seqObj "list" out.toArray c) → EachIs (fun v (k : Str) => ∃ t, v = Value.str k t) out ((srS (x.map fun c => [c])).map S) → Q (.ref p) s') :
    wpAny (model P w) A (call (.builtin "sorted") [.str (S x) t]) Q E s := by
  have hS : (S x).cps.size = x.length := by simp [S]
  refine Calls.call_function_entry kind_sorted plain_sorted entry_sorted (args_sorted1 _) ?_
  unfold Builtin.«sorted»
  refine wpAny_bind (m := checkCount "sorted" 1 1 _) (wpAny_pure ?_)
  refine wpAny_bind (wpAny_collect_str (A := A.in1) hh (S x) t (fun s1 acc k1 g1 _ o1 it => ?_) (by rw [hS]; exact hz))
  have hal : acc.toList.length = x.length := by rw [Array.length_toList, it.1, hS]
  have q : EachIs (fun v (k : Str) => ∃ t, v = Value.str k t) acc.toList ((x.map fun c => [c]).map S) := by
    refine each_of (by rw [hal, List.length_map, List.length_map]) fun i v hv => ?_
    obtain ⟨c, u, hc, e⟩ := it.2 i v (by rw [← Array.getElem?_toList]; exact hv)
    have hc : x[i]? = some c := by
      rw [← Array.getElem?_toList, S_list] at hc
      exact hc
    exact ⟨S [c], by rw [List.getElem?_map, List.getElem?_map, hc]; rfl, u, e⟩
  have hn : s.heap.get? s1.heap.objs.size = none := by
    cases e : s.heap.get? s1.heap.objs.size with
    | none => rfl
    | some o => exact absurd (Heap.lt_size (k1 _ _ e)) (Nat.lt_irrefl _)
  refine wpAny_bind (wpAny_newList ?_ (by rw [hal]; exact hz))
  have hoL : (s1.heap.push (seqObj "list" acc.toList.toArray 0)).get? s1.heap.objs.size = some (seqObj "list" acc.toList.toArray 0) := Heap.get?_push_size _ rfl
  refine wpAny_bind (wpAny_holding (PySem.W.list_sort_data (s := { s1 with heap := s1.heap.push (seqObj "list" acc.toList.toArray 0) }) (R := fun v (k : Str) => ∃ t, v = Value.str k t) (enc := PyData.str) (bs := (x.map fun c => [c]).map S) hoL q (each_mono (fun v k h => by
    obtain ⟨t, rfl⟩ := h
    exact ⟨[], .str k t, fun z => nomatch z⟩) q) (AllAlike.of fun b b' => by simp [PySem.W.alike]) (Sortable.others fun b => ⟨(fun z => nomatch z), (fun xs z => nomatch z)⟩) (by rw [List.length_map, List.length_map]; exact hz) (fun b hb => by
      show A.in1.units + 1 + 0 < cLine
      have : A.in1.units = A.units + 1 := rfl
      omega) fun out hol ho2 => ?_))
  obtain ⟨c, hc⟩ := sortedHeap_at (vs := acc.toList) (out := out.toArray) hoL
  rw [srS_data] at ho2
  refine wpAny_pure ⟨_, rfl, hQ _ s1.heap.objs.size out c (fun b u e => ?_) g1 o1 hn hc ho2⟩
  have q := k1 b u e
  have hlt := Heap.lt_size q
  show (sortedHeap (s1.heap.push (seqObj "list" acc.toList.toArray 0)) s1.heap.objs.size acc.toList out.toArray).get? b = some u
  rw [sortedHeap_old (Nat.ne_of_lt hlt) (by rw [size_push']; exact Nat.lt_succ_of_lt hlt)]
  exact Heap.get?_push_of_some _ q
/-- sorted(x), x a list or a text -/
def rSortedX (K : Fg0) : List V → Hp → VK → Prop := fun vs H Q => rSortedD K vs H Q ∨ ∃ x : List Nat, vs = [.str (S x)] ∧ x.length ≤ sizeLine ∧ ∀ p, H p = none → Q (.ref p) (upd H p (.lst (((srS (x.map fun c => [c])).map S).map V.str)))
theorem cr_sortedX {X : Cx} (hc : X.A.handled = none) (hu : X.A.units + 64 < cLine) : CallR X (.builtin "sorted") (rSortedX X.K) := by
  intro pins s σ H vs us Q I r h
  rcases h with h | ⟨x, rfl, hz, q⟩
  · exact cr_sortedD hu pins s σ H vs us Q I r h
  · obtain ⟨u, rfl, t, rfl⟩ := vals1 r
    refine sorted_text hc hz (by omega) fun s' p out c k g o hp hgt he => ?_
    have hlen : (((srS (x.map fun c => [c])).map S).map V.str).length ≤ sizeLine := by
      rw [List.length_map, List.length_map, (srS_perm _).length_eq, List.length_map]; exact hz
    exact ⟨.ref p, upd H p (.lst (((srS (x.map fun c => [c])).map S).map V.str)), inv_newN (o := .lst (((srS (x.map fun c => [c])).map S).map V.str)) I k g o hp ⟨hlen, out, c, vals_each he, hgt⟩, rfl, q p (new_none I hp)⟩
def gSortedX : List D → (List D → Prop) → Prop := fun ds Q => match ds with
  | [.lst xs] => SrtOk xs ∧ Q (xs.mergeSort leD)
  | [.str x] => Q ((srS (x.map fun c => [c])).map D.str)
  | _ => False
theorem lr_sortedX {K : Fg0} {X : Cx} (hc : X.A.handled = none) (hu : X.A.units + 64 < cLine) (hK : X.K = K := by rfl) : LR K X (.builtin "sorted") (rSortedX K) gSortedX := by
  subst hK
  refine ⟨cr_sortedX hc hu, fun M m H vs ds Q h ii q => ?_, fun a Q Q' h q => ?_⟩
  · unfold gSortedX at q
    split at q
    · rename_i xs
      exact .inl ((lr_sorted (X := X) hu).rd M m H vs [.lst xs] Q h ii q)
    · rename_i x
      obtain ⟨v, rfl, i⟩ := ii.one
      obtain ⟨rfl, z⟩ := i.str
      refine .inr ⟨x, rfl, z, fun p np => q p _ np (IsA.ofStrs fun n hn => ?_) (by rw [List.length_map, (srS_perm _).length_eq, List.length_map]; exact z)⟩
      obtain ⟨c, hc, rfl⟩ := List.mem_map.mp ((srS_perm _).mem_iff.mp hn)
      show 1 ≤ sizeLine
      decide
    · exact q.elim
  · unfold gSortedX at q ⊢
    split at q
    · exact ⟨q.1, h _ q.2⟩
    · exact h _ q
    · exact q
end Pl

namespace Pl
open PySem PySem.Spec PyProof.Rows L2
/-! words: all steps, sets of texts too -/
end Pl

namespace Pl
open PySem PySem.Spec PyProof.Rows L2
open PySem.W (EachIs AllAlike Sortable dataLe)

/-! ### sorted(x), x a list, a tuple or a text -/
def rSortedY (K : Fg0) : List V → Hp → VK → Prop := fun vs H Q => rSortedT K false vs H Q ∨ ∃ x : List Nat, vs = [.str (S x)] ∧ x.length ≤ sizeLine ∧ ∀ p, H p = none → Q (.ref p) (upd H p (.lst (((srS (x.map fun c => [c])).map S).map V.str)))
theorem cr_sortedY {X : Cx} (hc : X.A.handled = none) (hu : X.A.units + 64 < cLine) : CallR X (.builtin "sorted") (rSortedY X.K) := by
  intro pins s σ H vs us Q I r h
  rcases h with h | h
  · exact cr_sortedT hu pins s σ H vs us Q I r h
  · exact cr_sortedX hc hu pins s σ H vs us Q I r (.inr h)
def gSortedY : List D → (List D → Prop) → Prop := fun ds Q => match ds with
  | [.lst xs] => SrtOk xs ∧ Q (xs.mergeSort leD)
  | [.tup xs] => SrtOk xs ∧ Q (xs.mergeSort leD)
  | [.str x] => Q ((srS (x.map fun c => [c])).map D.str)
  | _ => False
theorem lr_sortedY {K : Fg0} {X : Cx} (hc : X.A.handled = none) (hu : X.A.units + 64 < cLine) (hK : X.K = K := by rfl) : LR K X (.builtin "sorted") (rSortedY K) gSortedY := by
  subst hK
  refine ⟨cr_sortedY hc hu, fun M m H vs ds Q h ii q => ?_, fun a Q Q' h q => ?_⟩
  · unfold gSortedY at q
    split at q
    · rename_i xs
      exact .inl ((lr_sortedT (X := X) hu).rd M m H vs [.lst xs] Q h ii q)
    · rename_i xs
      exact .inl ((lr_sortedT (X := X) hu).rd M m H vs [.tup xs] Q h ii q)
    · rename_i x
      obtain ⟨v, rfl, i⟩ := ii.one
      obtain ⟨rfl, z⟩ := i.str
      refine .inr ⟨x, rfl, z, fun p np => q p _ np (IsA.ofStrs fun n hn => ?_) (by rw [List.length_map, (srS_perm _).length_eq, List.length_map]; exact z)⟩
      obtain ⟨c, hc, rfl⟩ := List.mem_map.mp ((srS_perm _).mem_iff.mp hn)
      show 1 ≤ sizeLine
      decide
    · exact q.elim
  · unfold gSortedY at q ⊢
    split at q
    · exact ⟨q.1, h _ q.2⟩
    · exact ⟨q.1, h _ q.2⟩
    · exact h _ q
    · exact q
end Pl

namespace Pl
open PySem PySem.Spec PyProof.Rows L2
/-! words: all steps, sets of texts too -/
end Pl

namespace Pl
open PySem PySem.Spec PyProof.Rows L2
open PySem.W (EachIs AllAlike Sortable dataLe KdlSrc)

/-! ### sorted(x), x a dict with text keys too -/
section
variable {P : Program} {w : World} {A : Around} {E : Value → Shared → Prop} {s : Shared}
theorem collect_kdl {T : String} {r d : Addr} {n : Nat} {R : Nat → Value → Prop} {OK : Heap → Prop} {Q : List Value → Shared → Prop} (K : KdlSrc P w T r d n R OK) (hh : A.handled = none) (hok : OK s.heap) (hn : n ≤ sizeLine)
    (hQ : ∀ h' tk acc, (∀ b o, s.heap.get? b = some o → h'.get? b = some o) → ItemsOf R acc n → Q acc.toList { s with heap := h', toks := tk }) :
    wpAny (model P w) A (collect (.ref r)) Q E s := by
  have hlt := K.there _ hok
  have key : ∀ R' : Result → Shared → Prop, (∀ h' tk acc' c', (∀ b o, b ≠ s.heap.objs.size → (s.heap.push { cls := .type "list", data := .seq ([] : List Value).toArray }).get? b = some o → h'.get? b = some o) → h'.get? s.heap.objs.size = some { cls := .type "list", dict := none, data := .seq acc' c', slots := #[] } → ItemsOf R acc' n → R' (.ok (.ret (.ref s.heap.objs.size))) { s with heap := h', toks := tk }) →
      codeAny (model P w) A (.builtin "list.__iadd__" ⟨[.ref s.heap.objs.size, .ref r], []⟩) R' { s with heap := s.heap.push { cls := .type "list", data := .seq ([] : List Value).toArray } } := fun R' hR => by
    refine codeAny_builtin F.entry_list_iadd ?_
    rw [Around.under_plainId F.plain_list_iadd _]
    show wpAny _ A.in1 (Builtin.List.listExtendWith (.ref s.heap.objs.size) (.ref r) (.ref s.heap.objs.size)) _ _ _
    exact PySem.W.kdl_extend (R := R') (A := A) (s := { s with heap := s.heap.push { cls := .type "list", data := .seq ([] : List Value).toArray } }) K hh (K.keep _ _ hok fun b _ o e => Heap.get?_push_of_some _ e) s.heap.objs.size (Nat.ne_of_gt hlt.1) (Nat.ne_of_gt hlt.2) (.ref s.heap.objs.size) _ (Heap.get?_push_size _ rfl) (fun h' tk acc' c' hk hS' hacc => hR h' tk acc' c' hk hS' hacc) hn
  unfold collect
  refine wpAny_bind (wpAny_runValue (codeAny_builtin F.entry_proto_collect ?_))
  rw [Around.under_plainId F.plain_proto_collect _]
  show wpAny _ A.in1 (newList [] >>= fun l => again (.builtin "list.__iadd__" ⟨[l, .ref r], []⟩)) _ _ s
  refine wpAny_bind (wpAny_newObj_type ?_)
  refine wpAny_pure ⟨plainId_quiet F.plain_list_iadd _, key _ fun h' tk acc' c' hk hS' hacc => ?_⟩
  show wpAny _ A (load s.heap.objs.size >>= _) _ _ _
  refine wpAny_bind (wpAny_load hS' ?_)
  exact wpAny_pure (hQ h' tk acc' (fun b ob e => hk b ob (Nat.ne_of_lt (Heap.lt_size e)) (Heap.get?_push_of_some _ e)) hacc)
theorem sorted_keys {T : String} {r d : Addr} {ns : List (List Nat)} {R : Nat → Value → Prop} {OK : Heap → Prop} {Q : Value → Shared → Prop} (K : KdlSrc P w T r d ns.length R OK) (hh : A.handled = none) (hok : OK s.heap) (hz : ns.length ≤ sizeLine) (hu : A.units + 8 < cLine)
    (hR : ∀ i v, R i v → ∃ x t, ns[i]? = some x ∧ v = Value.str (S x) t)
    (hQ : ∀ s' p (out : List Value) (c : Nat), (∀ b o, s.heap.get? b = some o → s'.heap.get? b = some o) → s'.gens = s.gens → s'.os = s.os → s.heap.get? p = none →
      s'.heap.get? p = some (seqObj "list" out.toArray c) → EachIs (fun v (k : Str) => ∃ t, v = Value.str k t) out ((srS ns).map S) → Q (.ref p) s') :
    wpAny (model P w) A (call (.builtin "sorted") [.ref r]) Q E s := by
  refine Calls.call_function_entry kind_sorted plain_sorted entry_sorted (args_sorted1 _) ?_
  unfold Builtin.«sorted»
  refine wpAny_bind (m := checkCount "sorted" 1 1 _) (wpAny_pure ?_)
  refine wpAny_bind (collect_kdl (A := A.in1) K hh hok hz (fun h1 tk1 acc k1 it => ?_))
  have hal : acc.toList.length = ns.length := by rw [Array.length_toList, it.1]
  have q : EachIs (fun v (k : Str) => ∃ t, v = Value.str k t) acc.toList (ns.map S) := by
    refine each_of (by rw [hal, List.length_map]) fun i v hv => ?_
    obtain ⟨x, t, h1, h2⟩ := hR i v (it.2 i v (by rw [← Array.getElem?_toList]; exact hv))
    exact ⟨S x, by rw [List.getElem?_map, h1]; rfl, t, h2⟩
  have hn : s.heap.get? h1.objs.size = none := by
    cases e : s.heap.get? h1.objs.size with
    | none => rfl
    | some o => exact absurd (Heap.lt_size (k1 _ _ e)) (Nat.lt_irrefl _)
  refine wpAny_bind (wpAny_newList ?_ (by rw [hal]; exact hz))
  have hoL : (h1.push (seqObj "list" acc.toList.toArray 0)).get? h1.objs.size = some (seqObj "list" acc.toList.toArray 0) := Heap.get?_push_size _ rfl
  refine wpAny_bind (wpAny_holding (PySem.W.list_sort_data (s := { s with heap := h1.push (seqObj "list" acc.toList.toArray 0), toks := tk1 }) (R := fun v (k : Str) => ∃ t, v = Value.str k t) (enc := PyData.str) (bs := ns.map S) hoL q (each_mono (fun v k h => by
    obtain ⟨t, rfl⟩ := h
    exact ⟨[], .str k t, fun z => nomatch z⟩) q) (AllAlike.of fun b b' => by simp [PySem.W.alike]) (Sortable.others fun b => ⟨(fun z => nomatch z), (fun xs z => nomatch z)⟩) (by rw [List.length_map]; exact hz) (fun b hb => by
      show A.in1.units + 1 + 0 < cLine
      have : A.in1.units = A.units + 1 := rfl
      omega) fun out hol ho2 => ?_))
  obtain ⟨c, hc⟩ := sortedHeap_at (vs := acc.toList) (out := out.toArray) hoL
  rw [srS_data] at ho2
  refine wpAny_pure ⟨_, rfl, hQ _ h1.objs.size out c (fun b u e => ?_) rfl rfl hn hc ho2⟩
  have q := k1 b u e
  have hlt := Heap.lt_size q
  show (sortedHeap (h1.push (seqObj "list" acc.toList.toArray 0)) h1.objs.size acc.toList out.toArray).get? b = some u
  rw [sortedHeap_old (Nat.ne_of_lt hlt) (by rw [size_push']; exact Nat.lt_succ_of_lt hlt)]
  exact Heap.get?_push_of_some _ q
end
def rSortedK : List V → Hp → VK → Prop := fun vs H Q => ∃ p kvs ns, vs = [.ref p] ∧ Rd H p (.dK kvs) ∧ kvs.map (·.1) = List.map keyS ns ∧ ns.length ≤ sizeLine ∧ ∀ q, H q = none → Q (.ref q) (upd H q (.lst (((srS ns).map S).map V.str)))
theorem cr_sortedK {X : Cx} (hc : X.calm = true) (hu : X.A.units + 64 < cLine) : CallR X (.builtin "sorted") rSortedK := by
  rintro pins s σ H _ us Q I r ⟨p, kvs, ns, rfl, rd, ek, hz, q⟩
  obtain ⟨u, rfl, rx⟩ := r.one
  cases rx
  obtain ⟨z, lo, vs, rk, hd⟩ := (rd.ok I.hok : ObjOk X.prog X.w H s.heap p (.dK kvs))
  obtain ⟨ep, hat⟩ := hd.dictAt
  have hl : kvs.length = vs.length := Paired.length rk
  have hn : ns.length = vs.length := by
    have := congrArg List.length ek
    rw [List.length_map, List.length_map] at this
    omega
  have K := PySem.W.kdl_dict (knd := mixKind X.prog X.w) (kvs := vs) (ep := ep) lo
  rw [← hn] at K
  refine sorted_keys K (I.ok.hd hc) hat hz (by omega) (fun i v hv => ?_) fun s' p out c k g o hp hgt he => ?_
  · obtain ⟨k, y', hky, hi⟩ := hv
    have e1 : (kvs.map (·.1))[i]? = some k := by rw [KV.keys rk, List.getElem?_map, hky]; rfl
    rw [ek, List.getElem?_map] at e1
    cases e2 : ns[i]? with
    | none => rw [e2] at e1; cases e1
    | some x =>
      rw [e2] at e1
      have e1 : keyS x = k := Option.some.inj e1
      subst e1
      obtain ⟨t, e⟩ := (keyIs_rel (show keyIs (keyS x) v = true from hi) : ∃ t, v = Value.str (S x) t)
      exact ⟨x, t, rfl, e⟩
  · have hlen : (((srS ns).map S).map V.str).length ≤ sizeLine := by
      rw [List.length_map, List.length_map, (srS_perm _).length_eq]; exact hz
    exact ⟨.ref p, upd H p (.lst (((srS ns).map S).map V.str)), inv_newN (o := .lst (((srS ns).map S).map V.str)) I k g o hp ⟨hlen, out, c, vals_each he, hgt⟩, rfl, q p (new_none I hp)⟩
def rSortedZ (K : Fg0) : List V → Hp → VK → Prop := fun vs H Q => rSortedY K vs H Q ∨ rSortedK vs H Q
theorem cr_sortedZ {X : Cx} (hc : X.calm = true) (hc' : X.A.handled = none) (hu : X.A.units + 64 < cLine) : CallR X (.builtin "sorted") (rSortedZ X.K) := by
  intro pins s σ H vs us Q I r h
  rcases h with h | h
  · exact cr_sortedY hc' hu pins s σ H vs us Q I r h
  · exact cr_sortedK hc hu pins s σ H vs us Q I r h
def gSortedZ : List D → (List D → Prop) → Prop := fun ds Q => match ds with
  | [.lst xs] => SrtOk xs ∧ Q (xs.mergeSort leD)
  | [.tup xs] => SrtOk xs ∧ Q (xs.mergeSort leD)
  | [.str x] => Q ((srS (x.map fun c => [c])).map D.str)
  | [.dk kvs] => ∃ ks : List (List Nat), kvs.map (·.1) = ks.map keyS ∧ ks.length ≤ sizeLine ∧ (∀ k ∈ ks, k.length ≤ sizeLine) ∧ Q ((srS ks).map D.str)
  | _ => False
theorem lr_sortedZ {K : Fg0} {X : Cx} (hc : X.calm = true) (hc' : X.A.handled = none) (hu : X.A.units + 64 < cLine) (hK : X.K = K := by rfl) : LR K X (.builtin "sorted") (rSortedZ K) gSortedZ := by
  subst hK
  refine ⟨cr_sortedZ hc hc' hu, fun M m H vs ds Q h ii q => ?_, fun a Q Q' h q => ?_⟩
  · unfold gSortedZ at q
    split at q
    · rename_i xs
      exact .inl ((lr_sortedY (X := X) hc' hu).rd M m H vs [.lst xs] Q h ii q)
    · rename_i xs
      exact .inl ((lr_sortedY (X := X) hc' hu).rd M m H vs [.tup xs] Q h ii q)
    · rename_i x
      exact .inl ((lr_sortedY (X := X) hc' hu).rd M m H vs [.str x] Q h ii q)
    · obtain ⟨ks, ek, zl, zk, q⟩ := q
      obtain ⟨v, rfl, i⟩ := ii.one
      obtain ⟨p, ws, rfl, r, ik⟩ := i.dk
      refine .inr ⟨p, ws, ks, rfl, r, by rw [(isK_to ik).1, ek], zl, fun l n => ?_⟩
      exact q l _ n (IsA.ofStrs fun n hn => zk n ((srS_perm _).mem_iff.mp hn)) (by rw [List.length_map, (srS_perm _).length_eq]; exact zl)
    · exact q.elim
  · unfold gSortedZ at q ⊢
    split at q
    · exact ⟨q.1, h _ q.2⟩
    · exact ⟨q.1, h _ q.2⟩
    · exact h _ q
    · obtain ⟨ks, e, a, b, q⟩ := q
      exact ⟨ks, e, a, b, h _ q⟩
    · exact q
end Pl

namespace Pl
open PySem PySem.Spec PyProof.Rows L2
/-! words: all steps, dicts sorted too -/
end Pl

namespace Pl
open PySem PySem.Spec PyProof.Rows L2

/-! ### for .. in x, x the frame's own list that the body leaves alone -/
structure CoI (K : Fg) (M : Ml) (H0 : Hp) (z m : Addr → Prop) (H : Hp) (i : Nat) (o : Option (Option V)) (W : Ends) (E : DEn) : Prop where
  nx : ∀ m' σ' H' ρ', EnOk K M H0 z m' H' σ' ρ' → Fw m H m' H' → σ'[i]? = o → E.nx ρ' → W.nx σ' H'
  rt : ∀ v H' d, Stp M H0 H' → Is K M (hid z H') v d → E.rt d → W.rt v H'
theorem CoI.fw {K : Fg} {M : Ml} {H0 H H1 : Hp} {z m m1 : Addr → Prop} {i : Nat} {o : Option (Option V)} {W : Ends} {E : DEn} (c : CoI K M H0 z m H i o W E) (f : Fw m H m1 H1) : CoI K M H0 z m1 H1 i o W E :=
  ⟨fun m' σ' H' ρ' I f' e q => c.nx m' σ' H' ρ' I (f.trans f') e q, c.rt⟩
def RdI (K : Fg) (i : Nat) (t : TS) (f : FS) : Prop := ∀ (M : Ml) H0 z m H σ ρ (W : Ends) (E : DEn), EnOk K M H0 z m H σ ρ → CoI K M H0 z m H i σ[i]? W E → f E ρ → t W σ H
structure DI (K : Fg) (X : Cx) (i : Nat) (st : Stmt) (t : TS) (f : FS) : Prop where
  ps : PS X st t
  rd : RdI K i t f
structure DIs (K : Fg) (X : Cx) (i : Nat) (st : List Stmt) (t : TS) (f : FS) : Prop where
  ps : PSs X st t
  rd : RdI K i t f
section
variable {K : Fg} {X : Cx} {i : Nat} {e : Expr} {te : TE} {f g : FS} {fe : FE} {t u : TS} {st : Stmt} {pos : Pos}
theorem si_nil : DIs K X i [] tNext sNil := ⟨pss_nil, fun M H0 z m H σ ρ W E I c q => c.nx m σ H ρ I .refl rfl q⟩
theorem si_one (h : DI K X i st t f) : DIs K X i [st] t f := ⟨pss_one h.ps, h.rd⟩
theorem si_ret (h : DE K X e te fe) : DI K X i (.Return (some e) pos) (tRet te) (sRet fe) :=
  ⟨ps_ret h.pe, fun M H0 z m H σ ρ W E I c q => h.rd M H0 z m H σ ρ _ I (h.mo ρ _ _ (fun d q' v H' s iv => c.rt v H' d (I.stp.trans s) ((I.step s).out iv) q') q)⟩
theorem si_if {cd : Expr} {a b : List Stmt} {tc : TT} {cf : FB} (hc : DB K X cd tc cf) (ha : DIs K X i a t f) (hb : DIs K X i b u g) : DI K X i (.If cd a b pos) (tIfS tc t u) (sIf cf f g) := by
  refine ⟨ps_if hc.pt ha.ps hb.ps, fun M H0 z m H σ ρ W E I c q => ?_⟩
  refine hc.rd M H0 z m H σ ρ _ I (hc.mo ρ _ _ (fun d q' H' s => ?_) q)
  cases d
  · rw [ifB_false] at q'
    rw [if_neg Bool.false_ne_true]
    exact hb.rd M H0 z m H' σ ρ W E (I.step s) (c.fw (I.fw s)) q'
  · rw [ifB_true] at q'
    rw [if_pos rfl]
    exact ha.rd M H0 z m H' σ ρ W E (I.step s) (c.fw (I.fw s)) q'
end
def forO (i : Nat) (xs : List D) (g : FG) (b : FS) (E : DEn) : List D → En → Prop
  | [], ρ => slL ρ i = some xs ∧ E.nx ρ
  | d :: r, ρ => slL ρ i = some xs ∧ g d ρ fun ρ' => b { nx := forO i xs g b E r, ct := forO i xs g b E r, bk := E.nx, rt := E.rt, rm := E.rm } ρ'
def sForO (i : Nat) (g : FG) (b : FS) : FS := fun E ρ => exS (slL ρ i) fun xs => forO i xs g b E xs ρ
theorem Wp.at {ss : List Nat} {σ σ' : L2.St} {i : Nat} (w : Wp ss σ σ') (hi : i ∉ ss) : σ'[i]? = σ[i]? := by
  have := congrArg (fun l : L2.St => l[i]?) (w ss fun _ h => h)
  have this : (wipe σ' ss)[i]? = (wipe σ ss)[i]? := this
  rwa [wipe_out hi, wipe_out hi] at this
theorem rd_forO {K : Fg} {i : Nat} {g : TG} {tb : TS} {ss : List Nat} {gg : FG} {fb : FS} (hi : i ∉ ss) (hg : RdG K ss g gg) (mg : MoG gg) (hb : RdI K i tb fb) : RdS K (tFor (fun σ H R => tVar i σ H fun x H1 => rIt3 K.fr x H1 R) g tb) (sForO i gg fb) := by
  intro M H0 z m H σ ρ W E I c ⟨xs, e0, q⟩
  obtain ⟨p, vs, e1, e2, ia, mp, nw, n0, zl⟩ := I.slot i _ (slL_of e0)
  refine ⟨.ref p, e1, .inl ⟨p, vs, rfl, .of e2, ?_⟩⟩
  refine ⟨fun k mm σ2 H2 => mm = xs.length - k ∧ k ≤ xs.length ∧ σ2[i]? = some (some (.ref p)) ∧ ∃ m2 ρ2, EnOk K M H0 z m2 H2 σ2 ρ2 ∧ Fw m H m2 H2 ∧ forO i xs gg fb E (xs.drop k) ρ2, ⟨xs.length, by simp, Nat.zero_le _, e1, m, ρ, I, .refl, q⟩, ?_⟩
  rintro k mm σ2 H2 ⟨rfl, hle, es, m2, ρ2, I2, f2, q2⟩
  have esl : slL ρ2 i = some xs := by
    cases h : xs.drop k with
    | nil => rw [h] at q2; exact q2.1
    | cons d r => rw [h] at q2; exact q2.1
  obtain ⟨p', vs', e1', e2', ia', mp', nw', n0', zl'⟩ := I2.slot i _ (slL_of esl)
  rw [es] at e1'
  cases e1'
  obtain ⟨gy, stp⟩ := go_list I2.hx (.of e2') ia'
  by_cases hlt : k < xs.length
  · refine .inr ?_
    have ed : xs[k]? = some xs[k] := List.getElem?_eq_getElem hlt
    obtain ⟨go, yld⟩ := gy k xs[k] ed
    refine ⟨go, fun σ3 H3 => σ3[i]? = some (some (.ref p)) ∧ ∃ m3 ρ3, EnOk K M H0 z m3 H3 σ3 ρ3 ∧ Fw m H m3 H3 ∧ forO i xs gg fb E (xs.drop (k + 1)) ρ3, fun σ3 H3 hN => ⟨xs.length - (k + 1), by omega, rfl, hlt, hN⟩, fun x H3 hy => ?_⟩
    obtain ⟨s3, ix⟩ := yld x H3 hy
    have I3 := I2.step s3
    have f3 := f2.trans (I2.fw s3)
    rw [List.drop_eq_getElem_cons hlt] at q2
    refine hg M H0 z m2 H3 σ2 ρ2 x xs[k] _ I3 ix (mg _ _ _ _ (fun ρ' q3 σ' I4 w => ?_) q2.2)
    have es' : σ'[i]? = some (some (.ref p)) := (w.at hi).trans es
    refine hb M H0 z m2 H3 σ' ρ' _ _ I4 ⟨?_, ?_⟩ q3
    · exact fun m' σ4 H4 ρ4 I5 f5 e5 q5 => ⟨e5.trans es', m', ρ4, I5, f3.trans f5, q5⟩
    · exact c.rt
  · refine .inl ⟨?_, ?_⟩
    · have : k = xs.length := by omega
      rw [this]; exact stp
    · have e : xs.drop k = [] := List.drop_eq_nil_of_le (by omega)
      rw [e] at q2
      exact c.nx m2 σ2 H2 ρ2 I2 f2 q2.2
theorem d_forO {K : Fg} {X : Cx} {x : Str} {tg : Expr} {body : List Stmt} {g : TG} {tb : TS} {ss : List Nat} {gg : FG} {fb : FS} {pos pos' : Pos} (i : Nat) (hg : DG K X tg ss g gg) (hb : DIs K X i body tb fb) (hN : X.N[i]? = some x := by rfl) (hv : Vis X.env.scope x := by first | exact Or.inl rfl | exact Or.inr (Or.inl rfl) | exact Or.inr (Or.inr rfl)) (hd : (x == ("__debug__" : Str)) = false := by decide)
    (hcd : (x == ("__classdict__" : Str)) = false := by decide) (hi : i ∉ ss := by decide) (hK : X.K = K.fr := by rfl) (hp : PassesOwn (model X.prog X.w) X.A X.env X.xe := by exact PassesOwn.never) (hc : X.calm = true := by rfl)
    (hs : ∀ x', foldedSetIterable (.Name x pos') X.env x' = pure x' := by intro _; rfl) : DS K X (.For tg (.Name x pos') body [] pos) (tFor (fun σ H R => tVar i σ H fun x H1 => rIt3 K.fr x H1 R) g tb) (sForO i gg fb) :=
  ⟨ps_for hp hc ((piv3 hK).pi (pe_var hN hv hd hcd)) hg.pg hb.ps hs, rd_forO hi hg.rd hg.mo hb.rd⟩
/-- a loop over an own list -/
theorem for_allO {α : Type} {i : Nat} {g : FG} {b : FS} {E : DEn} (mk : α → D) (S : En → Prop) (l : List α) (hS : ∀ ρ, S ρ → slL ρ i = some (l.map mk))
    (hstep : ∀ a ∈ l, ∀ ρ, S ρ → ∀ (nx : En → Prop), (∀ ρ', S ρ' → nx ρ') → g (mk a) ρ fun ρ' => b { nx := nx, ct := nx, bk := E.nx, rt := E.rt, rm := E.rm } ρ')
    (he : ∀ ρ, S ρ → E.nx ρ) : ∀ ρ, S ρ → forO i (l.map mk) g b E (l.map mk) ρ := by
  have key : ∀ (r : List α), (∀ a ∈ r, a ∈ l) → ∀ ρ, S ρ → forO i (l.map mk) g b E (r.map mk) ρ := by
    intro r
    induction r with
    | nil => exact fun _ ρ h => ⟨hS ρ h, he ρ h⟩
    | cons a r ih => exact fun hm ρ h => ⟨hS ρ h, hstep a (hm a List.mem_cons_self) ρ h _ fun ρ' h' => ih (fun x hx => hm x (List.mem_cons_of_mem _ hx)) ρ' h'⟩
  exact key l fun a h => h
end Pl

namespace Pl
open PySem PySem.Spec PyProof.Rows L2
/-! words: all steps, loops over own lists too -/
end Pl

namespace Pl
open PySem PySem.Spec PyProof.Rows L2

/-! ### try with several named clauses -/
abbrev Clz := Value × Nat × (Addr → Value → Option Addr → TS)
def wMA (K : PySem.W.Frag) (Wo : WX) (D : Ends) : List Clz → WX
  | [] => Wo
  | q :: r => wAs K q.1 q.2.1 q.2.2 (wMA K Wo D r) D
inductive HdAs (X : Cx) : List ExceptHandler → List Clz → Prop
  | nil : HdAs X [] []
  | cons {y n : Str} {k : Value} {j : Nat} {t : Addr → Value → Option Addr → TS} {b : Stmt} {bs : List Stmt} {q1 q2 : Pos} {hs : List ExceptHandler} {l : List Clz} (nj : X.N[j]? = some n) (nl : X.env.kindOf n = some .local) (ny : Names X y k)
      (su : ∀ (u : Addr) (ob : Obj) (cl : Value) (d : Option Addr) (pn : List (Addr × Obj)), Zc cl d ob → (∃ vs, ob.data = .fields vs) → PSs (X.suite u ((u, ob) :: pn)) (b :: bs) (t u cl d)) (r : HdAs X hs l) :
      HdAs X (.ExceptHandler (some (.Name y q1)) (some n) (b :: bs) q2 :: hs) ((k, j, t) :: l)
section
variable {X : Cx} {body : List Stmt} {h : ExceptHandler} {hs : List ExceptHandler} {l : List Clz} {pos : Pos} {tb : WX → TS} {Wo : WX}
theorem ps_tryN (st : X.stack = X.env :: X.outer) (fr : X.env.frame = some X.env.locals) (nd : X.N.Nodup) (tk : Takes X Wo)
    (run : ∀ (W : WX) (pn : List (Addr × Obj)) (xe : Value → Shared → Prop), Takes (X.tr pn xe) W → PassesOwn (model X.prog X.w) X.A X.env xe → PSs (X.tr pn xe) body (tb W))
    (cl : HdAs X (h :: hs) l) : PS X (.Try body (h :: hs) [] [] pos) (fun D σ H => tb (wMA X.K Wo D l) D σ H) := by
  constructor
  intro pins s σ H D I0 start
  have okX := I0.ok
  have frs0 : X.A.frames = some (X.env :: X.outer) := okX.frames.trans (congrArg some st)
  refine wpAny_Try_except (wpAny_mono ((run (wMA X.K Wo D l) (X.pn ++ pins) (fun x s1 => wpAny (model X.prog X.w) X.A (noteFrame x X.env) (fun _ s2 => wpAny (model X.prog X.w) X.A (setFlight x none) (fun _ s3 => wpAny (model X.prog X.w) X.A (handleBy x X.env (h :: hs)) (SP X pins D) X.xe s3) X.xe s2) X.xe s1)
    (fun x s' up0 => ?caught) PassesOwn.looking).run [] s σ H D (I0.toTry _) start) (fun r s1 done => ?ended) fun _ _ q => q)
  case ended =>
    cases r with
    | next => exact let ⟨_, _, J, q⟩ := done; wpAny_execs_nil ⟨_, _, J.ofTry okX, q⟩
    | brk => exact let ⟨_, _, J, q⟩ := done; ⟨_, _, J.ofTry okX, q⟩
    | cont => exact let ⟨_, _, J, q⟩ := done; ⟨_, _, J.ofTry okX, q⟩
    | ret u => exact let ⟨_, _, _, J, r, q⟩ := done; ⟨_, _, _, J.ofTry okX, r, q⟩
  case caught =>
    obtain ⟨u, B, sI, p1, τ, G, cls, d, rfl, J0, nb, upB, sky0, noU, osE, agE, want⟩ := up0
    have J1 : Inv X pins τ G sI := J0.ofTry okX
    have sky1 : Sky B (X.env :: X.outer) u (Zc cls d) X.env.locals s'.heap := st ▸ sky0
    show wpAny (model X.prog X.w) X.A (noteFrame (.ref u) X.env) _ _ _
    refine Sky.land Zc.steady frs0 fr sky1 fun hp fl ups => ?_
    have J2 : Inv X pins τ G { s' with heap := hp } := J1.landed nb fl.1 (upB.trans ups) osE agE
    obtain ⟨ob, us, gu, zu, du⟩ := fl.there
    have apart : u ∉ frs (X.env :: X.outer) := fun m => by
      obtain ⟨_, ob2, g2, nf⟩ := fl.2.2.1.mem m
      exact nf us (by rw [← Option.some.inj (gu.symm.trans g2)]; exact du)
    have uL : u ≠ X.env.locals := fun z => apart (List.mem_filterMap.mpr ⟨X.env, List.mem_cons_self, by rw [fr, z]⟩)
    have uF : u ∉ X.fs := fun m => let ⟨e, he, q⟩ := List.mem_filterMap.mp m; apart (List.mem_filterMap.mpr ⟨e, List.mem_cons_of_mem _ he, q⟩)
    have J3 := J2.suite gu du noU uL uF
    suffices go : ∀ hs' l', HdAs X hs' l' → wMA X.K Wo D l' cls d τ G → wpAny (model X.prog X.w) X.A (handleBy (.ref u) X.env hs') (SP X pins D) X.xe { s' with heap := hp } from go _ _ cl want
    intro hs' l' ok'
    induction ok' with
    | nil =>
      intro out
      refine wpAny_handleBy_nil ?_
      obtain ⟨_, _, _, ob2, us2, T, _, _, g2, _, d2, e2, _⟩ := id fl
      unfold PySem.passOn
      refine wpAny_bind (wpAny_field g2 d2 e2 ?_)
      rw [if_neg (show ¬ ((Value.ref T == Value.none) = true) by simp)]
      have leave : wpAny (model X.prog X.w) X.A (setFlight (.ref u) X.env.frame) (fun _ s4 => wpAny (model X.prog X.w) X.A (throw (.ref u) : Sem Flow) (SP X pins D) X.xe s4) X.xe { s' with heap := hp } := by
        rw [fr]
        refine HandSPX.setFlight_upZ fl fun h4 in4 up4 => wpAny_throw (tk _ _ ⟨u, B, sI, pins, τ, G, cls, d, rfl, J1, nb, (upB.trans ups).trans up4, .inr (.inr (st.symm ▸ in4)), noU, osE, agE, out⟩)
      first
        | exact wpAny_bind (wpAny_pure (wpAny_bind leave))
        | exact wpAny_bind leave
    | @cons y n k j t b bs q1 q2 hs2 l2 nj nl ny su r ih =>
      intro w
      obtain ⟨yes, em, w1, w0⟩ := w
      refine wpAny_handleBy_cons (codeAny_handlers_test ?_) (fun z => nomatch z)
      have clsOf : PySem.W.Looks (model X.prog X.w) hp (typeOf (.ref u)) cls := fun A Q E s k q => wpAny_typeOf_ref (k _ _ gu) (zu.1.symm ▸ q)
      have asks := PySem.W.exm_one (M := model X.prog X.w) J2.kIn clsOf em
      have name : ∀ {Q E : Value → Shared → Prop}, Q k { s' with heap := hp } → wpAny (model X.prog X.w) (X.A.mark (some (.ref u))) (eval (.Name y q1) X.env) Q E { s' with heap := hp } := fun {Q E} q => by
        obtain ⟨gy, dy, my | ⟨my, vy, wy⟩⟩ := ny
        · exact ld_glob (X := X.suite u ((u, ob) :: (X.pn ++ pins))) J3 gy my q dy
        · exact ld_blt (X := X.suite u ((u, ob) :: (X.pn ++ pins))) J3 gy my vy q wy dy
      refine name (asks.here ?_)
      cases yes with
      | false => exact ih (w0 rfl)
      | true =>
        refine codeAny_handlers_suite_as (HandSPX.lands_againZ fl fun h4 fl4 up4 => ?_)
        have K1 : Inv X pins τ G { s' with heap := h4 } := J1.landed nb fl4.1 ((upB.trans ups).trans up4) osE agE
        obtain ⟨ob4, us4, g4, z4, d4⟩ := fl4.there
        have K2 := K1.suite g4 d4 noU uL uF
        refine store_ok (X := X.suite u ((u, ob4) :: (X.pn ++ pins))) (v := .ref u) K2 nd nj (.inl nl) rfl (fun s5 K3 => ?_) (.inr nl)
        refine wpAny_mono ((su u ob4 cls d (X.pn ++ pins) z4 ⟨_, d4⟩).run [] s5 _ G _ K3 (w1 rfl u noU)) (fun f s6 done => ?_) fun _ _ z => z.elim
        have unbound : ∀ {σ6 : L2.St} {H6 : Hp} {Q : Shared → Prop}, Inv (X.suite u ((u, ob4) :: (X.pn ++ pins))) [] σ6 H6 s6 → (∀ s7, Inv X pins (σ6.set j none) H6 s7 → Q s7) →
            wpAny (model X.prog X.w) X.A (do bindName X.env n .none; unbindBehindTheSuite X.env n q2) (fun _ s7 => Q s7) X.xe s6 := fun {σ6 H6 Q} K6 hq => gone_ok (K6.unsuite okX) nd nj nl hq
        cases f with
        | next => exact let ⟨_, _, K6, q⟩ := done; unbound K6 fun s7 K7 => ⟨_, _, K7, q⟩
        | brk => exact let ⟨_, _, K6, q⟩ := done; unbound K6 fun s7 K7 => ⟨_, _, K7, q⟩
        | cont => exact let ⟨_, _, K6, q⟩ := done; unbound K6 fun s7 K7 => ⟨_, _, K7, q⟩
        | ret v => exact let ⟨_, _, _, K6, r6, q⟩ := done; unbound K6 fun s7 K7 => ⟨_, _, _, K7, r6, q⟩
end
/-- one clause more ahead of what is wished outside -/
theorem link_cl {X : Cx} {K : Fg} {C : Addr} {nm : Str} {i : Nat} {e : Expr} {te : Addr → Option Addr → TE} {f : Addr → Option Addr → List (Str × D) → FE} {Wo : WX} {xw : En → Xd → Prop} {tab : List (Str × Bool)} {M : Ml} {H0 : Hp} {z : Addr → Prop} {W : Ends} {E : DEn} (hst : K.st M H0 z)
    (rt : ∀ v H' d, Stp M H0 H' → Is K.fr M (hid z H') v d → E.rt d → W.rt v H') (hm : X.mg nm = some (.ref C)) (ht : ∀ p ∈ tab, ∃ cls, X.mg p.1 = some cls ∧ PySem.W.exmOne X.K cls (.ref C) = some p.2) (ht2 : ∀ p ∈ tab, p.2 = true → p.1 = nm)
    (hsu : ∀ (a : Addr) (oe : Obj) (d : Option Addr) (pn : List (Addr × Obj)) (fs : List (Str × D)), Zc (.ref C) d oe → (∃ vs, oe.data = .fields vs) → DE K (X.suite a ((a, oe) :: pn)) e (te a d) (f a d fs))
    (hL : LinkX ⟨K.fr, fun M' H0' z' => M' = M ∧ H0' = H0 ∧ z' = z⟩ X.mg Wo xw) : LinkX ⟨K.fr, fun M' H0' z' => M' = M ∧ H0' = H0 ∧ z' = z⟩ X.mg (wAs X.K (.ref C) i (fun a cls d D σ H => cls = .ref C ∧ tRet (te a d) D σ H) Wo W) (tryX tab i f xw E) := by
  intro M' H0' z' m' H' σ' ρ' I2 x hx cls d xi
  obtain ⟨rfl, rfl, rfl⟩ := I2.st
  have I3 := I2.st_of (K := K) hst
  unfold tryX at hx
  split at hx
  · rename_i hl
    have hmem := PySem.mem_of_lookup hl
    obtain ⟨cls', e1, e2⟩ := ht _ hmem
    have e3 : cls' = cls := Option.some.inj (e1.symm.trans xi.1)
    subst e3
    have e4 : x.name = nm := ht2 _ hmem rfl
    rw [e4, hm] at e1
    have e5 := Option.some.inj e1
    subst e5
    refine ⟨true, e2, fun _ a na => ⟨rfl, ?_⟩, fun z => absurd z.symm Bool.false_ne_true⟩
    refine (hsu a { cls := .ref C, dict := d, data := .fields #[] } d [] x.fs ⟨rfl, rfl⟩ ⟨_, rfl⟩).rd M' H0' z' m' H' _ (ρ'.set i (.ex a d x.fs)) _ (I3.putS (v := .ref a) (s := .ex a d x.fs) hx.1 ⟨rfl, xi.2⟩ (fun o => False.elim o)) ?_
    refine (hsu a { cls := .ref C, dict := d, data := .fields #[] } d [] x.fs ⟨rfl, rfl⟩ ⟨_, rfl⟩).mo _ _ _ (fun dd qq v H2 s2 iv => ?_) (hx.2 a d)
    exact rt v H2 dd (I3.stp.trans s2) (iv.mono (hid_less I3.zm)) qq
  · rename_i hl
    obtain ⟨cls', e1, e2⟩ := ht _ (PySem.mem_of_lookup hl)
    have e3 : cls' = cls := Option.some.inj (e1.symm.trans xi.1)
    subst e3
    exact ⟨false, e2, ⟨fun z => absurd z Bool.false_ne_true, fun _ => hL M' H0' z' m' H' σ' ρ' I2 x hx _ d xi⟩⟩
  · exact hx.elim
def sTry2 (t1 : List (Str × Bool)) (i1 : Nat) (t2 : List (Str × Bool)) (i2 : Nat) (fb : (En → Xd → Prop) → FS) (f1 f2 : Addr → Option Addr → List (Str × D) → FE) (xw : En → Xd → Prop) : FS := fun E ρ => fb (tryX t1 i1 f1 (fun ρ' x => tryX t2 i2 f2 xw E ρ' x) E) E ρ
section
variable {X : Cx} {K : Fg} {C1 C2 : Addr} {m1 m2 n1 n2 : Str} {body : List Stmt} {e1 e2 : Expr} {np1 rp1 np2 rp2 p1 p2 pos : Pos} {tb : WX → TS} {fb : (En → Xd → Prop) → FS} {te1 te2 : Addr → Option Addr → TE} {f1 f2 : Addr → Option Addr → List (Str × D) → FE} {Wout : WX} {xw : En → Xd → Prop} {t1 t2 : List (Str × Bool)}
theorem d_try2 (i1 i2 : Nat) (t1 t2 : List (Str × Bool)) (hs : X.stack = X.env :: X.outer) (hf : X.env.frame = some X.env.locals) (hN : X.N.Nodup) (hi1 : X.N[i1]? = some n1) (hk1 : X.env.kindOf n1 = some .local) (hi2 : X.N[i2]? = some n2) (hk2 : X.env.kindOf n2 = some .local) (hm1 : X.mg m1 = some (.ref C1)) (hm2 : X.mg m2 = some (.ref C2)) (tk : Takes X Wout) (hL : LinkX K X.mg Wout xw)
    (ha1 : ∀ p ∈ t1, ∃ cls, X.mg p.1 = some cls ∧ PySem.W.exmOne X.K cls (.ref C1) = some p.2) (hb1 : ∀ p ∈ t1, p.2 = true → p.1 = m1) (ha2 : ∀ p ∈ t2, ∃ cls, X.mg p.1 = some cls ∧ PySem.W.exmOne X.K cls (.ref C2) = some p.2) (hb2 : ∀ p ∈ t2, p.2 = true → p.1 = m2)
    (hb : ∀ (sg : Ml → Hp → (Addr → Prop) → Prop) (W : WX) (pn : List (Addr × Obj)) (xe : Value → Shared → Prop) (xw' : En → Xd → Prop), Takes (X.tr pn xe) W → LinkX ⟨K.fr, sg⟩ X.mg W xw' → DSs ⟨K.fr, sg⟩ (X.tr pn xe) body (tb W) (fb xw'))
    (hs1 : ∀ (a : Addr) (oe : Obj) (d : Option Addr) (pn : List (Addr × Obj)) (fs : List (Str × D)), Zc (.ref C1) d oe → (∃ vs, oe.data = .fields vs) → DE K (X.suite a ((a, oe) :: pn)) e1 (te1 a d) (f1 a d fs))
    (hs2 : ∀ (a : Addr) (oe : Obj) (d : Option Addr) (pn : List (Addr × Obj)) (fs : List (Str × D)), Zc (.ref C2) d oe → (∃ vs, oe.data = .fields vs) → DE K (X.suite a ((a, oe) :: pn)) e2 (te2 a d) (f2 a d fs))
    (hg1 : Gl X m1 := by rfl) (hd1 : (m1 == ("__debug__" : Str)) = false := by decide) (hg2 : Gl X m2 := by rfl) (hd2 : (m2 == ("__debug__" : Str)) = false := by decide) :
    DS K X (.Try body [.ExceptHandler (some (.Name m1 np1)) (some n1) [.Return (some e1) rp1] p1, .ExceptHandler (some (.Name m2 np2)) (some n2) [.Return (some e2) rp2] p2] [] [] pos)
      (fun D σ H => tb (wMA X.K Wout D [(.ref C1, i1, fun a cls d D σ H => cls = .ref C1 ∧ tRet (te1 a d) D σ H), (.ref C2, i2, fun a cls d D σ H => cls = .ref C2 ∧ tRet (te2 a d) D σ H)]) D σ H) (sTry2 t1 i1 t2 i2 fb f1 f2 xw) := by
  refine ⟨ps_tryN hs hf hN tk (fun W pn xe tkW _ => (hb (fun _ _ _ => False) W pn xe (fun _ _ => False) tkW fun M H0 z m H σ ρ I x hx => hx.elim).ps) (.cons hi1 hk1 ⟨hg1, hd1, .inl hm1⟩ (fun a oe cls d pn hz hd => ⟨fun pins s σ H D I h => ?_⟩) (.cons hi2 hk2 ⟨hg2, hd2, .inl hm2⟩ (fun a oe cls d pn hz hd => ⟨fun pins s σ H D I h => ?_⟩) .nil)), fun M H0 z m H σ ρ W E I c q => ?_⟩
  · obtain ⟨rfl, h⟩ := h
    exact (pss_one (ps_ret (hs1 a oe d pn [] hz hd).pe)).run pins s σ H D I h
  · obtain ⟨rfl, h⟩ := h
    exact (pss_one (ps_ret (hs2 a oe d pn [] hz hd).pe)).run pins s σ H D I h
  · have h0 : LinkX ⟨K.fr, fun M' H0' z' => M' = M ∧ H0' = H0 ∧ z' = z⟩ X.mg Wout xw := fun M' H0' z' m' H' σ' ρ' I2 x hx cls d xi => by
      obtain ⟨rfl, rfl, rfl⟩ := I2.st
      exact hL M' H0' z' m' H' σ' ρ' (I2.st_of (K := K) I.st) x hx cls d xi
    have h2 := link_cl (i := i2) (E := E) (W := W) I.st c.rt hm2 ha2 hb2 hs2 h0
    have h1 := link_cl (i := i1) (E := E) (W := W) I.st c.rt hm1 ha1 hb1 hs1 h2
    exact (hb _ _ [] (fun _ _ => True) _ (fun _ _ _ => trivial) h1).rd M H0 z m H σ ρ W E (I.st_to ⟨rfl, rfl, rfl⟩) ⟨fun m' σ' H' ρ' I' fw q => c.nx m' σ' H' ρ' (I'.st_of I.st) fw q, fun m' σ' H' ρ' I' fw q => c.bk m' σ' H' ρ' (I'.st_of I.st) fw q, fun m' σ' H' ρ' I' fw q => c.ct m' σ' H' ρ' (I'.st_of I.st) fw q, c.rt, c.rm⟩ q
end
end Pl

namespace Pl
open PySem PySem.Spec PyProof.Rows L2
/-! words: all steps, loops over own lists too -/
end Pl

namespace Pl
open PySem PySem.Spec PyProof.Rows L2
/-! comparing inside a try: what is compared is told in the frame's own terms -/
section
variable {K : Fg0} {X : Cx} {pn : List (Addr × Obj)} {xe : Value → Shared → Prop}
theorem c_eqT (hu : X.A.units + 64 < cLine) (hK : X.K = K := by rfl) : CR K (X.tr pn xe) .Eq (rEqS X.K) (gEq false) := by
  subst hK; exact c_eq (X := X.tr pn xe) hu
theorem c_neT (hu : X.A.units + 64 < cLine) (hK : X.K = K := by rfl) : CR K (X.tr pn xe) .NotEq (rNeS X.K) (gEq true) := by
  subst hK; exact c_ne (X := X.tr pn xe) hu
theorem c_ltT (hu : X.A.units + 64 < cLine) (hK : X.K = K := by rfl) : CR K (X.tr pn xe) .Lt (rLtS X.K) gLt := by
  subst hK; exact c_lt (X := X.tr pn xe) hu
theorem c_leT (hu : X.A.units + 64 < cLine) (hK : X.K = K := by rfl) : CR K (X.tr pn xe) .LtE (rLeS X.K) gLe := by
  subst hK; exact c_le (X := X.tr pn xe) hu
theorem c_gtT (hu : X.A.units + 64 < cLine) (hK : X.K = K := by rfl) : CR K (X.tr pn xe) .Gt (rGtS X.K) gGt := by
  subst hK; exact c_gt (X := X.tr pn xe) hu
theorem c_geT (hu : X.A.units + 64 < cLine) (hK : X.K = K := by rfl) : CR K (X.tr pn xe) .GtE (rGeS X.K) gGe := by
  subst hK; exact c_ge (X := X.tr pn xe) hu
theorem e_ixT {K : Fg} {a b : Expr} {ta tb : TE} {fa fb : FE} {pos : Pos} (ha : DT K (X.tr pn xe) a ta fa) (hb : DT K (X.tr pn xe) b tb fb) (hs : PlainIx b := by exact fun _ _ => rfl) (hK : X.K = K.fr := by rfl) : DE K (X.tr pn xe) (.Subscript a b pos) (tOp (rIx X.K) ta tb) (f2 gIx fa fb) := by
  rw [hK]; exact e_ix ha hb hs hK
end
end Pl

namespace Pl
open PySem PySem.Spec PyProof.Rows L2
/-! ### tuple(range(n)) -/
def vTupRg (f : FE) : FE := fun ρ Q => f ρ fun d => ∃ n : Nat, d = .int n ∧ n ≤ 16777216 ∧ Q (.tup ((List.range n).map fun i : Nat => D.int i))
section
variable {K : Fg} {X : Cx} {e : Expr} {te : TE} {f : FE} {p p2 pos pos2 : Pos}
theorem e_tupRg (hc : X.calm = true) (hm : X.mg "tuple" = none) (hm2 : X.mg "range" = none) (h : DT K X e te f) (hg : Gl X "tuple" := by rfl) (hg2 : Gl X "range" := by rfl)
    (na : starEach [e] X.env = (false, eval e X.env) :: starEach [] X.env := by rfl) (nb : starEach [.Call (.Name "range" p2) [e] [] pos2] X.env = (false, eval (.Call (.Name "range" p2) [e] [] pos2) X.env) :: starEach [] X.env := by rfl) :
    DE K X (.Call (.Name "tuple" p) [.Call (.Name "range" p2) [e] [] pos2] [] pos) (tTupRg (tRg1 te)) (vTupRg f) := by
  refine ⟨pe_tupRg hc hg hm (prg_1 hg2 hm2 h.pe na) nb, fun M H0 z m H σ ρ Q I q => ?_, fun ρ Q Q' hq q => h.mo ρ _ _ (fun d ⟨n, e1, e2, q⟩ => ⟨n, e1, e2, hq _ q⟩) q⟩
  refine h.rd M H0 z m H σ ρ _ I (h.mo ρ _ _ (fun d q v H1 s i => ?_) q)
  obtain ⟨n, rfl, hn, q⟩ := q
  refine ⟨n, i.int, ⟨by omega, by omega, by omega, by omega, by omega⟩, fun q' nq => ?_⟩
  have : ∀ l : List Nat, IsA K M (hid m H1) (l.map fun i : Nat => V.int ((0 : Int) + (i : Nat))) (l.map fun i : Nat => D.int i) := fun l => by
    induction l with
    | nil => exact .nil
    | cons a l ih => rw [List.map_cons, List.map_cons, Int.zero_add]; exact .cons (.int _) ih
  have e : rgV 0 (n : Int) = (List.range n).map fun i : Nat => V.int ((0 : Int) + (i : Nat)) := by
    unfold rgV
    rw [show ((n : Int) - 0).toNat = n by omega]
  rw [e]
  exact Wn.tup (I.hx.step s) (Wn.mono s q) nq (this _) (by rw [List.length_map, List.length_range, sizeLine_eq]; exact hn)
end
/-! ### s.startswith(t, i) -/
def gSStarts2 : FM := fun o ds Q => match o, ds with
  | .str x, [.str y, .int i] => ∃ j : Nat, i = j ∧ Q (.bl (atL x y j))
  | _, _ => False
theorem mo_gSStarts2 : MoM gSStarts2 := fun o a Q Q' h q => by
  unfold gSStarts2 at q ⊢
  split at q
  · obtain ⟨j, e, q⟩ := q
    exact ⟨j, e, h _ q⟩
  · exact q
def rSStarts2 : V → List V → Hp → VK → Prop := fun x xs H Q => ∃ (a b : Str) (i : Int), x = .str a ∧ xs = [.str b, .int i] ∧ Q (.bl (Txt.startswith3 a b i)) H
theorem m_sstarts2 {K : Fg0} {X : Cx} : MR K X "str.startswith" rSStarts2 gSStarts2 := by
  refine ⟨mt_startswith3, fun M m H v vs d ds Q h i ii q => ?_, mo_gSStarts2⟩
  unfold gSStarts2 at q
  split at q
  · rename_i x y i'
    obtain ⟨j, rfl, q⟩ := q
    obtain ⟨v, w, rfl, j1, j2⟩ := ii.two
    refine ⟨_, _, _, i.str.1, by rw [j1.str.1, j2.int], ?_⟩
    have e : Txt.startswith3 (S x) (S y) (j : Int) = atL x y j := by
      have := at_S (x := x) (y := y) (i := j)
      unfold StrLaws.At at this
      unfold Txt.startswith3
      rw [Bool.eq_iff_iff, ← this, Bool.and_eq_true, decide_eq_true_eq]
      rw [show fromIndex (S x).length (j : Int) = j by unfold fromIndex; rw [if_neg (by omega)]; omega]
    rw [e]
    exact Wn.bl h q
  · exact q.elim
/-! ### tuple * int, none of times too -/
theorem tuple_mul0 (l : Addr) (items : Array Value) (n : Nat) (dd : Option Addr) (sl : Array (Option Value)) (u : Tok) (c1 : (items.isEmpty || (0 : Int) == 1) = false) :
    Meets (Builtin.«tuple.__mul__» ⟨[.ref l, .int 0 u], []⟩) (fun _ R s => s.heap.get? l = some { cls := .type "tuple", dict := dd, data := .seq items n, slots := sl } ∧
      R (.ok (.ret (Value.ref s.heap.objs.size))) { s with heap := s.heap.push { cls := Value.type "tuple", data := Data.seq #[] }, toks := s.toks }) :=
  .of_wp fun prog w A R s h => by
    obtain ⟨hp, g, d, tk, os⟩ := s
    obtain ⟨hl, h⟩ := h
    have f1 := AutoSeq1.idx_int
    have c0 : (decide ((0 : Int) < -(2 ^ 63)) || decide ((0 : Int) ≥ 2 ^ 63)) = false := by decide
    have c2 : (decide ((0 : Int) ≤ 0) || items.isEmpty) = true := by rw [show decide ((0 : Int) ≤ 0) = true by decide, Bool.true_or]
    wp_walk using AutoSeq1.wpAny_loadPart' hl
    repeat (first
      | (refine wpAny_ite_false (decide_eq_false (by rw [c0]; exact Bool.false_ne_true)) ?_; wp_walk using AutoSeq1.wpAny_loadPart' hl)
      | (refine wpAny_ite_false (decide_eq_false (by rw [c1]; exact Bool.false_ne_true)) ?_; wp_walk using AutoSeq1.wpAny_loadPart' hl)
      | (refine wpAny_ite_true (decide_eq_true c2) ?_; wp_walk using AutoSeq1.wpAny_loadPart' hl))
    exact ⟨_, rfl, h⟩
def rRepT0 (K : Fg0) : R2 := fun x y H Q => ∃ l xs, x = .ref l ∧ y = .int 0 ∧ SqT K H l xs ∧ xs ≠ [] ∧ ∀ p, H p = none → Q (.ref p) (upd H p (.tup []))
theorem op_repT0 {X : Cx} : OpR X (binaryOp .Mult) (rRepT0 X.K) := by
  intro pins s σ H x y v u Q I rx ry h
  obtain ⟨l, xs, rfl, rfl, hT, hne, q⟩ := h
  cases rx
  obtain ⟨t, rfl⟩ := ry
  obtain ⟨its, r, ⟨⟨cls, dd, data, sl⟩, ho, hc, n, hd⟩, hs⟩ := I.tuple hT
  simp only at hc hd
  subst hc hd
  have hle : its.length = xs.length := r.length.symm
  have c1 : (its.toArray.isEmpty || (0 : Int) == 1) = false := by
    cases its with
    | nil => exact absurd (List.length_eq_zero_iff.mp hle.symm) hne
    | cons a r => rfl
  refine wpAny_binaryOp_repeat_ref (T := "tuple") (U := "int") (by decide) ⟨_, ho, rfl⟩ (fun s' => typeIs_int s' 0 t) noFill_tuple_mul PySem.F.fills_int_mul PySem.F.slot_int_rmul repeat_tuple PySem.F.slot_int_index.lookup
    (call_meets PySem.F.slot_int_rmul (typeIs_int s 0 t) PySem.F.entry_int_rmul (PySem.F.args_int_rmul_2 _ _) (int_rmul_tuple 0 t l its.toArray n dd sl)
      ⟨ho, rfl, ⟨_, ho, rfl⟩, call_meets PySem.F.slot_tuple_mul ⟨_, ho, rfl⟩ PySem.F.entry_tuple_mul (PySem.F.args_tuple_mul_2 _ _) (tuple_mul0 l its.toArray n dd sl t c1) ⟨ho, ?_⟩⟩)
  refine ⟨.ref s.heap.objs.size, upd H s.heap.objs.size (.tup []), I.laid (t' := s.toks) (fun b o e => Heap.get?_push_of_some _ e) (Nat.le_refl _) (show ObjOk X.prog X.w _ _ _ (.tup []) from ⟨by rw [sizeLine_eq]; decide, [], .nil, IsTup.new _ _⟩), rfl, q _ (I.hok.fresh (Nat.le_refl _))⟩
def gMulT0 : F2 := fun a b Q => match a, b with
  | .tup xs, .int k => xs ≠ [] ∧ 0 ≤ k ∧ k ≤ 1000 ∧ xs.length ≤ 1000 ∧ Q (.tup (List.replicate k.toNat xs).flatten)
  | _, _ => False
theorem mo_gMulT0 : Mo2 gMulT0 := fun a b Q Q' h q => by
  unfold gMulT0 at q ⊢
  split at q
  · exact ⟨q.1, q.2.1, q.2.2.1, q.2.2.2.1, h _ q.2.2.2.2⟩
  · exact q
theorem rd_mulT0 {K : Fg0} : R2d K (fun x y H Q => (fun x y H Q => rRepT K x y H Q ∨ rRepT1 K x y H Q) x y H Q ∨ rRepT0 K x y H Q) gMulT0 := fun M m H x y a b Q h ia ib q => by
  unfold gMulT0 at q
  split at q
  · rename_i xs k
    obtain ⟨h1, h2, h3, h4, q⟩ := q
    by_cases e : k = 0
    · subst e
      obtain ⟨p, vs, rfl, r, k1, t, z⟩ := ia.tup
      refine .inr ⟨p, vs, rfl, ib.int, r, fun e2 => h1 ?_, fun l n => Wn.tup h q n .nil (by rw [sizeLine_eq]; exact Nat.zero_le _)⟩
      have := k1.length
      rw [e2] at this
      exact List.length_eq_zero_iff.mp this.symm
    · exact .inl (rd_mulT M m H x y _ _ Q h ia ib ⟨h1, by omega, h3, h4, q⟩)
  · exact q.elim
theorem e_mulT0 {K : Fg} {X : Cx} {a b : Expr} {ta tb : TE} {fa fb : FE} {pos : Pos} (ha : DT K X a ta fa) (hb : DT K X b tb fb) (hK : X.K = K := by rfl) : DE K X (.BinOp a .Mult b pos) (tOp (fun x y H Q => (fun x y H Q => rRepT K x y H Q ∨ rRepT1 K x y H Q) x y H Q ∨ rRepT0 K x y H Q) ta tb) (f2 gMulT0 fa fb) := by
  obtain ⟨K, stK⟩ := K
  replace hK : X.K = K := hK
  subst hK
  exact e_bin ((op_repT.or op_repT1).or op_repT0) rd_mulT0 mo_gMulT0 ha hb
/-! words: all steps -/
end Pl

/-! lambdas without parameters, handed to a def that hears what they tell -/
namespace Pl
open PySem PySem.Spec PyProof.Rows L2
open LamX (CodeO TabS Tabs TabB LamS lamEnv lamCx)

/-! ### a lambda is made -/
section
variable {X : Cx} {pins : List (Addr × Obj)} {σ : L2.St} {H : Hp} {s : Shared} {tb : List (Addr × Str)} {c P : Addr} {q : Str}
/-- the tables, one of them longer by the new code object -/
theorem tabs_grown {ps : Array Value} {pos : Pos} (hP : H P = some (.tbl ps)) (ok : TriplesOk ps.toList) (all : ∀ (p : Pos) (u : Value), codeAmong p ps.toList = some u → ∃ k, u = .ref k ∧ H k = some (CodeO k q)) (n : H c = none)
    (T : Tabs tb H) (one : ∀ e ∈ tb, e.1 = P → e.2 = q) : Tabs tb (upd (upd H P (.tbl (ps ++ #[rawInt pos.line, rawInt pos.col, .ref c]))) c (CodeO c q)) := by
  have stay : ∀ k r, H k = some (CodeO k r) → upd (upd H P (.tbl (ps ++ #[rawInt pos.line, rawInt pos.col, .ref c]))) c (CodeO c q) k = some (CodeO k r) := fun k r e => by
    rw [upd_ne (ne_of_none e n), upd_ne fun z => LamX.codeO_ne ps (Option.some.inj ((by rw [← z]; exact e.symm : some (CodeO k r) = H P).trans hP))]
    exact e
  have long : (ps ++ #[rawInt pos.line, rawInt pos.col, Value.ref c]).toList = ps.toList ++ [rawInt pos.line, rawInt pos.col, .ref c] := by simp
  intro e he
  by_cases w : e.1 = P
  · rw [one e he w, w]
    refine ⟨_, (upd_ne (ne_of_none hP n)).trans upd_same, long ▸ TriplesOk_snoc _ _ _ _ ok, fun p u hu => ?_⟩
    rw [long] at hu
    rcases LamX.among_app _ ok hu with z | z
    · exact let ⟨k, k1, k2⟩ := all p u z; ⟨k, k1, stay k q k2⟩
    · exact ⟨c, z, upd_same⟩
  · obtain ⟨ps2, b1, b2, b3⟩ := T e he
    exact ⟨ps2, by rw [upd_ne (ne_of_none b1 n), upd_ne w]; exact b1, b2, fun p u hu => let ⟨k, k1, k2⟩ := b3 p u hu; ⟨k, k1, stay k _ k2⟩⟩
/-- all but the table at P stays -/
theorem lam_new {params : Arguments} {body : Expr} {scope : Scope} {pos : Pos} {E Q : Value → Shared → Prop} (I : Inv X pins σ H s) (TB : TabB X.base X.mg c P) (own : X.env.code = .ref c) (mem : (P, X.env.qual ++ "<lambda>") ∈ tb)
    (one : ∀ e ∈ tb, e.1 = P → e.2 = X.env.qual ++ "<lambda>") (T : Tabs tb H) (df : defaultsOf params X.env = ([], [])) (fr : ∀ y ∈ scope.names, y.2 = .free → ∃ k, X.env.cells.lookup y.1 = some k)
    (go : ∀ (f c' : Addr) (pm ctv : Value) (H1 : Hp) (s1 : Shared), Inv X pins σ H1 s1 → (∀ b o, b ≠ P → H b = some o → H1 b = some o) → Tabs tb H1 →
      s1.heap.get? f = some (PySem.W.kla_obj "<lambda>" (X.env.qual ++ "<lambda>") params body scope (cloFrom X.env.cells scope.names []) pm c' ctv) → H1 f = none → f ∉ frs X.stack → H1 c' = some (CodeO c' (X.env.qual ++ "<lambda>")) → Q (.ref f) s1) :
    wpAny (model X.prog X.w) X.A (eval (.Lambda params body scope pos) X.env) Q E s := by
  obtain ⟨ps, eP, ok, all⟩ := T _ mem
  have inP : s.heap.get? P = some { cls := .none, data := .fields ps } := I.hok P _ eP
  have outF : ∀ f, s.heap.objs.size ≤ f → f ∉ frs X.stack := fun f hf z => (List.mem_cons.mp (I.stkSub _ z)).elim (fun e => Nat.lt_irrefl _ (Nat.lt_of_lt_of_le (e ▸ I.lt) hf)) fun e => I.nofs hf e
  refine PySem.W.kla_eval df ?_
  cases am : codeAmong pos ps.toList with
  | some u =>
    obtain ⟨c', rfl, hit⟩ := all pos u am
    refine PySem.W.kla_makeFunctionHit (mg := X.mg) (c := c) (P := P) (ps := ps) (closure_ok fr) I.ok.glob (I.mod.glob.keeps I.bk) own (TB.code.keeps I.bk) inP ok am (TB.bm.keeps I.bk) fun ctv h1 tk up sz => ?_
    refine go h1.objs.size c' _ ctv H { s with heap := h1.push _, toks := tk } (I.kept fun b o e => Heap.get?_push_of_some _ (up b o e)) (fun _ _ _ e => e) T (Heap.get?_push_size _ rfl) (I.hok.fresh sz) (outF _ sz) hit
  | none =>
    refine PySem.W.kla_makeFunction (mg := X.mg) (c := c) (P := P) (ps := ps) (closure_ok fr) I.ok.glob (I.mod.glob.keeps I.bk) own (TB.code.keeps I.bk) inP ok am TB.gP (TB.bm.keeps I.bk) fun c' ctv h1 tk up ge lt rec tab => ?_
    obtain ⟨c2, oc, vs, t, z, hoc, hd, hv⟩ := rec
    cases z
    have nC : H c' = none := I.hok.fresh ge
    have sz : s.heap.objs.size ≤ h1.objs.size := Nat.le_trans ge (Nat.le_of_lt lt)
    refine go h1.objs.size c' ((X.mg "__name__").getD .none) ctv _ _ (LamX.inv_table (t' := tk) (more := #[rawInt pos.line, rawInt pos.col, .ref c']) (h' := h1.push (PySem.W.kla_obj "<lambda>" (X.env.qual ++ "<lambda>") params body scope (cloFrom X.env.cells scope.names []) ((X.mg "__name__").getD .none) c' ctv)) I eP
      (fun b o hb e => Heap.get?_push_of_some _ (up b o hb e)) (Heap.get?_push_of_some _ tab) ge ⟨oc, vs, t, Heap.get?_push_of_some _ hoc, hd, hv⟩) (fun b o w e => by rw [upd_ne (ne_of_none e nC), upd_ne w]; exact e) (tabs_grown eP ok all nC T one) (Heap.get?_push_size _ rfl) ?_ (outF _ sz) upd_same
    rw [upd_ne (Nat.ne_of_gt lt), upd_ne (Nat.ne_of_gt (Nat.lt_of_lt_of_le (Heap.lt_size inP) sz))]
    exact I.hok.fresh sz
end

/-! ### it is called -/
section
variable {X : Cx} {pins : List (Addr × Obj)} {σ : L2.St} {H : Hp} {s : Shared}
/-- x(), in the def that got it: what an exception meets may lean on that def's frame -/
theorem pe_run {CXg : CXT} {Eg : XK} {Ng : List Str} {qg : Str} {sg : Scope} {g f c' : Addr} {cdg pm ctv : Value} {params : Arguments} {body : Expr} {scope : Scope} {k i : Nat} {a : Str} {pn : List (Addr × Obj)} {xe : Value → Shared → Prop} {W : WX} {tL : XK → TE} {p1 p2 : Pos}
    (I : Inv X pins σ H s) (L : LamS X.env.scope scope) (at_ : s.heap.get? f = some (PySem.W.kla_obj "<lambda>" (X.env.qual ++ "<lambda>") params body scope (cloFrom X.env.cells scope.names []) pm c' ctv)) (nf : H f = none) (ff : f ∉ frs X.stack)
    (none_ : bindArgs (PySem.W.kla_fn "<lambda>" (X.env.qual ++ "<lambda>") params body scope (cloFrom X.env.cells scope.names []) pm (.ref c') ctv) ⟨[], []⟩ = pure [])
    (tk : Takes ((cxOf CXg X.prog X.w X.K X.mg X.base Ng qg sg g cdg X.A X.stack s H Eg).tr pn xe) W) (hr : Room (k + 1) (X.A.deeper (envOfC qg sg s.heap.objs.size g cdg)))
    (run : ∀ (A : Around) (outer : List Env) (s : Shared) (H : Hp) (E : XK), Room k (A.deeper (lamEnv X scope s.heap.objs.size f c')) → A.guards = X.A.guards → PE (lamCx X A outer s H E scope f c') body (tL E)) (hg : (X.A.deeper (envOfC qg sg s.heap.objs.size g cdg)).guards = X.A.guards)
    (hN : Ng[i]? = some a) (hv : Vis sg a) (hd : (a == ("__debug__" : Str)) = false := by decide) (hcd : (a == ("__classdict__" : Str)) = false := by decide) :
    PE ((cxOf CXg X.prog X.w X.K X.mg X.base Ng qg sg g cdg X.A X.stack s H Eg).tr pn xe) (.Call (.Name a p1) [] [] p2)
      (fun σZ HZ Q => σZ[i]? = some (some (.ref f)) ∧ HZ c' = some (CodeO c' (X.env.qual ++ "<lambda>")) ∧ tL (fun cls d H' => W cls d σZ H') σ HZ Q) := by
  refine ⟨fun pz sz τ G Q J ⟨w1, w2, w3⟩ => ?_⟩
  refine wpAny_Call_Name_kw (thn ((pe_var (pos := p1) (i := i) hN hv hd hcd).run pz sz τ G (fun v G1 => v = .ref f ∧ G1 = G) J ⟨.ref f, w1, rfl, rfl⟩) fun u s1 ⟨v, G1, J1, r1, ev, eG⟩ => ?_)
  subst ev
  rw [eG] at J1
  obtain rfl : u = Value.ref f := r1
  have fn1 := J1.base.keep f _ at_ nf ff (fun z => nomatch (show f ∈ ([] : List Addr) from z))
  refine PySem.W.callWith_F0 ⟨_, _, _, _, fn1⟩ ?_
  obtain ⟨⟨oc, vs, t, b1, b2, b3⟩, _, _⟩ := J1.hok c' _ w2
  have go : codeAny (model X.prog X.w) (X.A.deeper (envOfC qg sg s.heap.objs.size g cdg)) (.call (.ref f) ⟨[], []⟩) (L2.CR (L2.CX X.prog X.w) (envOfC qg sg s.heap.objs.size g cdg :: X.stack) X.prog X.w G s1 Q (fun cls d H' => W cls d τ H')) s1 := by
    refine PySem.W.kla_callFunE hr.depth fn1 rfl L.co L.gen rfl ⟨c', oc, vs, t, rfl, b1, b2, b3⟩ ?_
    rw [none_]
    refine wpAny_pure (wpAny_newFunctionEnv (fun y m => (L.own y m).2) (fun y m => absurd m (by simp)) (fun h1 ns1 up => ⟨J1.nolimit.fresh _ up, ?_⟩) L.kind)
    show codeAny _ _ (.expr body (lamEnv X scope s1.heap.objs.size f c')) _ _
    have J2 : Inv (lamCx X (X.A.deeper (envOfC qg sg s.heap.objs.size g cdg)) (envOfC qg sg s.heap.objs.size g cdg :: X.stack) s1 G (fun cls d H' => W cls d τ H') scope f c') [] σ G { s1 with heap := h1, toks := s1.toks + ([] : List (Str × Value)).length } :=
      LamX.lam_start2 I L J1.env0 hr.hd J1.base ns1 (fun b o e => up.extBut b o (Nat.ne_of_lt (Heap.lt_size e)) (Heap.get?_push_of_some _ e))
    refine PySem.W.kla_codeExpr (wpAny_mono ((run _ _ s1 G _ (hr.deeper _) hg).run [] _ _ G Q J2 w3) (fun v s2 ⟨v2, G2, J3, rv, z⟩ => ⟨v2, G2, J3.os, J3.bare, J3.base, J3.hok, rv, z⟩) fun e s2 z => z)
  refine wpAny_call (codeAny_mono go fun r s2 z => ?_)
  cases r with
  | ok fl =>
    cases fl with
    | ret u => exact J1.after z
    | next => exact False.elim z
    | brk => exact False.elim z
    | cont => exact False.elim z
  | error e => exact passAt tk τ pz G s1 e s2 J1 z
end
end Pl

/-! a def that hears a lambda, by plain data -/
namespace Pl
open PySem PySem.Spec PyProof.Rows L2
open LamX (CodeO TabS Tabs TabB LamS lamEnv lamCx)

/-! ### a frame's plain data as a frame of its own -/
def Sl.pln : Sl → Sl
  | .d x => .d x
  | _ => .un
def plainly (ρ : En) : En := ρ.map Sl.pln
theorem EnOk.root {K : Fg} {sg : Ml → Hp → (Addr → Prop) → Prop} {M : Ml} {H0 H : Hp} {z m : Addr → Prop} {σ : L2.St} {ρ : En} (I : EnOk K M H0 z m H σ ρ) (h : sg M H m) : EnOk ⟨K.fr, sg⟩ M H m m H σ (plainly ρ) := by
  have at_ : ∀ (i : Nat) s, (plainly ρ)[i]? = some s → ∃ s0, ρ[i]? = some s0 ∧ s = s0.pln := fun i s e => by
    unfold plainly at e
    rw [List.getElem?_map, Option.map_eq_some_iff] at e
    exact let ⟨s0, e1, e2⟩ := e; ⟨s0, e1, e2.symm⟩
  refine ⟨h, .refl I.ok, I.mw, fun _ h => h, I.tr, I.tr, by rw [I.len]; unfold plainly; rw [List.length_map], fun i s e => ?_, fun i j p s t e1 e2 o1 o2 _ _ => ?_⟩
  · obtain ⟨s0, e0, rfl⟩ := at_ i s e
    have := I.slot i s0 e0
    cases s0 with
    | d x => exact this
    | un => trivial
    | ol xs => trivial
    | od xs => trivial
    | ot xs => trivial
    | ex a d fs => trivial
  · obtain ⟨s0, e0, rfl⟩ := at_ i s e1
    cases s0 <;> exact o1.elim
/-- the frame of a def that got a lambda -/
def hent (n : Nat) (f : Addr) : En := (ent n []).set 0 (.ex f none [])
theorem start_one {N : List Str} {a : Str} (h : N[0]? = some a) (v : V) : (L2.start N []).set 0 (some v) = L2.start N [v] := by
  cases N with
  | nil => cases h
  | cons x N => simp [L2.start, List.replicate_succ]
theorem hent_ok {K : Fg} {M : Ml} {z : Addr → Prop} {H : Hp} {N : List Str} {f : Addr} {a : Str} (hs : K.st M H z) (hx : Hx M z H) (h0 : N[0]? = some a) : EnOk K M H z z H (L2.start N [.ref f]) (hent N.length f) := by
  have I := ent_ok (K := K) (N := N) (vs := []) (ds := []) hs hx .nil (Nat.zero_le _)
  rw [← start_one h0]
  refine I.putS ?_ ⟨rfl, .inl ⟨rfl, rfl⟩⟩ (fun o => False.elim o)
  cases N with
  | nil => cases h0
  | cons x N => unfold ent; rw [uns_eq]; simp

/-! ### what is heard -/
def gHear (tl : List Nat) (he : Xd → D → Prop) (fL : (Xd → Prop) → (D → Prop) → Prop) (Q : D → Prop) : Prop := ∃ (xw : Xd → Prop) (R : D → Prop), fL xw R ∧ (∀ x, xw x → ∃ d, he x d ∧ Q d) ∧ ∀ d, R d → Q (.lst [.str tl, d])
theorem gHear_of {tl : List Nat} {he : Xd → D → Prop} {fL : (Xd → Prop) → (D → Prop) → Prop} {Q : D → Prop} (h : fL (fun x => ∃ d, he x d ∧ Q d) (fun d => Q (.lst [.str tl, d]))) : gHear tl he fL Q := ⟨_, _, h, fun _ q => q, fun _ q => q⟩
theorem mo_gHear {tl : List Nat} {he : Xd → D → Prop} {fL : (Xd → Prop) → (D → Prop) → Prop} {Q Q' : D → Prop} (h : ∀ d, Q d → Q' d) : gHear tl he fL Q → gHear tl he fL Q' := fun ⟨xw, R, q, a, b⟩ => ⟨xw, R, q, fun x w => let ⟨d, h1, h2⟩ := a x w; ⟨d, h1, h _ h2⟩, fun d r => h _ (b d r)⟩
/-- the lambda's reading tL is that of fL, from H on -/
def Lets (K : Fg0) (mg : Str → Option Value) (M : Ml) (z : Addr → Prop) (H : Hp) (fL : (Xd → Prop) → (D → Prop) → Prop) (TL : XK → Hp → VK → Prop) : Prop := ∀ (G : Hp) (E : XK) (xw : Xd → Prop) (R : D → Prop) (Q : VK), Stp M H G →
  (∀ x, xw x → ∀ cls d H', Stp M G H' → XIs K mg M z H' x cls d → E cls d H') → (∀ v d H', Stp M G H' → Is K M (hid z H') v d → R d → Q v H') → fL xw R → TL E G Q
theorem Lets.later {K : Fg0} {mg : Str → Option Value} {M : Ml} {z : Addr → Prop} {H H1 : Hp} {fL : (Xd → Prop) → (D → Prop) → Prop} {TL : XK → Hp → VK → Prop} (h : Lets K mg M z H fL TL) (s : Stp M H H1) : Lets K mg M z H1 fL TL := fun G E xw R Q s' => h G E xw R Q (s.trans s')
abbrev hcx (P : Program) (w : World) (K : Fg0) (mg : Str → Option Value) (base : Heap) (Ng : List Str) (x : Str) (st : Stmt) (g : Addr) (cdv : Value) (A : Around) (outer : List Env) (s : Shared) (H : Hp) : Cx := cxOf CX0 P w K mg base Ng x (defScope st) g cdv A outer s H E0
/-- the body of a def that calls what it got, and hears it -/
def HearB (P : Program) (w : World) (K : Fg0) (mg : Str → Option Value) (base : Heap) (k : Nat) (g : Addr) (x a : Str) (st : Stmt) (Ng : List Str) (tl : List Nat) (he : Xd → D → Prop) : Prop :=
  ∀ (cdv : Value) (A : Around) (outer : List Env) (s : Shared) (H : Hp) (f c' : Addr) (q : Str) (TL : XK → Hp → VK → Prop), Room k (A.deeper (envOfC x (defScope st) s.heap.objs.size g cdv)) → A.guards = some [] →
    (∀ (W : WX) (pn : List (Addr × Obj)) (xe : Value → Shared → Prop) (p1 p2 : Pos), Takes ((hcx P w K mg base Ng x st g cdv A outer s H).tr pn xe) W →
      PE ((hcx P w K mg base Ng x st g cdv A outer s H).tr pn xe) (.Call (.Name a p1) [] [] p2) (fun σ G Q => σ[0]? = some (some (.ref f)) ∧ G c' = some (CodeO c' q) ∧ TL (fun cls d H' => W cls d σ H') G Q)) → H c' = some (CodeO c' q) →
    ∃ t, PSs (hcx P w K mg base Ng x st g cdv A outer s H).nox (defBody st) t ∧ ∀ (M : Ml) (z : Addr → Prop) (fL : (Xd → Prop) → (D → Prop) → Prop) (H0 : Hp) (Q : VK), Stp M H0 H → Hx M z H → Lets K mg M z H fL TL → gHear tl he fL (Wn K M z H0 Q) →
      t { nx := fun _ H' => Q .non H', rt := Q } (L2.start Ng [.ref f]) H
section
variable {P : Program} {w : World} {K : Fg0} {mg : Str → Option Value} {base : Heap} {k : Nat} {g C1 C2 : Addr} {x a m1 m2 n1 n2 tlS : Str} {st : Stmt} {Ng : List Str} {tl : List Nat} {he : Xd → D → Prop} {e1 e2 : Expr} {j : Nat} {p0 p1 p2 p3 p4 np1 np2 rp1 rp2 q1 q2 pos : Pos} {f1 f2 : Addr → Option Addr → List (Str × D) → FE}
/-- try: return [word, a()] / except .. as n: return e / except .. as n: return e -/
theorem hear_of (i1 i2 : Nat) (t1 t2 : List (Str × Bool)) (hbd : defBody st = [.Try [.Return (some (.List [.Constant (.str tlS) j p0, .Call (.Name a p1) [] [] p2] p3)) p4] [.ExceptHandler (some (.Name m1 np1)) (some n1) [.Return (some e1) rp1] q1, .ExceptHandler (some (.Name m2 np2)) (some n2) [.Return (some e2) rp2] q2] [] [] pos])
    (etl : tlS = S tl) (ltl : tl.length ≤ sizeLine) (Sc : FnScope Ng [a] (defScope st)) (h0 : Ng[0]? = some a) (hi1 : Ng[i1]? = some n1) (hk1 : ∀ l cdv, (envOfC x (defScope st) l g cdv).kindOf n1 = some .local) (hi2 : Ng[i2]? = some n2) (hk2 : ∀ l cdv, (envOfC x (defScope st) l g cdv).kindOf n2 = some .local) (hm1 : mg m1 = some (.ref C1)) (hm2 : mg m2 = some (.ref C2))
    (ha1 : ∀ p ∈ t1, ∃ cls, mg p.1 = some cls ∧ PySem.W.exmOne K cls (.ref C1) = some p.2) (hb1 : ∀ p ∈ t1, p.2 = true → p.1 = m1) (ha2 : ∀ p ∈ t2, ∃ cls, mg p.1 = some cls ∧ PySem.W.exmOne K cls (.ref C2) = some p.2) (hb2 : ∀ p ∈ t2, p.2 = true → p.1 = m2)
    (hg1 : (defScope st).names.lookup m1 = some .globalImplicit) (hd1 : (m1 == ("__debug__" : Str)) = false) (hg2 : (defScope st).names.lookup m2 = some .globalImplicit) (hd2 : (m2 == ("__debug__" : Str)) = false)
    (hsu : ∀ (cdv : Value) (A : Around) (outer : List Env) (s : Shared) (H : Hp), Room k (A.deeper (envOfC x (defScope st) s.heap.objs.size g cdv)) → A.guards = some [] → ∃ te1 te2 : Addr → Option Addr → TE,
      (∀ (sg : Ml → Hp → (Addr → Prop) → Prop) (a : Addr) (oe : Obj) (d : Option Addr) (pn : List (Addr × Obj)) (fs : List (Str × D)), Zc (.ref C1) d oe → (∃ vs, oe.data = .fields vs) → DE ⟨K, sg⟩ ((hcx P w K mg base Ng x st g cdv A outer s H).nox.suite a ((a, oe) :: pn)) e1 (te1 a d) (f1 a d fs)) ∧
      (∀ (sg : Ml → Hp → (Addr → Prop) → Prop) (a : Addr) (oe : Obj) (d : Option Addr) (pn : List (Addr × Obj)) (fs : List (Str × D)), Zc (.ref C2) d oe → (∃ vs, oe.data = .fields vs) → DE ⟨K, sg⟩ ((hcx P w K mg base Ng x st g cdv A outer s H).nox.suite a ((a, oe) :: pn)) e2 (te2 a d) (f2 a d fs)))
    (hq : ∀ (f : Addr) (Q : D → Prop) (x : Xd) (d : D), he x d → Q d → tryX t1 i1 f1 (fun ρ' x => tryX t2 i2 f2 (fun _ _ => False) { nx := fun _ => False, rt := Q } ρ' x) { nx := fun _ => False, rt := Q } (hent Ng.length f) x) :
    HearB P w K mg base k g x a st Ng tl he := by
  subst etl
  intro cdv A outer s H f c' q TL hr hG act hc
  rw [hbd]
  obtain ⟨te1, te2, s1, s2⟩ := hsu cdv A outer s H hr hG
  have gl1 : Gl (hcx P w K mg base Ng x st g cdv A outer s H).nox m1 := hg1
  have gl2 : Gl (hcx P w K mg base Ng x st g cdv A outer s H).nox m2 := hg2
  refine ⟨_, pss_one (ps_tryN (X := (hcx P w K mg base Ng x st g cdv A outer s H).nox) (Wo := fun _ _ _ _ => False)
    (tb := fun W => tRet (tLst (tCons (tC (.str (S tl))) (tCons (fun σ G Q => σ[0]? = some (some (.ref f)) ∧ G c' = some (CodeO c' q) ∧ TL (fun cls d H' => W cls d σ H') G Q) tNil))))
    rfl rfl Sc.nd takes0 (fun W pn xe tkW _ => pss_one (ps_ret (pe_lst (pa_cons pe_str (pa_cons (act W pn xe p1 p2 tkW) pa_nil)))))
    (.cons (t := fun a cls d D σ H => cls = .ref C1 ∧ tRet (te1 a d) D σ H) hi1 (hk1 _ _) ⟨gl1, hd1, .inl hm1⟩ (fun a oe cls d pn hz hd => ⟨fun pins s' σ H' D I h => ?_⟩)
      (.cons (t := fun a cls d D σ H => cls = .ref C2 ∧ tRet (te2 a d) D σ H) hi2 (hk2 _ _) ⟨gl2, hd2, .inl hm2⟩ (fun a oe cls d pn hz hd => ⟨fun pins s' σ H' D I h => ?_⟩) .nil))), fun M z fL H0 Q st0 hx lets gq => ?_⟩
  · obtain ⟨rfl, h⟩ := h
    exact (pss_one (ps_ret (s1 (fun _ _ _ => False) a oe d pn [] hz hd).pe)).run pins s' σ H' D I h
  · obtain ⟨rfl, h⟩ := h
    exact (pss_one (ps_ret (s2 (fun _ _ _ => False) a oe d pn [] hz hd).pe)).run pins s' σ H' D I h
  · obtain ⟨xw, R, q1, q2, q3⟩ := gq
    have I : EnOk ⟨K, fun M' H' z' => M' = M ∧ H' = H ∧ z' = z⟩ M H z z H (L2.start Ng [.ref f]) (hent Ng.length f) := hent_ok ⟨rfl, rfl, rfl⟩ hx h0
    have fin : ∀ v H' d, Stp M H H' → Is K M (hid z H') v d → Wn K M z H0 Q d → Q v H' := fun v H' d s i q => q v H' (st0.trans s) i
    have l2 := link_cl (X := (hcx P w K mg base Ng x st g cdv A outer s H).nox) (K := ⟨K, fun M' H' z' => M' = M ∧ H' = H ∧ z' = z⟩) (i := i2) (E := { nx := fun _ => False, rt := Wn K M z H0 Q }) (W := ({ nx := fun _ H' => Q .non H', rt := Q } : Ends)) (Wo := fun _ _ _ _ => False) (xw := fun _ _ => False) ⟨rfl, rfl, rfl⟩ fin hm2 ha2 hb2 (s2 _) (fun _ _ _ _ _ _ _ _ _ h => h.elim)
    have l1 := link_cl (X := (hcx P w K mg base Ng x st g cdv A outer s H).nox) (K := ⟨K, fun M' H' z' => M' = M ∧ H' = H ∧ z' = z⟩) (i := i1) (E := { nx := fun _ => False, rt := Wn K M z H0 Q }) (W := ({ nx := fun _ H' => Q .non H', rt := Q } : Ends)) ⟨rfl, rfl, rfl⟩ fin hm1 ha1 hb1 (s1 _) l2
    have st1 : (L2.start Ng [V.ref f])[0]? = some (some (V.ref f)) := by
      rw [← start_one h0]
      cases Ng with
      | nil => cases h0
      | cons b r => simp [L2.start, List.replicate_succ]
    refine ⟨st1, hc, lets H _ xw R _ (.refl hx.ok) (fun y hy cls dd H' s' xi => ?_) (fun v d H1 s' iv r => ⟨(show 2 ≤ sizeLine by decide), fun p np => ?_⟩) q1⟩
    · obtain ⟨d, hd, qd⟩ := q2 y hy
      exact l1 M H z z H' _ _ (I.step s') y (hq f _ y d hd qd) cls dd xi
    · exact Wn.lst (hx.step s') (Wn.mono (st0.trans s') (q3 d r)) np (.cons (.str tl ltl) (.cons iv .nil)) (show 2 ≤ sizeLine by decide)
end

/-! ### the call of such a def with a lambda -/
def tHear (K : Fg0) (mg : Str → Option Value) (tb : List (Addr × Str)) (tl : List Nat) (he : Xd → D → Prop) (tL : XK → TE) : TE := fun σ H Q => ∃ (M : Ml) (z : Addr → Prop) (fL : (Xd → Prop) → (D → Prop) → Prop),
  (∃ μ δ kind, M = .at μ δ kind tb) ∧ Hx M z H ∧ Lets K mg M z H fL (fun E G Q => tL E σ G Q) ∧ gHear tl he fL (Wn K M z H Q)
def fHear (tl : List Nat) (he : Xd → D → Prop) (fb : (Xd → Prop) → FE) : FE := fun ρ Q => gHear tl he (fun xw R => fb xw (plainly ρ) R) Q
/-- runs with the tables tb -/
def stT (kind : Nat) (tb : List (Addr × Str)) : Ml → Hp → (Addr → Prop) → Prop := fun M _ _ => ∃ μ δ, M = .at μ δ kind tb
section
variable {X : Cx} {K : Fg} {kind k : Nat} {tb : List (Addr × Str)} {x a : Str} {g c Pt : Addr} {st : Stmt} {fd : FuncData} {Ng : List Str} {tl : List Nat} {he : Xd → D → Prop} {params : Arguments} {body : Expr} {scope : Scope} {lpos p pos : Pos} {tL : XK → TE} {fb : (Xd → Prop) → FE}
theorem e_hear (hst : ∀ M H0 z, K.st M H0 z → ∃ μ δ, M = .at μ δ kind tb) (F : Fun X.K x x st g fd) (Sg : FnScope Ng [a] (defScope st)) (hb : Binds X.K fd [a] []) (HB : HearB X.prog X.w X.K X.mg X.base (k + 1) g x a st Ng tl he) (hm : X.mg x = some (.ref g))
    (TB : TabB X.base X.mg c Pt) (mem : (Pt, X.env.qual ++ "<lambda>") ∈ tb) (one : ∀ e ∈ tb, e.1 = Pt → e.2 = X.env.qual ++ "<lambda>") (hr : Room (k + 2) X.A) (hG : X.A.guards = some []) (L : LamS X.env.scope scope)
    (hbody : ∀ (A : Around) (outer : List Env) (s : Shared) (H : Hp) (E : XK) (f c' : Addr) (sg : Ml → Hp → (Addr → Prop) → Prop) (xw : Xd → Prop), Room k (A.deeper (lamEnv X scope s.heap.objs.size f c')) → A.guards = some [] → Takes (lamCx X A outer s H E scope f c') (fun cls d _ H => E cls d H) → LinkX ⟨K.fr, sg⟩ X.mg (fun cls d _ H => E cls d H) (fun _ => xw) →
      DE ⟨K.fr, sg⟩ (lamCx X A outer s H E scope f c') body (tL E) (fb xw))
    (hcode : X.env.code = .ref c) (hK : X.K = K.fr := by rfl) (hdef : defaultsOf params X.env = ([], []) := by rfl) (hbind : ∀ (q : Str) (cl : List (Str × Addr)) (pm cv ctv : Value), bindArgs (PySem.W.kla_fn "<lambda>" q params body scope cl pm cv ctv) ⟨[], []⟩ = pure [] := by exact fun _ _ _ _ _ => rfl)
    (hNg : Ng[0]? = some a := by rfl) (hva : Vis (defScope st) a := by first | exact Or.inl rfl | exact Or.inr (Or.inl rfl) | exact Or.inr (Or.inr rfl)) (hg : Gl X x := by rfl) (hdb : (x == ("__debug__" : Str)) = false := by decide) (hd : (a == ("__debug__" : Str)) = false := by decide) (hcd : (a == ("__classdict__" : Str)) = false := by decide) :
    DE K X (.Call (.Name x p) [.Lambda params body scope lpos] [] pos) (tHear X.K X.mg tb tl he tL) (fHear tl he fb) := by
  obtain ⟨K, stK⟩ := K
  replace hK : X.K = K := hK
  subst hK
  refine ⟨⟨fun pins s σ H Q I ⟨M, z, fL, ⟨μ, δ, kd, eM⟩, hx, lets, gq⟩ => ?_⟩, fun M H0 z m H σ ρ Q I q => ?_, fun ρ Q Q' h q => mo_gHear h q⟩
  · subst eM
    refine wpAny_Call_Name_kw (ld_glob I hg hm ?_ hdb)
    refine PySem.W.callWith_K (h₀ := X.base) I.ok.mod.kin F.kp ?_ (by rfl) (by rfl)
    show wpAny _ _ (spliced ((false, eval (Expr.Lambda params body scope lpos) X.env) :: backTo pos (starEach [] X.env))) _ _ _
    refine Calls.spliced_cons (lam_new I TB hcode mem one hx.ok.1 hdef (L.has I.ok) fun f c' pm' ctv H1 s1 J keep T1 fnAt fnNo fnFr coAt => ?_)
    refine Calls.spliced_nil ⟨J.kIn, ?_⟩
    have step : Stp (.at μ δ kd tb) H H1 := by
      refine ⟨fun b o nw e => keep b o (fun z => nw (.inr (.inr ⟨X.env.qual ++ "<lambda>", z ▸ mem⟩))) e, fun b e => ?_, ?_⟩
      · by_cases z : b = Pt
        · subst z
          obtain ⟨ps, e1, _⟩ := T1 _ mem
          rw [e1]; exact fun q => nomatch q
        · cases e2 : H b with
          | none => exact absurd e2 e
          | some o => rw [keep b o z e2]; exact fun q => nomatch q
      · obtain ⟨T, ne, ns, i, j, h1, h2, r⟩ := hx.ok
        obtain ⟨ps, e1, _⟩ := T _ mem
        exact ⟨T1, ne, ns, i, j, keep μ _ (fun z => by subst z; rw [e1] at h1; cases h1) h1, keep δ _ (fun z => by subst z; rw [e1] at h2; cases h2) h2, r⟩
    have rc : codeAny (model X.prog X.w) X.A (.call (.ref g) ⟨[.ref f], []⟩) (L2.CR CX0 X.stack X.prog X.w H1 s1 Q E0) s1 := by
      have hbs := hb s1 [.ref f] J.kIn rfl
      obtain ⟨oc, od, kV, doc, pm, an, cdv, ct, osl, rfl, lk, hcg⟩ := F.ex
      refine LamX.run_ofS (k := k + 1) (N := Ng) (ps := [a]) (us := [.ref f]) (vs := [.ref f]) lk hcg Sg hr J.env0 hbs (.cons rfl .nil) rfl fun hr2 => ?_
      obtain ⟨t, ht, hq⟩ := HB cdv X.A X.stack s1 H1 f c' _ (fun E G Q => tL E σ G Q) hr2 hG (fun W pn xe p1 p2 tk => pe_run (i := 0) J L fnAt fnNo fnFr (hbind _ _ _ _ _) tk hr2
        (fun A outer s H E r3 gg => (hbody A outer s H E f c' (fun _ _ _ => False) (fun _ => False) r3 (gg.trans hG) (takes_of (E := E) rfl rfl rfl rfl) fun _ _ _ _ _ _ _ _ _ z => z.elim).pe) rfl hNg hva hd hcd) coAt
      exact ⟨t, ht.nox, hq _ z fL H Q step (hx.step step) (lets.later step) gq⟩
    refine wpAny_call (codeAny_mono rc fun r s2 hq => ?_)
    cases r with
    | ok fl =>
      cases fl with
      | ret u => exact J.after hq
      | next => exact False.elim hq
      | brk => exact False.elim hq
      | cont => exact False.elim hq
    | error e => exact (show False from hq).elim
  · obtain ⟨μ, δ, eM⟩ := hst _ _ _ I.st
    refine ⟨M, m, fun xw R => fb xw (plainly ρ) R, ⟨μ, δ, kind, eM⟩, I.hx, fun G E xw R Q' s exc val q' => ?_, q⟩
    have J : EnOk ⟨X.K, fun M' H' z' => M' = M ∧ H' = G ∧ z' = m⟩ M G m m G σ (plainly ρ) := (I.step s).root ⟨rfl, rfl, rfl⟩
    have lk : LinkX ⟨X.K, fun M' H' z' => M' = M ∧ H' = G ∧ z' = m⟩ X.mg (fun cls d _ H => E cls d H) (fun _ => xw) := fun M' H0' z' m' H' σ' ρ' I2 y hy cls d xi => by
      obtain ⟨rfl, rfl, rfl⟩ := I2.st
      exact exc y hy cls d H' I2.stp ⟨xi.1, xi.2.mono (hid_less I2.zm)⟩
    have D := hbody X.A X.stack X.s_0 X.H_0 E 0 0 _ xw ((hr.mono (show k + 1 ≤ k + 2 by omega)).deeper _) hG (takes_of (E := E) rfl rfl rfl rfl) lk
    exact D.rd M G m m G σ (plainly ρ) Q' J (D.mo _ _ _ (fun d r v H' s2 iv => val v d H' s2 iv r) q')
end

/-! ### calls within a lambda -/
section
variable {X : Cx} {A : Around} {outer : List Env} {s : Shared} {H : Hp} {E : XK} {scope : Scope} {fl cl : Addr} {K : Fg} {W : WX} {xw : En → Xd → Prop} {k : Nat} {f : Addr} {fd : FuncData} {ps : List Str} {g : FLX} {x : Str} {p pos : Pos} {e : Expr} {es : List Expr} {t : TA} {fa : FA}
theorem e_callL (F : FnX X.prog X.w X.K X.mg X.base k f fd ps g) (tk : Takes (lamCx X A outer s H E scope fl cl) W) (hL : LinkX K X.mg W xw) (hr : Room k (A.deeper (lamEnv X scope s.heap.objs.size fl cl))) (hG : A.guards = some []) (hm : X.mg x = some (.ref f)) (hk : PySem.W.keepIn X.K (.ref f) = true) (hb : Binds X.K fd ps [])
    (ha : DA K (lamCx X A outer s H E scope fl cl) (e :: es) t fa) (hK : X.K = K.fr := by rfl) (hg : Gl (lamCx X A outer s H E scope fl cl) x := by rfl) (hdb : (x == ("__debug__" : Str)) = false := by decide) (he : starEach (e :: es) (lamEnv X scope s.heap.objs.size fl cl) = (false, eval e (lamEnv X scope s.heap.objs.size fl cl)) :: starEach es (lamEnv X scope s.heap.objs.size fl cl) := by rfl) (hpl : (backTo pos (starEach es (lamEnv X scope s.heap.objs.size fl cl))).any (·.1) = false := by rfl) :
    DE K (lamCx X A outer s H E scope fl cl) (.Call (.Name x p) (e :: es) [] pos) (tCallX (SpX X.K X.mg g) W t) (fCallX xw g fa) := by
  obtain ⟨K, stK⟩ := K
  replace hK : X.K = K := hK
  subst hK
  exact e_callX (X := lamCx X A outer s H E scope fl cl) (K := ⟨X.K, stK⟩) F tk hL hr hG hm hk hb ha rfl hg hdb he hpl
variable {kws : List Keyword} {tkw : TA} {ks : List Str} {fk : FA}
theorem e_callLK0 (π : List Nat) (F : FnX X.prog X.w X.K X.mg X.base k f fd ps g) (tk : Takes (lamCx X A outer s H E scope fl cl) W) (hL : LinkX K X.mg W xw) (hr : Room k (A.deeper (lamEnv X scope s.heap.objs.size fl cl))) (hG : A.guards = some []) (hm : X.mg x = some (.ref f)) (hk : PySem.W.keepIn X.K (.ref f) = true) (hb : KBd X.K fd ps ks 0 π)
    (hkw : DK K (lamCx X A outer s H E scope fl cl) kws tkw fk) (hK : X.K = K.fr := by rfl) (hg : Gl (lamCx X A outer s H E scope fl cl) x := by rfl) (hall : (backToKw pos (keywordEach kws (lamEnv X scope s.heap.objs.size fl cl))).all (·.1.isSome) = true := by rfl) (hks : (backToKw pos (keywordEach kws (lamEnv X scope s.heap.objs.size fl cl))).filterMap (·.1) = ks := by rfl)
    (hdb : (x == ("__debug__" : Str)) = false := by decide) (hpl : ((backTo pos (starEach [] (lamEnv X scope s.heap.objs.size fl cl))).any (·.1) || (backToKw pos (keywordEach kws (lamEnv X scope s.heap.objs.size fl cl))).any (·.1.isNone)) = false := by rfl) :
    DE K (lamCx X A outer s H E scope fl cl) (.Call (.Name x p) [] kws pos) (tCallXK (SpX X.K X.mg g) W 0 ks.length π tNil tkw) (fLKX xw g 0 ks.length π aNil fk) := by
  obtain ⟨K, stK⟩ := K
  replace hK : X.K = K := hK
  subst hK
  exact e_callXK0 (X := lamCx X A outer s H E scope fl cl) (K := ⟨X.K, stK⟩) π F tk hL hr hG hm hk hb hkw rfl hg hall hks hdb hpl
end
end Pl

/-! a law that makes lambdas: its def, its end -/
namespace Pl
open PySem PySem.Spec PyProof.Rows L2
open LamX (CodeO TabS Tabs TabB LamS lamEnv lamCx)

def SpLawT (K : Fg0) (tb : List (Addr × Str)) : List V → Hp → VK → Prop := fun vs H Q => ∃ (a : Addr) (ns : List Int), vs = [.ref a] ∧ SqL K H a (ns.map V.int) ∧ ns.length ≤ 63 ∧ (∀ p ∈ tb, H p.1 = some (.tbl #[])) ∧ ∀ H', Q (.bl true) H'
theorem len_SpLawT {K : Fg0} {tb : List (Addr × Str)} {x : Str} : ∀ vs H Q, SpLawT K tb vs H Q → vs.length = [x].length := fun vs H Q ⟨a, ns, e, _⟩ => by rw [e]; rfl
/-- a def of the text, its code object named -/
def FunC (K : Fg0) (x qual : Str) (st : Stmt) (f : Addr) (fd : FuncData) (c : Addr) : Prop := ∃ (oc : Value) (od an : Option Addr) (osl : Array (Option Value)) (kV doc pm ct : Value), fd = PySem.W.fnOf x qual (defArgs st) (defBody st) (defScope st) .none kV doc pm an (.ref c) ct ∧
  K.lookup f = some ⟨oc, od, .func fd, osl⟩ ∧ PySem.W.codeIn K (.ref c) qual = true
section
variable {P : Program} {w : World} {K : Fg0} {mg : Str → Option Value} {base : Heap} {k : Nat} {f c : Addr} {fd : FuncData} {x qual : Str} {st : Stmt} {N ps : List Str} {sp : List V → Hp → VK → Prop}
theorem fnS_rawC (F : FunC K x qual st f fd c) (S : FnScope N ps (defScope st)) (len : ∀ vs H Q, sp vs H Q → vs.length = ps.length)
    (body : ∀ (A : Around) (outer : List Env) (s : Shared) (H : Hp) (vs : List V) (Q : VK), Room k (A.deeper (envOfC qual (defScope st) s.heap.objs.size f (.ref c))) → A.guards = some [] → sp vs H Q →
      ∃ t, PSs (cxOf CX0 P w K mg base N qual (defScope st) f (.ref c) A outer s H E0).nox (defBody st) t ∧ t { nx := fun _ H' => Q .non H', rt := Q } (L2.start N vs) H) : FnS P w K mg base (k + 1) f fd ps sp := by
  obtain ⟨oc, od, an, osl, kV, doc, pm, ct, rfl, lk, hcd⟩ := F
  refine ⟨len, fun A outer s H args us vs Q hr hG e0 hb r sp => ?_⟩
  have hl : vs.length = ps.length := len _ _ _ sp
  have KX : K.In s.heap := e0.mod.kin.keeps fun b o e => (e0.bs b o e).1
  have lim : s.heap.NoLimit := e0.mod.nolimit.keeps fun b o e => (e0.bs b o e).1
  refine codeAny_call_function hr.depth (KX _ _ lk) rfl S.co S.gen rfl (PySem.W.codeRec_of KX hcd) (hb _ _ _ _ ?_)
  refine wpAny_newFunctionEnv_cells S.kind (fun ⟨n, v⟩ hy => ?_) fun env he s1 x1 => ?_
  · rcases S.par n (List.of_mem_zip hy).1 with q | q
    · exact .inl q
    · exact .inr ⟨q, PySem.W.cellsFrom_some _ _ _ (.inl q)⟩
  · subst he
    refine ⟨lim.keeps x1.toInCall.keep, codeAny_func ?_⟩
    obtain ⟨t, hbd, q'⟩ := body A outer s H vs Q (hr.deeper _) hG sp
    have I := inv_start (CX := CX0) (E := E0) S hr.hd e0 hl r x1
    have run := hbd.nox.run [] s1 (L2.start N vs) H ({ nx := fun _ H' => Q .non H', rt := Q } : Ends) I q'
    refine wpAny_mono run (fun fl s' hs => ?_) fun e s' hs => hs
    cases fl with
    | ret u =>
      obtain ⟨v, σ', H', J, rv, q⟩ := hs
      exact ⟨v, H', J.os, J.bare, J.base, J.hok, rv, q⟩
    | next =>
      obtain ⟨σ', H', J, q⟩ := hs
      exact ⟨.non, H', J.os, J.bare, J.base, J.hok, rfl, q⟩
    | brk => obtain ⟨_, _, _, q⟩ := hs; exact q.elim
    | cont => obtain ⟨_, _, _, q⟩ := hs; exact q.elim
end
section
variable {K : Fg0} {kind i : Nat} {a : Addr} {ns : List Int} {N : List Str} {u : TS} {b : FS} {tb : List (Addr × Str)}
theorem law_restT {H H' : Hp} {μ δ : Addr} {W : Ends} (hb : RdS ⟨K, stT kind tb⟩ u b) (hS : SqL K H a (ns.map V.int)) (hl : ns.length ≤ 63) (hT : ∀ p ∈ tb, H p.1 = some (.tbl #[])) (s : Stp .no H H') (nμ : H μ = none) (nδ : H δ = none) (ok : (Ml.at μ δ kind []).ok H') (hN : i < N.length) (h1 : 0 < i)
    (hq : b { nx := fun _ => False, rt := fun d => d = .bl true } ((ent N.length [.scr ns]).set i (.d (.ml kind)))) (hW : ∀ v H', v = .bl true → W.rt v H') : u W ((L2.start N [.ref a]).set i (some (.ref μ))) H' := by
  have ok2 : (Ml.at μ δ kind tb).ok H' := ⟨fun p hp => LamX.TabS.nil (s.keep _ _ (fun z => z) (hT p hp)), ok.2⟩
  have out : ∀ o, H a = some o → (∀ ps, o ≠ .tbl ps) → hid (Ml.at μ δ kind tb).w H' a = some o := fun o e n => by
    rw [hid_in]
    · exact s.keep _ _ (fun z => z) e
    · rintro (z | z | ⟨q, z⟩)
      · rw [z, nμ] at e; cases e
      · rw [z, nδ] at e; cases e
      · exact n #[] (Option.some.inj (e.symm.trans (hT _ z)))
  have I0 : EnOk ⟨K, stT kind tb⟩ (.at μ δ kind tb) H' (Ml.at μ δ kind tb).w (Ml.at μ δ kind tb).w H' (L2.start N [.ref a]) (ent N.length [.scr ns]) := by
    refine ent_ok ⟨μ, δ, rfl⟩ ⟨ok2, Ml.tr ok2, fun _ h => h⟩ (.cons (.scr ?_ hl) .nil) (by simp; omega)
    rcases hS with (e | ⟨o, e⟩) | e
    · exact .inl (.inl (out _ e fun _ z => nomatch z))
    · exact .inl (.inr ⟨o, out _ e fun _ z => nomatch z⟩)
    · exact .inr e
  have I1 := I0.put (i := i) (v := .ref μ) (d := .ml kind) (by rw [← I0.len]; unfold L2.start; rw [List.length_append, List.length_map, List.length_replicate]; simp; omega) (.ml rfl)
  exact hb _ _ _ _ _ _ _ W { nx := fun _ => False, rt := fun d => d = .bl true } I1 ⟨fun _ _ _ _ _ _ q => q.elim, fun _ _ _ _ _ _ q => q.elim, fun _ _ _ _ _ _ q => q.elim, fun v H2 d _ iv e => by
    have e' : d = .bl true := e
    subst e'
    cases iv
    exact hW _ _ rfl, fun _ _ _ _ _ _ _ _ q => q.elim⟩ hq
end

/-! ### the end -/
section
variable {P : Program} {w : World} {mg mb : Str → Option Value} {k : Nat} {fa a : Addr} {fd : FuncData} {x : Str} {s₁ : Shared} {vs : List Value} {ns : List Int}
theorem law_coreT {K : Fg0} {tb : List (Addr × Str)} {cs : List (Addr × Addr)} (KX : K.In s₁.heap) (hns : s₁.heap.Ns mainGlobals mg) (hb : s₁.heap.Ns builtinsNs mb) (hbb : ∀ x : Str, x ≠ "__name__" → mb x = bootBuiltins x) (hlim : s₁.heap.NoLimit) (hg : s₁.gens = #[]) {mm : Str → Option Value} (hsys : s₁.heap.Ns sysModules mm)
    (eT : ∀ p ∈ cs, s₁.heap.get? p.2 = some { cls := .none, data := .fields #[] }) (nT : ∀ p ∈ cs, K.lookup p.2 = none) (kC : ∀ p ∈ cs, PySem.W.codeHdIn K p.1 p.2 = true) (ct : ∀ p ∈ tb, ∃ q ∈ cs, q.2 = p.1)
    (bm : ∃ (b : Addr) (o : Obj), mg "__builtins__" = some (.ref b) ∧ b ≠ builtinsNs ∧ s₁.heap.get? b = some o ∧ o.cls = .type "module" ∧ o.dict = some builtinsNs ∧ o.data = .plain)
    (ha : s₁.heap.get? a = some { cls := .type "list", data := .seq vs.toArray }) (hl : ns.length ≤ 63) (hr : Room k callerA)
    (F : ∀ base : Heap, K.In base → base.Ns mainGlobals mg → (∀ p ∈ cs, TabB base mg p.1 p.2) → Sys base → FnS P w K mg base k fa fd [x] (SpLawT K tb)) (hbind : ∀ (s : Shared) (u : Value), BindsTo s fd ⟨[u], []⟩ [(x, u)])
    (H : Hp) (hS : SqL K H a (ns.map V.int)) (hok : HOk P w H s₁.heap) (hT : ∀ p ∈ cs, H p.2 = some (.tbl #[])) (hO : ∀ b u, H b = some u → (b = a ∧ ∃ o xs, u = .frz o (.lst xs)) ∨ ∃ p ∈ cs, p.2 = b) (hK : ∀ u, H a = some u → K.lookup a = none) :
    codeAny (model P w) callerA (.call (.ref fa) ⟨[.ref a], []⟩) (fun r s' => r = .ok (.ret (.bool true)) ∧ OldK s₁.heap s'.heap ∧ s'.os = s₁.os ∧ AllBare s'.gens) s₁ := by
  have stays : ∀ {b : Addr} {o : Obj}, s₁.heap.get? b = some o → (b ≠ a ∨ H a = none) → o.data ≠ .fields #[] → (hidT s₁.heap H).get? b = some o := fun {b o} e h n => hidT_get e (by
    cases q : H b with
    | none => rfl
    | some u =>
      rcases hO b u q with ⟨rfl, _⟩ | ⟨p, hp, rfl⟩
      · rcases h with h | h
        · exact absurd rfl h
        · rw [h] at q; cases q
      · rw [eT p hp] at e
        exact absurd (congrArg Obj.data (Option.some.inj e)).symm n)
  have noA : ∀ {b : Addr} {o : Obj}, s₁.heap.get? b = some o → (∀ vs n, o.data ≠ .seq vs n) → b ≠ a := fun {b o} e n z => by
    subst z
    exact n _ _ (congrArg Obj.data (Option.some.inj (e.symm.trans ha)))
  have names : ∀ {b : Addr} {m : Str → Option Value}, s₁.heap.Ns b m → (hidT s₁.heap H).Ns b m := fun {b m} ⟨o, es, ep, e, d, r⟩ => ⟨o, es, ep, stays e (.inl (noA e fun _ _ z => by rw [d] at z; cases z)) (fun z => by rw [d] at z; cases z), d, r⟩
  have hKb : K.In (hidT s₁.heap H) := fun b o e => by
    refine hidT_get (KX b o e) ?_
    cases q : H b with
    | none => rfl
    | some u =>
      rcases hO b u q with ⟨rfl, _⟩ | ⟨p, hp, rfl⟩
      · rw [hK u q] at e; cases e
      · rw [nT p hp] at e; cases e
  have hM : Mod K mg (hidT s₁.heap H) := ⟨hKb, names hns, ⟨mb, names hb, hbb⟩, let ⟨mc, h1, h2⟩ := hlim; ⟨mc, names h1, h2⟩⟩
  have hTB : ∀ p ∈ cs, TabB (hidT s₁.heap H) mg p.1 p.2 := fun p hp => by
    have gP : mainGlobals ≠ p.2 := fun z => by
      obtain ⟨o, es, ep, e, d, _⟩ := hns
      rw [z, eT p hp] at e
      cases e
      cases d
    refine ⟨PySem.W.codeHd_of_K hKb (kC p hp), ?_, gP⟩
    obtain ⟨b, o, b1, b2, b3, b4, b5, b6⟩ := bm
    refine ⟨b, o, b1, b2, fun z => ?_, fun z => ?_, stays b3 (.inl (noA b3 fun _ _ z => by rw [b6] at z; cases z)) (fun z => by rw [b6] at z; cases z), b4, b5, b6⟩
    · obtain ⟨o', es, ep, e, d, _⟩ := hns
      rw [z, e] at b3
      cases b3
      rw [d] at b6
      cases b6
    · rw [z, eT p hp] at b3
      cases b3
      cases b6
  have e0 : Env0 P w K mg (hidT s₁.heap H) callerA [] s₁ H := ⟨rfl, hM, fun b o e => of_hidT e, Nat.le_of_eq (hidT_size _ _), trivial, (fun b hb => absurd (show b ∈ ([] : List Addr) from hb) (by simp)), hok, .of_eq hg⟩
  have sp : SpLawT K tb [.ref a] H fun v _ => v = .bl true := ⟨a, ns, rfl, hS, hl, fun p hp => let ⟨q, h1, h2⟩ := ct p hp; h2 ▸ hT q h1, fun _ => rfl⟩
  refine codeAny_mono ((F _ hKb (names hns) hTB (let ⟨o, _, _, e, _⟩ := names hsys; ⟨o, e⟩)).run callerA [] s₁ H ⟨[.ref a], []⟩ [.ref a] [.ref a] _ hr rfl e0 (hbind s₁ (.ref a)) (.cons rfl .nil) sp) fun r s' h => ?_
  cases r with
  | error e => exact h.elim
  | ok fl =>
    cases fl with
    | next => exact h.elim
    | brk => exact h.elim
    | cont => exact h.elim
    | ret u =>
      obtain ⟨v, H', os, bare, un, hok', r', q⟩ := h
      subst q
      cases r'
      have same : ∀ b o, (∀ p ∈ cs, p.2 ≠ b) → s₁.heap.get? b = some o → s'.heap.get? b = some o := fun b o n e => by
        cases q : H b with
        | none => exact un.keep b o e q (fun z => absurd (show b ∈ ([] : List Addr) from z) (by simp)) (by simp)
        | some u =>
          rcases hO b u q with ⟨_, ob, xs, rfl⟩ | ⟨p, hp, z⟩
          · have z2 := un.frzs b ob _ q
            obtain ⟨e1, _⟩ := hok b _ q
            obtain ⟨e2, _⟩ := hok' b _ z2
            exact e2.trans (e1.symm.trans e)
          · exact absurd z (n p hp)
      have more : ∀ p ∈ cs, ∃ ps : Array Value, s'.heap.get? p.2 = some { cls := .none, data := .fields ps } := fun p hp => by
        obtain ⟨ps, z⟩ := un.tbls p.2 #[] (hT p hp)
        exact ⟨_, hok' p.2 _ z⟩
      refine ⟨rfl, ⟨fun b o e => ?_, fun b o e => ?_⟩, os, bare⟩
      · by_cases hc : ∃ p ∈ cs, p.2 = b
        · obtain ⟨p, hp, z⟩ := hc
          subst z
          obtain ⟨ps, e2⟩ := more p hp
          have e3 := Option.some.inj ((eT p hp).symm.trans e)
          subst e3
          exact .inr (.inl ⟨((PySem.W.codeHd_of_K KX (kC p hp)).tab (eT p hp)).isCodeTable, rfl, #[], ps, rfl, by rw [Array.empty_append]; exact e2⟩)
        · exact .inl (same b o (fun p hp z => hc ⟨p, hp, z⟩) e)
      · by_cases hc : ∃ p ∈ cs, p.2 = b
        · obtain ⟨p, hp, z⟩ := hc
          subst z
          obtain ⟨ps, e2⟩ := more p hp
          exact ⟨_, e2⟩
        · exact ⟨o, same b o (fun p hp z => hc ⟨p, hp, z⟩) e⟩
open Classical in
theorem law_callT {K : Fg0} {tb : List (Addr × Str)} {cs : List (Addr × Addr)} (KX : K.In s₁.heap) (hns : s₁.heap.Ns mainGlobals mg) (hb : s₁.heap.Ns builtinsNs mb) (hbb : ∀ x : Str, x ≠ "__name__" → mb x = bootBuiltins x) (hlim : s₁.heap.NoLimit) (hg : s₁.gens = #[]) {mm : Str → Option Value} (hsys : s₁.heap.Ns sysModules mm)
    (eT : ∀ p ∈ cs, s₁.heap.get? p.2 = some { cls := .none, data := .fields #[] }) (nT : ∀ p ∈ cs, K.lookup p.2 = none) (kC : ∀ p ∈ cs, PySem.W.codeHdIn K p.1 p.2 = true) (ct : ∀ p ∈ tb, ∃ q ∈ cs, q.2 = p.1)
    (bm : ∃ (b : Addr) (o : Obj), mg "__builtins__" = some (.ref b) ∧ b ≠ builtinsNs ∧ s₁.heap.get? b = some o ∧ o.cls = .type "module" ∧ o.dict = some builtinsNs ∧ o.data = .plain)
    (ha : s₁.heap.get? a = some { cls := .type "list", data := .seq vs.toArray }) (hi : IntsAre vs ns) (hl : ns.length ≤ 63) (hr : Room k callerA)
    (F : ∀ base : Heap, K.In base → base.Ns mainGlobals mg → (∀ p ∈ cs, TabB base mg p.1 p.2) → Sys base → FnS P w K mg base k fa fd [x] (SpLawT K tb)) (hbind : ∀ (s : Shared) (u : Value), BindsTo s fd ⟨[u], []⟩ [(x, u)]) :
    codeAny (model P w) callerA (.call (.ref fa) ⟨[.ref a], []⟩) (fun r s' => r = .ok (.ret (.bool true)) ∧ OldK s₁.heap s'.heap ∧ s'.os = s₁.os ∧ AllBare s'.gens) s₁ := by
  have rv := vals_ints hi
  have l63 : ns.length ≤ sizeLine := Nat.le_trans hl (by decide)
  have aT : ¬ ∃ p ∈ cs, p.2 = a := fun ⟨p, hp, z⟩ => by
    subst z
    have := congrArg Obj.data (Option.some.inj (ha.symm.trans (eT p hp)))
    cases this
  cases hk : K.lookup a with
  | some o =>
    have e := KX a o hk
    rw [ha] at e
    cases e
    refine law_coreT KX hns hb hbb hlim hg hsys eT nT kC ct bm ha hl hr F hbind (fun b => if ∃ p ∈ cs, p.2 = b then some (.tbl #[]) else none) (.inr ⟨_, vs.toArray, _, hk, rfl, rfl, rfl, ?_, by simpa using rv⟩) (fun b u z => ?_) (fun p hp => if_pos ⟨p, hp, rfl⟩) (fun b u z => ?_) (fun u z => ?_)
    · rw [List.size_toArray, hi.length]; exact l63
    · dsimp only at z
      split at z
      · rename_i hc
        obtain ⟨p, hp, e⟩ := hc
        cases z
        subst e
        exact eT p hp
      · cases z
    · skip
      split at z
      · rename_i hc; exact .inr hc
      · cases z
    · skip
      rw [if_neg aT] at z; cases z
  | none =>
    refine law_coreT KX hns hb hbb hlim hg hsys eT nT kC ct bm ha hl hr F hbind (fun b => if b = a then some (.frz { cls := .type "list", data := .seq vs.toArray } (.lst (ns.map V.int))) else if ∃ p ∈ cs, p.2 = b then some (.tbl #[]) else none) (.inl (.inr ⟨_, if_pos rfl⟩)) (fun b u z => ?_)
      (fun p hp => (if_neg fun e => aT ⟨p, hp, e⟩).trans (if_pos ⟨p, hp, rfl⟩)) (fun b u z => ?_) (fun _ _ => hk)
    · dsimp only at z
      split at z
      · rename_i e
        cases z
        subst e
        exact ⟨ha, by rw [List.length_map]; exact l63, vs, _, rv, ha⟩
      · split at z
        · rename_i hc
          obtain ⟨p, hp, e⟩ := hc
          cases z
          subst e
          exact eT p hp
        · cases z
    · skip
      split at z
      · rename_i e
        cases z
        exact .inl ⟨e, _, _, rfl⟩
      · split at z
        · rename_i hc; exact .inr hc
        · cases z
end
/-- the goal that the head leaves -/
theorem walk_ofL {l : PySem.W.OpenLaw} {k : Nat} {q : Program} {loose : List Str} {XP : (Str → Option Value) → Heap → Prop} {YP : World → Heap → Prop} {d : DefRec} {K : Params → Fg0} {x : Str}
    (hi : importsNone q = true) (hn : l.most = some 63) (hdf : d.params.defaults = []) (hr : Room k callerA) (hY : ∀ (w : World) (h : Heap), YP w h → (K w.params).In h) (nm : Str) (rec : ((recsOf q).any fun e => e.name == nm) = true)
    (F : ∀ (w : World) (mg : Str → Option Value) (fa : Addr) (h : Heap), (K w.params).In h → h.Ns mainGlobals mg → mg d.name = some (.ref fa) → (∀ fe, mg nm = some (.ref fe) → LamX.OwnTab (K w.params) fe h) →
      ∃ (fd : FuncData) (cs : List (Addr × Addr)) (tb : List (Addr × Str)), (∀ (s : Shared) (u : Value), BindsTo s fd ⟨[u], []⟩ [(x, u)]) ∧ (∀ p ∈ cs, h.get? p.2 = some { cls := .none, data := .fields #[] }) ∧ (∀ p ∈ cs, (K w.params).lookup p.2 = none) ∧ (∀ p ∈ cs, PySem.W.codeHdIn (K w.params) p.1 p.2 = true) ∧ (∀ p ∈ tb, ∃ q ∈ cs, q.2 = p.1) ∧
        ∀ base : Heap, (K w.params).In base → base.Ns mainGlobals mg → (∀ p ∈ cs, TabB base mg p.1 p.2) → Sys base → FnS l.prog w (K w.params) mg base k fa fd [x] (SpLawT (K w.params) tb)) :
    PySem.W.WalkO q loose XP YP l.row.toRowW d [] (fun f vs => PySem.call f vs) := by
  refine Att.attach_call hn hdf fun w s₀ s₁ mg mb fa o pm cd doc a vs ns G Y ho hd hcd hmg hobj hints hlen hg => ?_
  have KX := hY w _ Y
  have all : ∀ e ∈ recsOf q, ∀ fe, mg e.name = some (.ref fe) → LamX.OwnTab (K w.params) fe s₁.heap := fun e he fe me c P o1 fd1 e1 dd vs1 sl k1 k2 k3 k4 k5 => by
    obtain ⟨a', o', fd', c', P', h1, h2, h3, h4, h5, h6⟩ := G.T.tab e he
    rw [me] at h1
    cases h1
    have g1 := KX _ _ k1
    rw [g1] at h2
    cases h2
    rw [k2] at h3
    cases h3
    rw [k3] at h4
    cases h4
    obtain ⟨⟨oc, vc, x1, _, x3, x4⟩, hP⟩ := h6
    have g2 := KX _ _ k4
    rw [g2] at x1
    cases x1
    cases x3
    rw [k5] at x4
    cases x4
    exact hP
  obtain ⟨fd, cs, tb, hb, eT, nT, kC, ct, hF⟩ := F w mg fa _ KX G.T.g hmg (fun fe me => by
    obtain ⟨e, he, en⟩ := List.any_eq_true.mp rec
    exact all e he fe (by rw [beq_iff_eq.mp en]; exact me))
  obtain ⟨mm, hs, _⟩ := (G.T.seer hi).mods
  exact law_callT KX G.T.g G.T.b G.T.builtins G.T.nolimit hg hs eT nT kC ct G.T.bmain hobj hints hlen hr hF hb
end Pl

namespace Pl
open PySem PySem.Spec PyProof.Rows L2
/-! words: all steps -/
end Pl

/-! a def that makes lambdas, called by the law -/
namespace Pl
open PySem PySem.Spec PyProof.Rows L2
def SpDT (K : Fg0) (kind : Nat) (tb : List (Addr × Str)) (g : FL) (vs : List V) (H : Hp) (Q : VK) : Prop := ∃ (M : Ml) (z : Addr → Prop) (ds : List D), stT kind tb M H z ∧ Hx M z H ∧ IsA K M (hid z H) vs ds ∧ g ds (Wn K M z H Q)
/-- the def at f does g, where the tables are there -/
structure FnT (P : Program) (w : World) (K : Fg0) (mg : Str → Option Value) (base : Heap) (k : Nat) (f : Addr) (fd : FuncData) (ps : List Str) (kind : Nat) (tb : List (Addr × Str)) (g : FL) : Prop where
  len : ∀ ds Q, g ds Q → ds.length = ps.length
  mo : MoL g
  s : FnS P w K mg base k f fd ps (SpDT K kind tb g)
theorem fnT_of {P : Program} {w : World} {K : Fg0} {mg : Str → Option Value} {base : Heap} {k kind : Nat} {f c : Addr} {fd : FuncData} {x qual : Str} {st : Stmt} {N ps : List Str} {tb : List (Addr × Str)} {g : FL} (F : FunC K x qual st f fd c) (S : FnScope N ps (defScope st)) (len : ∀ ds Q, g ds Q → ds.length = ps.length) (mo : MoL g)
    (body : ∀ (A : Around) (outer : List Env) (s : Shared) (H : Hp), Room k (A.deeper (envOfC qual (defScope st) s.heap.objs.size f (.ref c))) → A.guards = some [] →
      ∃ t b, DSs ⟨K, stT kind tb⟩ (cxOf CX0 P w K mg base N qual (defScope st) f (.ref c) A outer s H E0).nox (defBody st) t b ∧ ∀ ds Q, g ds Q → b { nx := fun _ => Q .non, rt := Q } (ent N.length ds)) : FnT P w K mg base (k + 1) f fd ps kind tb g := by
  refine ⟨len, mo, fnS_rawC F S (fun vs H Q ⟨M, z, ds, _, _, ia, q⟩ => ia.length.trans (len _ _ q)) fun A outer s H vs Q hr hG ⟨M, z, ds, ht, hx, ia, q⟩ => ?_⟩
  obtain ⟨t, b, hbd, hq⟩ := body A outer s H hr hG
  have npl : ps.length ≤ N.length := by have := congrArg List.length S.pre; rw [List.length_take] at this; omega
  have en : EnOk ⟨K, stT kind tb⟩ M H z z H (L2.start N vs) (ent N.length ds) := ent_ok ht hx ia (by rw [len _ _ q]; exact npl)
  have co : Co ⟨K, stT kind tb⟩ M H z z H ({ nx := fun _ H' => Q .non H', rt := Q } : Ends) ({ nx := fun _ => Wn K M z H Q .non, rt := Wn K M z H Q } : DEn) :=
    ⟨fun m' σ' H' ρ' I' f q => q .non H' I'.stp .non, fun m' σ' H' ρ' I' f q => q.elim, fun m' σ' H' ρ' I' f q => q.elim, fun v H' d s i q => q v H' s i, fun _ _ _ _ _ _ _ _ q => q.elim⟩
  exact ⟨t, hbd.ps, hbd.rd M H z z H (L2.start N vs) _ _ _ en co (hq ds _ q)⟩
section
variable {X : Cx} {K : Fg} {k kind : Nat} {f : Addr} {fd : FuncData} {ps : List Str} {tb : List (Addr × Str)} {g : FL} {x : Str} {p pos : Pos} {e : Expr} {es : List Expr} {t : TA} {fa : FA}
theorem e_callH (F : FnT X.prog X.w X.K X.mg X.base k f fd ps kind tb g) (hst : ∀ M H0 z, K.st M H0 z → ∃ μ δ, M = Ml.at μ δ kind tb) (hr : Room k X.A) (hG : X.A.guards = some []) (hm : X.mg x = some (.ref f)) (hk : PySem.W.keepIn X.K (.ref f) = true) (hb : Binds X.K fd ps [])
    (ha : DA K X (e :: es) t fa) (hK : X.K = K.fr := by rfl) (hg : Gl X x := by rfl) (hdb : (x == ("__debug__" : Str)) = false := by decide) (he : starEach (e :: es) X.env = (false, eval e X.env) :: starEach es X.env := by rfl) (hpl : (backTo pos (starEach es X.env)).any (·.1) = false := by rfl) :
    DE K X (.Call (.Name x p) (e :: es) [] pos) (tCallS (SpDT X.K kind tb g) t) (fCall g fa) := by
  obtain ⟨K, stK⟩ := K
  replace hK : X.K = K := hK
  subst hK
  refine ⟨pe_callS' F.s hr hG hg hm hk hb ha.pa hdb he hpl, fun M H0 z m H σ ρ Q I q => ?_, mo_fCall F.mo ha.mo⟩
  exact ha.rd M H0 z m H σ ρ _ I (ha.mo ρ _ _ (fun ds q' vs H1 s1 i1 => ⟨M, m, ds, hst _ _ _ I.st, I.hx.step s1, i1, F.mo _ _ _ (fun d q => q.mono s1) q'⟩) q)
end
end Pl


namespace Pl
open PySem PySem.Spec PyProof.Rows L2 Pl
local macro_rules | `(tactic| walk_at "pz") => `(tactic| simp -dsimp only [↓sNil])
local macro_rules | `(tactic| walk_at "nats") => `(tactic| simp -dsimp only [nat1, nat1', nats1, ← Int.natCast_mul, ← Int.natCast_add, cut_nat, cut_from, cut_to, cut_all, atI_nat, atI_last, fdiv_nat, fmod_nat, rng_0, rng_1, Nat.add_sub_cancel_left, Int.toNat_natCast, Bool.false_xor, Bool.true_xor, sh_int, sh_bl, sh_non, sh_tupI, sh_lstI, eqv_int, eqv_bl, eqv_tupI, eqv_lstI, zipD_ints, true_and, and_true])
local macro_rules | `(tactic| walk_at "pl") => `(tactic| (simp -dsimp only [↓ent, ↓freeze, ↓forget, ↓slD, ↓slP, ↓slL, ↓slK, Sl.pd, Sl.pp, Sl.pl, Sl.pk, Option.bind_some, ↓sNil, ↓sSeq, ↓sBreak, ↓sCont, ↓sSet, ↓sSetL, ↓sDrop, ↓sRet, ↓sRetN, ↓sIf, ↓sPar, ↓sPar2, ↓sPar3, ↓sAsg, ↓sApp, ↓sAppP, ↓sFrz, ↓sAug, ↓sSetP, ↓sDropP, ↓sAsgP, ↓sFor, ↓fC, ↓fV, ↓fP, ↓f1, ↓f2, ↓f3, ↓fL, ↓fM, ↓fSl, ↓oNone, ↓oSome, ↓vB, ↓vAnd, ↓vOr, ↓vNot, ↓vIf, ↓vTup, ↓vLst, ↓bB, ↓bAnd, ↓bOr, ↓bNot, ↓bYes, ↓aNil, ↓aCons, ↓xNil, ↓xD, ↓xL, ↓lL, ↓fPop, ↓fPopA, ↓fAddP, ↓iOf, ↓iR1, ↓iR2, ↓iZ, ↓lcF, ↓gN, ↓gsNil, ↓gsCons, ↓gTupD, ↓itms, ↓gI, ↓gAdd, ↓gSub, ↓gMod, ↓gPow, ↓gDiv, ↓gMul, ↓gNeg, ↓gEq, ↓gCmp, ↓gLt, ↓gLe, ↓gGt, ↓gGe, ↓gIsN, ↓gLen, ↓gInt, ↓gAbs, ↓g2I, ↓gSum, ↓gBs, ↓gTuple, ↓gIx, ↓gSl, ↓gSIndex, ↓gSFind, ↓gSStarts, ↓gSCount, ↓gJoin, ↓gIn, ↓gRepr, ↓gRev, ↓gListL, ↓gRepl, ↓gAug, ↓gAugS, ↓gMM, isTy_str, isTy_lst, isTy_dk, ↓fLK, ↓sel, ↓fCall,
  exS_some, ifB_true, ifB_false, List.map_cons, List.map_nil, List.length_cons, List.length_nil, uns, List.cons_append, List.nil_append, List.set_cons_zero, List.set_cons_succ, List.getElem?_cons_zero, List.getElem?_cons_succ, List.filterMap_cons, List.filterMap_nil, Nat.zero_add, Nat.reduceAdd, Nat.reduceSub, Nat.reduceLT, true_and, and_true, reduceCtorEq, Bool.not_true, Bool.not_false, Bool.false_xor, Bool.true_xor, decide_true, decide_false, sh_int, sh_bl, sh_non, sh_tupI, sh_lstI, eqv_int, eqv_bl, eqv_tupI, eqv_lstI]))
local macro_rules | `(tactic| walk_at "pn") => `(tactic| ((try walk_at "pl"); (try walk_at "nats"); (try walk_at "pl"); (try walk_at "nats")))
local macro_rules | `(tactic| walk_at "ql") => `(tactic| (simp -dsimp only [↓ent, ↓freeze, ↓forget, ↓slD, ↓slP, ↓slL, ↓slK, Sl.pd, Sl.pp, Sl.pl, Sl.pk, Option.bind_some, ↓sNil, ↓sSeq, ↓sBreak, ↓sCont, ↓sSet, ↓sSetL, ↓sDrop, ↓sRet, ↓sRetN, ↓sIf, ↓sPar, ↓sPar2, ↓sPar3, ↓sAsg, ↓sApp, ↓sAppP, ↓sFrz, ↓sAug, ↓sSetP, ↓sDropP, ↓sAsgP, ↓sFor, ↓fC, ↓fV, ↓fP, ↓f1, ↓f2, ↓f3, ↓fL, ↓fM, ↓fSl, ↓oNone, ↓oSome, ↓vB, ↓vAnd, ↓vOr, ↓vNot, ↓vIf, ↓vTup, ↓vLst, ↓bB, ↓bAnd, ↓bOr, ↓bNot, ↓bYes, ↓aNil, ↓aCons, ↓xNil, ↓xD, ↓xL, ↓lL, ↓fPop, ↓fPopA, ↓fAddP, ↓iOf, ↓iR1, ↓iR2, ↓iZ, ↓lcF, ↓gN, ↓gsNil, ↓gsCons, ↓gTupD, ↓itms, ↓gI, ↓gAdd, ↓gSub, ↓gMod, ↓gPow, ↓gDiv, ↓gMul, ↓gNeg, ↓gEq, ↓gCmp, ↓gLt, ↓gLe, ↓gGt, ↓gGe, ↓gIsN, ↓gLen, ↓gInt, ↓gAbs, ↓g2I, ↓gSum, ↓gBs, ↓gTuple, ↓gIx, ↓gSl, ↓gSIndex, ↓gSFind, ↓gSStarts, ↓gSCount, ↓gJoin, ↓gIn, ↓gRepr, ↓gRev, ↓gListL, ↓gRepl, ↓gAug, ↓gAugS, ↓gMM, isTy_str, isTy_lst, isTy_dk, ↓fLK, ↓sel, ↓fCall, ↓sPutL, ↓sPutT, ↓sNewT, ↓sNewK, ↓lRep, ↓fLenT, slT, Sl.pt, atI_0, atI_1, atI_2, atI_3, ↓gLenSet, ↓gSCount3, ↓gSorted, ↓sRetN',
  exS_some, ifB_true, ifB_false, List.map_cons, List.map_nil, List.length_cons, List.length_nil, uns, List.cons_append, List.nil_append, List.set_cons_zero, List.set_cons_succ, List.getElem?_cons_zero, List.getElem?_cons_succ, List.filterMap_cons, List.filterMap_nil, Nat.zero_add, Nat.reduceAdd, Nat.reduceSub, Nat.reduceLT, true_and, and_true, reduceCtorEq, Bool.not_true, Bool.not_false, Bool.false_xor, Bool.true_xor, decide_true, decide_false, sh_int, sh_bl, sh_non, sh_tupI, sh_lstI, eqv_int, eqv_bl, eqv_tupI, eqv_lstI]))
local macro_rules | `(tactic| walk_at "qn") => `(tactic| ((try walk_at "ql"); (try walk_at "nats"); (try walk_at "ql"); (try walk_at "nats")))
local macro_rules | `(tactic| walk_at "fr") => `(tactic| (refine Fr.mk ?_; repeat (first | exact True.intro | refine And.intro rfl ?_)))
local macro_rules | `(tactic| walk_at "fro") => `(tactic| (rename_i e; simp -dsimp only [fillF, kd, Nat.zero_add, Nat.reduceAdd] at e; subst e))
local macro_rules | `(tactic| walk_at "wl") => `(tactic| (simp -dsimp only [↓ent, ↓freeze, ↓forget, ↓slD, ↓slP, ↓slL, ↓slK, Sl.pd, Sl.pp, Sl.pl, Sl.pk, Option.bind_some, ↓sNil, ↓sSeq, ↓sBreak, ↓sCont, ↓sSet, ↓sSetL, ↓sDrop, ↓sRet, ↓sRetN, ↓sIf, ↓sPar, ↓sPar2, ↓sPar3, ↓sAsg, ↓sApp, ↓sAppP, ↓sFrz, ↓sAug, ↓sSetP, ↓sDropP, ↓sAsgP, ↓sFor, ↓fC, ↓fV, ↓fP, ↓f1, ↓f2, ↓f3, ↓fL, ↓fM, ↓fSl, ↓oNone, ↓oSome, ↓vB, ↓vAnd, ↓vOr, ↓vNot, ↓vIf, ↓vTup, ↓vLst, ↓bB, ↓bAnd, ↓bOr, ↓bNot, ↓bYes, ↓aNil, ↓aCons, ↓xNil, ↓xD, ↓xL, ↓lL, ↓fPop, ↓fPopA, ↓fAddP, ↓iOf, ↓iR1, ↓iR2, ↓iZ, ↓lcF, ↓gN, ↓gsNil, ↓gsCons, ↓gTupD, ↓itms, ↓gI, ↓gAdd, ↓gSub, ↓gMod, ↓gPow, ↓gDiv, ↓gMul, ↓gNeg, ↓gEq, ↓gCmp, ↓gLt, ↓gLe, ↓gGt, ↓gGe, ↓gIsN, ↓gLen, ↓gInt, ↓gAbs, ↓g2I, ↓gSum, ↓gBs, ↓gTuple, ↓gIx, ↓gSl, ↓gSIndex, ↓gSFind, ↓gSStarts, ↓gSCount, ↓gJoin, ↓gIn, ↓gRepr, ↓gRev, ↓gListL, ↓gRepl, ↓gAug, ↓gAugS, ↓gMM, isTy_str, isTy_lst, isTy_dk, ↓fLK, ↓sel, ↓fCall, ↓sPutL, ↓sPutT, ↓sNewT, ↓sNewK, ↓lRep, ↓fLenT, slT, Sl.pt, atI_0, atI_1, atI_2, atI_3, ↓gLenSet, ↓gSCount3, ↓gIsi, ↓gSFind2, ↓gSRFind3, ↓sExt, ↓lRg, ↓iEn, ↓gRevB, tyS_n, tyS_b, tyS_i, tyS_s, tyS_t, tyS_l, tyS_d, isT_ss, isT_tt, isT_ll, isT_ii, isT_bb, isT_dd, isE_str, isE_int, isE_bl, isE_non, isE_tup, isE_lst, enD_map, ↓gSorted, ↓sRetN',
  exS_some, ifB_true, ifB_false, List.map_cons, List.map_nil, List.length_cons, List.length_nil, uns, List.cons_append, List.nil_append, List.set_cons_zero, List.set_cons_succ, List.getElem?_cons_zero, List.getElem?_cons_succ, List.filterMap_cons, List.filterMap_nil, Nat.zero_add, Nat.reduceAdd, Nat.reduceSub, Nat.reduceLT, true_and, and_true, reduceCtorEq, Bool.not_true, Bool.not_false, Bool.false_xor, Bool.true_xor, decide_true, decide_false, sh_int, sh_bl, sh_non, sh_tupI, sh_lstI, eqv_int, eqv_bl, eqv_tupI, eqv_lstI]))
local macro_rules | `(tactic| walk_at "wn") => `(tactic| ((try walk_at "wl"); (try walk_at "nats"); (try walk_at "wl"); (try walk_at "nats")))
local macro_rules | `(tactic| walk_at "tg") => `(tactic| (simp -dsimp only [↓gN, ↓gsNil, ↓gsCons, ↓gTupD, exS_some, List.set_cons_zero, List.set_cons_succ, List.length_cons, List.length_nil, List.length_set, Nat.zero_add, Nat.reduceAdd, Nat.reduceLT, true_and, and_true]))
local macro_rules | `(tactic| walk_at "vl") => `(tactic| (simp -dsimp only [↓lAdd, ↓gTupleS, ↓sNev, ↓ent, ↓freeze, ↓forget, ↓slD, ↓slP, ↓slL, ↓slK, Sl.pd, Sl.pp, Sl.pl, Sl.pk, Option.bind_some, ↓sNil, ↓sSeq, ↓sBreak, ↓sCont, ↓sSet, ↓sSetL, ↓sDrop, ↓sRet, ↓sRetN, ↓sIf, ↓sPar, ↓sPar2, ↓sPar3, ↓sAsg, ↓sApp, ↓sAppP, ↓sFrz, ↓sAug, ↓sSetP, ↓sDropP, ↓sAsgP, ↓sFor, ↓fC, ↓fV, ↓fP, ↓f1, ↓f2, ↓f3, ↓fL, ↓fM, ↓fSl, ↓oNone, ↓oSome, ↓vB, ↓vAnd, ↓vOr, ↓vNot, ↓vIf, ↓vTup, ↓vLst, ↓bB, ↓bAnd, ↓bOr, ↓bNot, ↓bYes, ↓aNil, ↓aCons, ↓xNil, ↓xD, ↓xL, ↓lL, ↓fPop, ↓fPopA, ↓fAddP, ↓iOf, ↓iR1, ↓iR2, ↓iZ, ↓lcF, ↓gN, ↓gsNil, ↓gsCons, ↓gTupD, ↓itms, ↓gI, ↓gAdd, ↓gSub, ↓gMod, ↓gPow, ↓gDiv, ↓gMul, ↓gNeg, ↓gEq, ↓gCmp, ↓gLt, ↓gLe, ↓gGt, ↓gGe, ↓gIsN, ↓gLen, ↓gInt, ↓gAbs, ↓g2I, ↓gSum, ↓gBs, ↓gTuple, ↓gIx, ↓gSl, ↓gSIndex, ↓gSFind, ↓gSStarts, ↓gSCount, ↓gJoin, ↓gIn, ↓gRepr, ↓gRev, ↓gListL, ↓gRepl, ↓gAug, ↓gAugS, ↓gMM, isTy_str, isTy_lst, isTy_dk, ↓fLK, ↓sel, ↓fCall, ↓sPutL, ↓sPutT, ↓sNewT, ↓sNewK, ↓lRep, ↓fLenT, slT, Sl.pt, atI_0, atI_1, atI_2, atI_3, ↓gLenSet, ↓gSCount3, ↓gIsi, ↓gSFind2, ↓gSRFind3, ↓sExt, ↓lRg, ↓iEn, ↓gRevB, tyS_n, tyS_b, tyS_i, tyS_s, tyS_t, tyS_l, tyS_d, isT_ss, isT_tt, isT_ll, isT_ii, isT_bb, isT_dd, isE_str, isE_int, isE_bl, isE_non, isE_tup, isE_lst, enD_map, ↓gSorted, ↓sRetN',
  exS_some, ifB_true, ifB_false, List.map_cons, List.map_nil, List.length_cons, List.length_nil, uns, List.cons_append, List.nil_append, List.set_cons_zero, List.set_cons_succ, List.getElem?_cons_zero, List.getElem?_cons_succ, List.filterMap_cons, List.filterMap_nil, Nat.zero_add, Nat.reduceAdd, Nat.reduceSub, Nat.reduceLT, true_and, and_true, reduceCtorEq, Bool.not_true, Bool.not_false, Bool.false_xor, Bool.true_xor, decide_true, decide_false, sh_int, sh_bl, sh_non, sh_tupI, sh_lstI, eqv_int, eqv_bl, eqv_tupI, eqv_lstI]))
local macro_rules | `(tactic| walk_at "vn") => `(tactic| ((try walk_at "vl"); (try walk_at "nats"); (try walk_at "vl"); (try walk_at "nats")))
local macro_rules | `(tactic| walk_at "yl") => `(tactic| (simp -dsimp only [↓lAdd, ↓gSortedT, ↓gTupleS, ↓sNev, ↓ent, ↓freeze, ↓forget, ↓slD, ↓slP, ↓slL, ↓slK, Sl.pd, Sl.pp, Sl.pl, Sl.pk, Option.bind_some, ↓sNil, ↓sSeq, ↓sBreak, ↓sCont, ↓sSet, ↓sSetL, ↓sDrop, ↓sRet, ↓sRetN, ↓sIf, ↓sPar, ↓sPar2, ↓sPar3, ↓sAsg, ↓sApp, ↓sAppP, ↓sFrz, ↓sAug, ↓sSetP, ↓sDropP, ↓sAsgP, ↓sFor, ↓fC, ↓fV, ↓fP, ↓f1, ↓f2, ↓f3, ↓fL, ↓fM, ↓fSl, ↓oNone, ↓oSome, ↓vB, ↓vAnd, ↓vOr, ↓vNot, ↓vIf, ↓vTup, ↓vLst, ↓bB, ↓bAnd, ↓bOr, ↓bNot, ↓bYes, ↓aNil, ↓aCons, ↓xNil, ↓xD, ↓xL, ↓lL, ↓fPop, ↓fPopA, ↓fAddP, ↓iOf, ↓iR1, ↓iR2, ↓iZ, ↓lcF, ↓gN, ↓gsNil, ↓gsCons, ↓gTupD, ↓itms, ↓gI, ↓gAdd, ↓gSub, ↓gMod, ↓gPow, ↓gDiv, ↓gMul, ↓gNeg, ↓gEq, ↓gCmp, ↓gLt, ↓gLe, ↓gGt, ↓gGe, ↓gIsN, ↓gLen, ↓gInt, ↓gAbs, ↓g2I, ↓gSum, ↓gBs, ↓gTuple, ↓gIx, ↓gSl, ↓gSIndex, ↓gSFind, ↓gSStarts, ↓gSCount, ↓gJoin, ↓gIn, ↓gRepr, ↓gRev, ↓gListL, ↓gRepl, ↓gAug, ↓gAugS, ↓gMM, isTy_str, isTy_lst, isTy_dk, ↓fLK, ↓sel, ↓fCall, ↓sPutL, ↓sPutT, ↓sNewT, ↓sNewK, ↓lRep, ↓fLenT, slT, Sl.pt, atI_0, atI_1, atI_2, atI_3, ↓gLenSet, ↓gSCount3, ↓gIsi, ↓gSFind2, ↓gSRFind3, ↓sExt, ↓lRg, ↓iEn, ↓gRevB, tyS_n, tyS_b, tyS_i, tyS_s, tyS_t, tyS_l, tyS_d, isT_ss, isT_tt, isT_ll, isT_ii, isT_bb, isT_dd, isE_str, isE_int, isE_bl, isE_non, isE_tup, isE_lst, enD_map, ↓gSorted, ↓sRetN',
  exS_some, ifB_true, ifB_false, List.map_cons, List.map_nil, List.length_cons, List.length_nil, uns, List.cons_append, List.nil_append, List.set_cons_zero, List.set_cons_succ, List.getElem?_cons_zero, List.getElem?_cons_succ, List.filterMap_cons, List.filterMap_nil, Nat.zero_add, Nat.reduceAdd, Nat.reduceSub, Nat.reduceLT, true_and, and_true, reduceCtorEq, Bool.not_true, Bool.not_false, Bool.false_xor, Bool.true_xor, decide_true, decide_false, sh_int, sh_bl, sh_non, sh_tupI, sh_lstI, eqv_int, eqv_bl, eqv_tupI, eqv_lstI]))
local macro_rules | `(tactic| walk_at "yn") => `(tactic| ((try walk_at "yl"); (try walk_at "nats"); (try walk_at "yl"); (try walk_at "nats")))
local macro_rules | `(tactic| walk_at "xl") => `(tactic| (simp -dsimp only [↓sTry, ↓gSRFind1, ↓fCallX, ↓fLKX, ↓CalX, ↓sRaise1, ↓sRaise0, ↓fExF, ↓fExI, List.lookup_cons_self, ↓gDict, ↓gListK, ↓lAdd, ↓gSortedT, ↓gTupleS, ↓sNev, ↓ent, ↓freeze, ↓forget, ↓slD, ↓slP, ↓slL, ↓slK, Sl.pd, Sl.pp, Sl.pl, Sl.pk, Option.bind_some, ↓sNil, ↓sSeq, ↓sBreak, ↓sCont, ↓sSet, ↓sSetL, ↓sDrop, ↓sRet, ↓sRetN, ↓sIf, ↓sPar, ↓sPar2, ↓sPar3, ↓sAsg, ↓sApp, ↓sAppP, ↓sFrz, ↓sAug, ↓sSetP, ↓sDropP, ↓sAsgP, ↓sFor, ↓fC, ↓fV, ↓fP, ↓f1, ↓f2, ↓f3, ↓fL, ↓fM, ↓fSl, ↓oNone, ↓oSome, ↓vB, ↓vAnd, ↓vOr, ↓vNot, ↓vIf, ↓vTup, ↓vLst, ↓bB, ↓bAnd, ↓bOr, ↓bNot, ↓bYes, ↓aNil, ↓aCons, ↓xNil, ↓xD, ↓xL, ↓lL, ↓fPop, ↓fPopA, ↓fAddP, ↓iOf, ↓iR1, ↓iR2, ↓iZ, ↓lcF, ↓gN, ↓gsNil, ↓gsCons, ↓gTupD, ↓itms, ↓gI, ↓gAdd, ↓gSub, ↓gMod, ↓gPow, ↓gDiv, ↓gMul, ↓gNeg, ↓gEq, ↓gCmp, ↓gLt, ↓gLe, ↓gGt, ↓gGe, ↓gIsN, ↓gLen, ↓gInt, ↓gAbs, ↓g2I, ↓gSum, ↓gBs, ↓gTuple, ↓gIx, ↓gSl, ↓gSIndex, ↓gSFind, ↓gSStarts, ↓gSCount, ↓gJoin, ↓gIn, ↓gRepr, ↓gRev, ↓gListL, ↓gRepl, ↓gAug, ↓gAugS, ↓gMM, isTy_str, isTy_lst, isTy_dk, ↓fLK, ↓sel, ↓fCall, ↓sPutL, ↓sPutT, ↓sNewT, ↓sNewK, ↓lRep, ↓fLenT, slT, Sl.pt, atI_0, atI_1, atI_2, atI_3, ↓gLenSet, ↓gSCount3, ↓gIsi, ↓gSFind2, ↓gSRFind3, ↓sExt, ↓lRg, ↓iEn, ↓gRevB, tyS_n, tyS_b, tyS_i, tyS_s, tyS_t, tyS_l, tyS_d, isT_ss, isT_tt, isT_ll, isT_ii, isT_bb, isT_dd, isE_str, isE_int, isE_bl, isE_non, isE_tup, isE_lst, enD_map, ↓gSorted, ↓sRetN',
  exS_some, ifB_true, ifB_false, List.map_cons, List.map_nil, List.length_cons, List.length_nil, uns, List.cons_append, List.nil_append, List.set_cons_zero, List.set_cons_succ, List.getElem?_cons_zero, List.getElem?_cons_succ, List.filterMap_cons, List.filterMap_nil, Nat.zero_add, Nat.reduceAdd, Nat.reduceSub, Nat.reduceLT, true_and, and_true, reduceCtorEq, Bool.not_true, Bool.not_false, Bool.false_xor, Bool.true_xor, decide_true, decide_false, sh_int, sh_bl, sh_non, sh_tupI, sh_lstI, eqv_int, eqv_bl, eqv_tupI, eqv_lstI]))
local macro_rules | `(tactic| walk_at "xn") => `(tactic| ((try walk_at "xl"); (try walk_at "nats"); (try walk_at "xl"); (try walk_at "nats")))
local macro_rules | `(tactic| walk_at "ul") => `(tactic| (simp -dsimp only [↓gGcd, ↓gLstD, ↓sTry, ↓gSRFind1, ↓fCallX, ↓fLKX, ↓CalX, ↓sRaise1, ↓sRaise0, ↓fExF, ↓fExI, List.lookup_cons_self, ↓gDict, ↓gListK, ↓lAdd, ↓gSortedT, ↓gTupleS, ↓sNev, ↓ent, ↓freeze, ↓forget, ↓slD, ↓slP, ↓slL, ↓slK, Sl.pd, Sl.pp, Sl.pl, Sl.pk, Option.bind_some, ↓sNil, ↓sSeq, ↓sBreak, ↓sCont, ↓sSet, ↓sSetL, ↓sDrop, ↓sRet, ↓sRetN, ↓sIf, ↓sPar, ↓sPar2, ↓sPar3, ↓sAsg, ↓sApp, ↓sAppP, ↓sFrz, ↓sAug, ↓sSetP, ↓sDropP, ↓sAsgP, ↓sFor, ↓fC, ↓fV, ↓fP, ↓f1, ↓f2, ↓f3, ↓fL, ↓fM, ↓fSl, ↓oNone, ↓oSome, ↓vB, ↓vAnd, ↓vOr, ↓vNot, ↓vIf, ↓vTup, ↓vLst, ↓bB, ↓bAnd, ↓bOr, ↓bNot, ↓bYes, ↓aNil, ↓aCons, ↓xNil, ↓xD, ↓xL, ↓lL, ↓fPop, ↓fPopA, ↓fAddP, ↓iOf, ↓iR1, ↓iR2, ↓iZ, ↓lcF, ↓gN, ↓gsNil, ↓gsCons, ↓gTupD, ↓itms, ↓gI, ↓gAdd, ↓gSub, ↓gMod, ↓gPow, ↓gDiv, ↓gMul, ↓gNeg, ↓gEq, ↓gCmp, ↓gLt, ↓gLe, ↓gGt, ↓gGe, ↓gIsN, ↓gLen, ↓gInt, ↓gAbs, ↓g2I, ↓gSum, ↓gBs, ↓gTuple, ↓gIx, ↓gSl, ↓gSIndex, ↓gSFind, ↓gSStarts, ↓gSCount, ↓gJoin, ↓gIn, ↓gRepr, ↓gRev, ↓gListL, ↓gRepl, ↓gAug, ↓gAugS, ↓gMM, isTy_str, isTy_lst, isTy_dk, ↓fLK, ↓sel, ↓fCall, ↓sPutL, ↓sPutT, ↓sNewT, ↓sNewK, ↓lRep, ↓fLenT, slT, Sl.pt, atI_0, atI_1, atI_2, atI_3, ↓gLenSet, ↓gSCount3, ↓gIsi, ↓gSFind2, ↓gSRFind3, ↓sExt, ↓lRg, ↓iEn, ↓gRevB, tyS_n, tyS_b, tyS_i, tyS_s, tyS_t, tyS_l, tyS_d, isT_ss, isT_tt, isT_ll, isT_ii, isT_bb, isT_dd, isE_str, isE_int, isE_bl, isE_non, isE_tup, isE_lst, enD_map, ↓gSorted, ↓sRetN',
  exS_some, ifB_true, ifB_false, List.map_cons, List.map_nil, List.length_cons, List.length_nil, uns, List.cons_append, List.nil_append, List.set_cons_zero, List.set_cons_succ, List.getElem?_cons_zero, List.getElem?_cons_succ, List.filterMap_cons, List.filterMap_nil, Nat.zero_add, Nat.reduceAdd, Nat.reduceSub, Nat.reduceLT, true_and, and_true, reduceCtorEq, Bool.not_true, Bool.not_false, Bool.false_xor, Bool.true_xor, decide_true, decide_false, sh_int, sh_bl, sh_non, sh_tupI, sh_lstI, eqv_int, eqv_bl, eqv_tupI, eqv_lstI]))
local macro_rules | `(tactic| walk_at "un") => `(tactic| ((try walk_at "ul"); (try walk_at "nats"); (try walk_at "ul"); (try walk_at "nats")))
local macro_rules | `(tactic| walk_at "jl") => `(tactic| (simp -dsimp only [↓gSortedX, ↓lSortSet, ↓gGcd, ↓gLstD, ↓sTry, ↓gSRFind1, ↓fCallX, ↓fLKX, ↓CalX, ↓sRaise1, ↓sRaise0, ↓fExF, ↓fExI, List.lookup_cons_self, ↓gDict, ↓gListK, ↓lAdd, ↓gSortedT, ↓gTupleS, ↓sNev, ↓ent, ↓freeze, ↓forget, ↓slD, ↓slP, ↓slL, ↓slK, Sl.pd, Sl.pp, Sl.pl, Sl.pk, Option.bind_some, ↓sNil, ↓sSeq, ↓sBreak, ↓sCont, ↓sSet, ↓sSetL, ↓sDrop, ↓sRet, ↓sRetN, ↓sIf, ↓sPar, ↓sPar2, ↓sPar3, ↓sAsg, ↓sApp, ↓sAppP, ↓sFrz, ↓sAug, ↓sSetP, ↓sDropP, ↓sAsgP, ↓sFor, ↓fC, ↓fV, ↓fP, ↓f1, ↓f2, ↓f3, ↓fL, ↓fM, ↓fSl, ↓oNone, ↓oSome, ↓vB, ↓vAnd, ↓vOr, ↓vNot, ↓vIf, ↓vTup, ↓vLst, ↓bB, ↓bAnd, ↓bOr, ↓bNot, ↓bYes, ↓aNil, ↓aCons, ↓xNil, ↓xD, ↓xL, ↓lL, ↓fPop, ↓fPopA, ↓fAddP, ↓iOf, ↓iR1, ↓iR2, ↓iZ, ↓lcF, ↓gN, ↓gsNil, ↓gsCons, ↓gTupD, ↓itms, ↓gI, ↓gAdd, ↓gSub, ↓gMod, ↓gPow, ↓gDiv, ↓gMul, ↓gNeg, ↓gEq, ↓gCmp, ↓gLt, ↓gLe, ↓gGt, ↓gGe, ↓gIsN, ↓gLen, ↓gInt, ↓gAbs, ↓g2I, ↓gSum, ↓gBs, ↓gTuple, ↓gIx, ↓gSl, ↓gSIndex, ↓gSFind, ↓gSStarts, ↓gSCount, ↓gJoin, ↓gIn, ↓gRepr, ↓gRev, ↓gListL, ↓gRepl, ↓gAug, ↓gAugS, ↓gMM, isTy_str, isTy_lst, isTy_dk, ↓fLK, ↓sel, ↓fCall, ↓sPutL, ↓sPutT, ↓sNewT, ↓sNewK, ↓lRep, ↓fLenT, slT, Sl.pt, atI_0, atI_1, atI_2, atI_3, ↓gLenSet, ↓gSCount3, ↓gIsi, ↓gSFind2, ↓gSRFind3, ↓sExt, ↓lRg, ↓iEn, ↓gRevB, tyS_n, tyS_b, tyS_i, tyS_s, tyS_t, tyS_l, tyS_d, isT_ss, isT_tt, isT_ll, isT_ii, isT_bb, isT_dd, isE_str, isE_int, isE_bl, isE_non, isE_tup, isE_lst, enD_map, ↓gSorted, ↓sRetN',
  exS_some, ifB_true, ifB_false, List.map_cons, List.map_nil, List.length_cons, List.length_nil, uns, List.cons_append, List.nil_append, List.set_cons_zero, List.set_cons_succ, List.getElem?_cons_zero, List.getElem?_cons_succ, List.filterMap_cons, List.filterMap_nil, Nat.zero_add, Nat.reduceAdd, Nat.reduceSub, Nat.reduceLT, true_and, and_true, reduceCtorEq, Bool.not_true, Bool.not_false, Bool.false_xor, Bool.true_xor, decide_true, decide_false, sh_int, sh_bl, sh_non, sh_tupI, sh_lstI, eqv_int, eqv_bl, eqv_tupI, eqv_lstI]))
local macro_rules | `(tactic| walk_at "jn") => `(tactic| ((try walk_at "jl"); (try walk_at "nats"); (try walk_at "jl"); (try walk_at "nats")))
local macro_rules | `(tactic| walk_at "kl") => `(tactic| (simp -dsimp only [↓gSortedY, ↓gSortedX, ↓lSortSet, ↓gGcd, ↓gLstD, ↓sTry, ↓gSRFind1, ↓fCallX, ↓fLKX, ↓CalX, ↓sRaise1, ↓sRaise0, ↓fExF, ↓fExI, List.lookup_cons_self, ↓gDict, ↓gListK, ↓lAdd, ↓gSortedT, ↓gTupleS, ↓sNev, ↓ent, ↓freeze, ↓forget, ↓slD, ↓slP, ↓slL, ↓slK, Sl.pd, Sl.pp, Sl.pl, Sl.pk, Option.bind_some, ↓sNil, ↓sSeq, ↓sBreak, ↓sCont, ↓sSet, ↓sSetL, ↓sDrop, ↓sRet, ↓sRetN, ↓sIf, ↓sPar, ↓sPar2, ↓sPar3, ↓sAsg, ↓sApp, ↓sAppP, ↓sFrz, ↓sAug, ↓sSetP, ↓sDropP, ↓sAsgP, ↓sFor, ↓fC, ↓fV, ↓fP, ↓f1, ↓f2, ↓f3, ↓fL, ↓fM, ↓fSl, ↓oNone, ↓oSome, ↓vB, ↓vAnd, ↓vOr, ↓vNot, ↓vIf, ↓vTup, ↓vLst, ↓bB, ↓bAnd, ↓bOr, ↓bNot, ↓bYes, ↓aNil, ↓aCons, ↓xNil, ↓xD, ↓xL, ↓lL, ↓fPop, ↓fPopA, ↓fAddP, ↓iOf, ↓iR1, ↓iR2, ↓iZ, ↓lcF, ↓gN, ↓gsNil, ↓gsCons, ↓gTupD, ↓itms, ↓gI, ↓gAdd, ↓gSub, ↓gMod, ↓gPow, ↓gDiv, ↓gMul, ↓gNeg, ↓gEq, ↓gCmp, ↓gLt, ↓gLe, ↓gGt, ↓gGe, ↓gIsN, ↓gLen, ↓gInt, ↓gAbs, ↓g2I, ↓gSum, ↓gBs, ↓gTuple, ↓gIx, ↓gSl, ↓gSIndex, ↓gSFind, ↓gSStarts, ↓gSCount, ↓gJoin, ↓gIn, ↓gRepr, ↓gRev, ↓gListL, ↓gRepl, ↓gAug, ↓gAugS, ↓gMM, isTy_str, isTy_lst, isTy_dk, ↓fLK, ↓sel, ↓fCall, ↓sPutL, ↓sPutT, ↓sNewT, ↓sNewK, ↓lRep, ↓fLenT, slT, Sl.pt, atI_0, atI_1, atI_2, atI_3, ↓gLenSet, ↓gSCount3, ↓gIsi, ↓gSFind2, ↓gSRFind3, ↓sExt, ↓lRg, ↓iEn, ↓gRevB, tyS_n, tyS_b, tyS_i, tyS_s, tyS_t, tyS_l, tyS_d, isT_ss, isT_tt, isT_ll, isT_ii, isT_bb, isT_dd, isE_str, isE_int, isE_bl, isE_non, isE_tup, isE_lst, enD_map, ↓gSorted, ↓sRetN',
  exS_some, ifB_true, ifB_false, List.map_cons, List.map_nil, List.length_cons, List.length_nil, uns, List.cons_append, List.nil_append, List.set_cons_zero, List.set_cons_succ, List.getElem?_cons_zero, List.getElem?_cons_succ, List.filterMap_cons, List.filterMap_nil, Nat.zero_add, Nat.reduceAdd, Nat.reduceSub, Nat.reduceLT, true_and, and_true, reduceCtorEq, Bool.not_true, Bool.not_false, Bool.false_xor, Bool.true_xor, decide_true, decide_false, sh_int, sh_bl, sh_non, sh_tupI, sh_lstI, eqv_int, eqv_bl, eqv_tupI, eqv_lstI]))
local macro_rules | `(tactic| walk_at "kn") => `(tactic| ((try walk_at "kl"); (try walk_at "nats"); (try walk_at "kl"); (try walk_at "nats")))
local macro_rules | `(tactic| walk_at "yl") => `(tactic| (simp -dsimp only [↓gSortedZ, ↓gSortedY, ↓gMulT, ↓sPutK, ↓sNewD, ↓sRetK, ↓gSortedX, ↓lSortSet, ↓gGcd, ↓gLstD, ↓sTry, ↓gSRFind1, ↓fCallX, ↓fLKX, ↓CalX, ↓sRaise1, ↓sRaise0, ↓fExF, ↓fExI, List.lookup_cons_self, ↓gDict, ↓gListK, ↓lAdd, ↓gSortedT, ↓gTupleS, ↓sNev, ↓ent, ↓freeze, ↓forget, ↓slD, ↓slP, ↓slL, ↓slK, Sl.pd, Sl.pp, Sl.pl, Sl.pk, Option.bind_some, ↓sNil, ↓sSeq, ↓sBreak, ↓sCont, ↓sSet, ↓sSetL, ↓sDrop, ↓sRet, ↓sRetN, ↓sIf, ↓sPar, ↓sPar2, ↓sPar3, ↓sAsg, ↓sApp, ↓sAppP, ↓sFrz, ↓sAug, ↓sSetP, ↓sDropP, ↓sAsgP, ↓sFor, ↓fC, ↓fV, ↓fP, ↓f1, ↓f2, ↓f3, ↓fL, ↓fM, ↓fSl, ↓oNone, ↓oSome, ↓vB, ↓vAnd, ↓vOr, ↓vNot, ↓vIf, ↓vTup, ↓vLst, ↓bB, ↓bAnd, ↓bOr, ↓bNot, ↓bYes, ↓aNil, ↓aCons, ↓xNil, ↓xD, ↓xL, ↓lL, ↓fPop, ↓fPopA, ↓fAddP, ↓iOf, ↓iR1, ↓iR2, ↓iZ, ↓lcF, ↓gN, ↓gsNil, ↓gsCons, ↓gTupD, ↓itms, ↓gI, ↓gAdd, ↓gSub, ↓gMod, ↓gPow, ↓gDiv, ↓gMul, ↓gNeg, ↓gEq, ↓gCmp, ↓gLt, ↓gLe, ↓gGt, ↓gGe, ↓gIsN, ↓gLen, ↓gInt, ↓gAbs, ↓g2I, ↓gSum, ↓gBs, ↓gTuple, ↓gIx, ↓gSl, ↓gSIndex, ↓gSFind, ↓gSStarts, ↓gSCount, ↓gJoin, ↓gIn, ↓gRepr, ↓gRev, ↓gListL, ↓gRepl, ↓gAug, ↓gAugS, ↓gMM, isTy_str, isTy_lst, isTy_dk, ↓fLK, ↓sel, ↓fCall, ↓sPutL, ↓sPutT, ↓sNewT, ↓sNewK, ↓lRep, ↓fLenT, slT, Sl.pt, atI_0, atI_1, atI_2, atI_3, ↓gLenSet, ↓gSCount3, ↓gIsi, ↓gSFind2, ↓gSRFind3, ↓sExt, ↓lRg, ↓iEn, ↓gRevB, tyS_n, tyS_b, tyS_i, tyS_s, tyS_t, tyS_l, tyS_d, isT_ss, isT_tt, isT_ll, isT_ii, isT_bb, isT_dd, isE_str, isE_int, isE_bl, isE_non, isE_tup, isE_lst, enD_map, ↓gSorted, ↓sRetN',
  exS_some, ifB_true, ifB_false, List.map_cons, List.map_nil, List.length_cons, List.length_nil, uns, List.cons_append, List.nil_append, List.set_cons_zero, List.set_cons_succ, List.getElem?_cons_zero, List.getElem?_cons_succ, List.filterMap_cons, List.filterMap_nil, Nat.zero_add, Nat.reduceAdd, Nat.reduceSub, Nat.reduceLT, true_and, and_true, reduceCtorEq, Bool.not_true, Bool.not_false, Bool.false_xor, Bool.true_xor, decide_true, decide_false, sh_int, sh_bl, sh_non, sh_tupI, sh_lstI, eqv_int, eqv_bl, eqv_tupI, eqv_lstI]))
local macro_rules | `(tactic| walk_at "yn") => `(tactic| ((try walk_at "yl"); (try walk_at "nats"); (try walk_at "yl"); (try walk_at "nats")))
local macro_rules | `(tactic| walk_at "ql") => `(tactic| (simp -dsimp only [↓sForO, ↓gSortedZ, ↓gSortedY, ↓gMulT, ↓sPutK, ↓sNewD, ↓sRetK, ↓gSortedX, ↓lSortSet, ↓gGcd, ↓gLstD, ↓sTry, ↓gSRFind1, ↓fCallX, ↓fLKX, ↓CalX, ↓sRaise1, ↓sRaise0, ↓fExF, ↓fExI, List.lookup_cons_self, ↓gDict, ↓gListK, ↓lAdd, ↓gSortedT, ↓gTupleS, ↓sNev, ↓ent, ↓freeze, ↓forget, ↓slD, ↓slP, ↓slL, ↓slK, Sl.pd, Sl.pp, Sl.pl, Sl.pk, Option.bind_some, ↓sNil, ↓sSeq, ↓sBreak, ↓sCont, ↓sSet, ↓sSetL, ↓sDrop, ↓sRet, ↓sRetN, ↓sIf, ↓sPar, ↓sPar2, ↓sPar3, ↓sAsg, ↓sApp, ↓sAppP, ↓sFrz, ↓sAug, ↓sSetP, ↓sDropP, ↓sAsgP, ↓sFor, ↓fC, ↓fV, ↓fP, ↓f1, ↓f2, ↓f3, ↓fL, ↓fM, ↓fSl, ↓oNone, ↓oSome, ↓vB, ↓vAnd, ↓vOr, ↓vNot, ↓vIf, ↓vTup, ↓vLst, ↓bB, ↓bAnd, ↓bOr, ↓bNot, ↓bYes, ↓aNil, ↓aCons, ↓xNil, ↓xD, ↓xL, ↓lL, ↓fPop, ↓fPopA, ↓fAddP, ↓iOf, ↓iR1, ↓iR2, ↓iZ, ↓lcF, ↓gN, ↓gsNil, ↓gsCons, ↓gTupD, ↓itms, ↓gI, ↓gAdd, ↓gSub, ↓gMod, ↓gPow, ↓gDiv, ↓gMul, ↓gNeg, ↓gEq, ↓gCmp, ↓gLt, ↓gLe, ↓gGt, ↓gGe, ↓gIsN, ↓gLen, ↓gInt, ↓gAbs, ↓g2I, ↓gSum, ↓gBs, ↓gTuple, ↓gIx, ↓gSl, ↓gSIndex, ↓gSFind, ↓gSStarts, ↓gSCount, ↓gJoin, ↓gIn, ↓gRepr, ↓gRev, ↓gListL, ↓gRepl, ↓gAug, ↓gAugS, ↓gMM, isTy_str, isTy_lst, isTy_dk, ↓fLK, ↓sel, ↓fCall, ↓sPutL, ↓sPutT, ↓sNewT, ↓sNewK, ↓lRep, ↓fLenT, slT, Sl.pt, atI_0, atI_1, atI_2, atI_3, ↓gLenSet, ↓gSCount3, ↓gIsi, ↓gSFind2, ↓gSRFind3, ↓sExt, ↓lRg, ↓iEn, ↓gRevB, tyS_n, tyS_b, tyS_i, tyS_s, tyS_t, tyS_l, tyS_d, isT_ss, isT_tt, isT_ll, isT_ii, isT_bb, isT_dd, isE_str, isE_int, isE_bl, isE_non, isE_tup, isE_lst, enD_map, ↓gSorted, ↓sRetN',
  exS_some, ifB_true, ifB_false, List.map_cons, List.map_nil, List.length_cons, List.length_nil, uns, List.cons_append, List.nil_append, List.set_cons_zero, List.set_cons_succ, List.getElem?_cons_zero, List.getElem?_cons_succ, List.filterMap_cons, List.filterMap_nil, Nat.zero_add, Nat.reduceAdd, Nat.reduceSub, Nat.reduceLT, true_and, and_true, reduceCtorEq, Bool.not_true, Bool.not_false, Bool.false_xor, Bool.true_xor, decide_true, decide_false, sh_int, sh_bl, sh_non, sh_tupI, sh_lstI, eqv_int, eqv_bl, eqv_tupI, eqv_lstI]))
local macro_rules | `(tactic| walk_at "qk") => `(tactic| ((try walk_at "ql"); (try walk_at "nats"); (try walk_at "ql"); (try walk_at "nats")))
local macro_rules | `(tactic| walk_at "qa") => `(tactic| (simp -dsimp only [↓sTry2, ↓sForO, ↓gSortedZ, ↓gSortedY, ↓gMulT, ↓sPutK, ↓sNewD, ↓sRetK, ↓gSortedX, ↓lSortSet, ↓gGcd, ↓gLstD, ↓sTry, ↓gSRFind1, ↓fCallX, ↓fLKX, ↓CalX, ↓sRaise1, ↓sRaise0, ↓fExF, ↓fExI, List.lookup_cons_self, ↓gDict, ↓gListK, ↓lAdd, ↓gSortedT, ↓gTupleS, ↓sNev, ↓ent, ↓freeze, ↓forget, ↓slD, ↓slP, ↓slL, ↓slK, Sl.pd, Sl.pp, Sl.pl, Sl.pk, Option.bind_some, ↓sNil, ↓sSeq, ↓sBreak, ↓sCont, ↓sSet, ↓sSetL, ↓sDrop, ↓sRet, ↓sRetN, ↓sIf, ↓sPar, ↓sPar2, ↓sPar3, ↓sAsg, ↓sApp, ↓sAppP, ↓sFrz, ↓sAug, ↓sSetP, ↓sDropP, ↓sAsgP, ↓sFor, ↓fC, ↓fV, ↓fP, ↓f1, ↓f2, ↓f3, ↓fL, ↓fM, ↓fSl, ↓oNone, ↓oSome, ↓vB, ↓vAnd, ↓vOr, ↓vNot, ↓vIf, ↓vTup, ↓vLst, ↓bB, ↓bAnd, ↓bOr, ↓bNot, ↓bYes, ↓aNil, ↓aCons, ↓xNil, ↓xD, ↓xL, ↓lL, ↓fPop, ↓fPopA, ↓fAddP, ↓iOf, ↓iR1, ↓iR2, ↓iZ, ↓lcF, ↓gN, ↓gsNil, ↓gsCons, ↓gTupD, ↓itms, ↓gI, ↓gAdd, ↓gSub, ↓gMod, ↓gPow, ↓gDiv, ↓gMul, ↓gNeg, ↓gEq, ↓gCmp, ↓gLt, ↓gLe, ↓gGt, ↓gGe, ↓gIsN, ↓gLen, ↓gInt, ↓gAbs, ↓g2I, ↓gSum, ↓gBs, ↓gTuple, ↓gIx, ↓gSl, ↓gSIndex, ↓gSFind, ↓gSStarts, ↓gSCount, ↓gJoin, ↓gIn, ↓gRepr, ↓gRev, ↓gListL, ↓gRepl, ↓gAug, ↓gAugS, ↓gMM, isTy_str, isTy_lst, isTy_dk, ↓fLK, ↓sel, ↓fCall, ↓sPutL, ↓sPutT, ↓sNewT, ↓sNewK, ↓lRep, ↓fLenT, slT, Sl.pt, atI_0, atI_1, atI_2, atI_3, ↓gLenSet, ↓gSCount3, ↓gIsi, ↓gSFind2, ↓gSRFind3, ↓sExt, ↓lRg, ↓iEn, ↓gRevB, tyS_n, tyS_b, tyS_i, tyS_s, tyS_t, tyS_l, tyS_d, isT_ss, isT_tt, isT_ll, isT_ii, isT_bb, isT_dd, isE_str, isE_int, isE_bl, isE_non, isE_tup, isE_lst, enD_map, ↓gSorted, ↓sRetN',
  exS_some, ifB_true, ifB_false, List.map_cons, List.map_nil, List.length_cons, List.length_nil, uns, List.cons_append, List.nil_append, List.set_cons_zero, List.set_cons_succ, List.getElem?_cons_zero, List.getElem?_cons_succ, List.filterMap_cons, List.filterMap_nil, Nat.zero_add, Nat.reduceAdd, Nat.reduceSub, Nat.reduceLT, true_and, and_true, reduceCtorEq, Bool.not_true, Bool.not_false, Bool.false_xor, Bool.true_xor, decide_true, decide_false, sh_int, sh_bl, sh_non, sh_tupI, sh_lstI, eqv_int, eqv_bl, eqv_tupI, eqv_lstI]))
local macro_rules | `(tactic| walk_at "qb") => `(tactic| ((try walk_at "qa"); (try walk_at "nats"); (try walk_at "qa"); (try walk_at "nats")))
local macro_rules | `(tactic| walk_at "xa") => `(tactic| (simp -dsimp only [↓gMulT0, ↓vTupRg, ↓gSStarts2, ↓sTry2, ↓sForO, ↓gSortedZ, ↓gSortedY, ↓gMulT, ↓sPutK, ↓sNewD, ↓sRetK, ↓gSortedX, ↓lSortSet, ↓gGcd, ↓gLstD, ↓sTry, ↓gSRFind1, ↓fCallX, ↓fLKX, ↓CalX, ↓sRaise1, ↓sRaise0, ↓fExF, ↓fExI, List.lookup_cons_self, ↓gDict, ↓gListK, ↓lAdd, ↓gSortedT, ↓gTupleS, ↓sNev, ↓ent, ↓freeze, ↓forget, ↓slD, ↓slP, ↓slL, ↓slK, Sl.pd, Sl.pp, Sl.pl, Sl.pk, Option.bind_some, ↓sNil, ↓sSeq, ↓sBreak, ↓sCont, ↓sSet, ↓sSetL, ↓sDrop, ↓sRet, ↓sRetN, ↓sIf, ↓sPar, ↓sPar2, ↓sPar3, ↓sAsg, ↓sApp, ↓sAppP, ↓sFrz, ↓sAug, ↓sSetP, ↓sDropP, ↓sAsgP, ↓sFor, ↓fC, ↓fV, ↓fP, ↓f1, ↓f2, ↓f3, ↓fL, ↓fM, ↓fSl, ↓oNone, ↓oSome, ↓vB, ↓vAnd, ↓vOr, ↓vNot, ↓vIf, ↓vTup, ↓vLst, ↓bB, ↓bAnd, ↓bOr, ↓bNot, ↓bYes, ↓aNil, ↓aCons, ↓xNil, ↓xD, ↓xL, ↓lL, ↓fPop, ↓fPopA, ↓fAddP, ↓iOf, ↓iR1, ↓iR2, ↓iZ, ↓lcF, ↓gN, ↓gsNil, ↓gsCons, ↓gTupD, ↓itms, ↓gI, ↓gAdd, ↓gSub, ↓gMod, ↓gPow, ↓gDiv, ↓gMul, ↓gNeg, ↓gEq, ↓gCmp, ↓gLt, ↓gLe, ↓gGt, ↓gGe, ↓gIsN, ↓gLen, ↓gInt, ↓gAbs, ↓g2I, ↓gSum, ↓gBs, ↓gTuple, ↓gIx, ↓gSl, ↓gSIndex, ↓gSFind, ↓gSStarts, ↓gSCount, ↓gJoin, ↓gIn, ↓gRepr, ↓gRev, ↓gListL, ↓gRepl, ↓gAug, ↓gAugS, ↓gMM, isTy_str, isTy_lst, isTy_dk, ↓fLK, ↓sel, ↓fCall, ↓sPutL, ↓sPutT, ↓sNewT, ↓sNewK, ↓lRep, ↓fLenT, slT, Sl.pt, atI_0, atI_1, atI_2, atI_3, ↓gLenSet, ↓gSCount3, ↓gIsi, ↓gSFind2, ↓gSRFind3, ↓sExt, ↓lRg, ↓iEn, ↓gRevB, tyS_n, tyS_b, tyS_i, tyS_s, tyS_t, tyS_l, tyS_d, isT_ss, isT_tt, isT_ll, isT_ii, isT_bb, isT_dd, isE_str, isE_int, isE_bl, isE_non, isE_tup, isE_lst, enD_map, ↓gSorted, ↓sRetN',
  exS_some, ifB_true, ifB_false, List.map_cons, List.map_nil, List.length_cons, List.length_nil, uns, List.cons_append, List.nil_append, List.set_cons_zero, List.set_cons_succ, List.getElem?_cons_zero, List.getElem?_cons_succ, List.filterMap_cons, List.filterMap_nil, Nat.zero_add, Nat.reduceAdd, Nat.reduceSub, Nat.reduceLT, true_and, and_true, reduceCtorEq, Bool.not_true, Bool.not_false, Bool.false_xor, Bool.true_xor, decide_true, decide_false, sh_int, sh_bl, sh_non, sh_tupI, sh_lstI, eqv_int, eqv_bl, eqv_tupI, eqv_lstI]))
local macro_rules | `(tactic| walk_at "xb") => `(tactic| ((try walk_at "xa"); (try walk_at "nats"); (try walk_at "xa"); (try walk_at "nats")))
local macro_rules | `(tactic| walk_at "za") => `(tactic| (simp -dsimp only [↓fHear, ↓plainly, Sl.pln, ↓gMulT0, ↓vTupRg, ↓gSStarts2, ↓sTry2, ↓sForO, ↓gSortedZ, ↓gSortedY, ↓gMulT, ↓sPutK, ↓sNewD, ↓sRetK, ↓gSortedX, ↓lSortSet, ↓gGcd, ↓gLstD, ↓sTry, ↓gSRFind1, ↓fCallX, ↓fLKX, ↓CalX, ↓sRaise1, ↓sRaise0, ↓fExF, ↓fExI, List.lookup_cons_self, ↓gDict, ↓gListK, ↓lAdd, ↓gSortedT, ↓gTupleS, ↓sNev, ↓ent, ↓freeze, ↓forget, ↓slD, ↓slP, ↓slL, ↓slK, Sl.pd, Sl.pp, Sl.pl, Sl.pk, Option.bind_some, ↓sNil, ↓sSeq, ↓sBreak, ↓sCont, ↓sSet, ↓sSetL, ↓sDrop, ↓sRet, ↓sRetN, ↓sIf, ↓sPar, ↓sPar2, ↓sPar3, ↓sAsg, ↓sApp, ↓sAppP, ↓sFrz, ↓sAug, ↓sSetP, ↓sDropP, ↓sAsgP, ↓sFor, ↓fC, ↓fV, ↓fP, ↓f1, ↓f2, ↓f3, ↓fL, ↓fM, ↓fSl, ↓oNone, ↓oSome, ↓vB, ↓vAnd, ↓vOr, ↓vNot, ↓vIf, ↓vTup, ↓vLst, ↓bB, ↓bAnd, ↓bOr, ↓bNot, ↓bYes, ↓aNil, ↓aCons, ↓xNil, ↓xD, ↓xL, ↓lL, ↓fPop, ↓fPopA, ↓fAddP, ↓iOf, ↓iR1, ↓iR2, ↓iZ, ↓lcF, ↓gN, ↓gsNil, ↓gsCons, ↓gTupD, ↓itms, ↓gI, ↓gAdd, ↓gSub, ↓gMod, ↓gPow, ↓gDiv, ↓gMul, ↓gNeg, ↓gEq, ↓gCmp, ↓gLt, ↓gLe, ↓gGt, ↓gGe, ↓gIsN, ↓gLen, ↓gInt, ↓gAbs, ↓g2I, ↓gSum, ↓gBs, ↓gTuple, ↓gIx, ↓gSl, ↓gSIndex, ↓gSFind, ↓gSStarts, ↓gSCount, ↓gJoin, ↓gIn, ↓gRepr, ↓gRev, ↓gListL, ↓gRepl, ↓gAug, ↓gAugS, ↓gMM, isTy_str, isTy_lst, isTy_dk, ↓fLK, ↓sel, ↓fCall, ↓sPutL, ↓sPutT, ↓sNewT, ↓sNewK, ↓lRep, ↓fLenT, slT, Sl.pt, atI_0, atI_1, atI_2, atI_3, ↓gLenSet, ↓gSCount3, ↓gIsi, ↓gSFind2, ↓gSRFind3, ↓sExt, ↓lRg, ↓iEn, ↓gRevB, tyS_n, tyS_b, tyS_i, tyS_s, tyS_t, tyS_l, tyS_d, isT_ss, isT_tt, isT_ll, isT_ii, isT_bb, isT_dd, isE_str, isE_int, isE_bl, isE_non, isE_tup, isE_lst, enD_map, ↓gSorted, ↓sRetN',
  exS_some, ifB_true, ifB_false, List.map_cons, List.map_nil, List.length_cons, List.length_nil, uns, List.cons_append, List.nil_append, List.set_cons_zero, List.set_cons_succ, List.getElem?_cons_zero, List.getElem?_cons_succ, List.filterMap_cons, List.filterMap_nil, Nat.zero_add, Nat.reduceAdd, Nat.reduceSub, Nat.reduceLT, true_and, and_true, reduceCtorEq, Bool.not_true, Bool.not_false, Bool.false_xor, Bool.true_xor, decide_true, decide_false, sh_int, sh_bl, sh_non, sh_tupI, sh_lstI, eqv_int, eqv_bl, eqv_tupI, eqv_lstI]))
local macro_rules | `(tactic| walk_at "zb") => `(tactic| ((try walk_at "za"); (try walk_at "nats"); (try walk_at "za"); (try walk_at "nats")))
namespace K62
open PySem PySem.Spec PyProof.Rows L2 Pl
def topS (i : Nat) : Stmt := PySem.Challenge.pw_wordstems_k62_whole_sorted_turnings.main.body.getD i (.Pass ⟨0, 0, 0, 0⟩)
abbrev s_turning : Stmt := topS 5
theorem sc_turning : FnScope ["word", "place"] ["word", "place"] (defScope s_turning) := ⟨rfl, rfl, rfl, by decide +kernel, rfl, by decide +kernel, by decide +kernel⟩
theorem bd_turning {K : Fg0} {f : Addr} {fd : FuncData} (F : Fun K "turning" "turning" s_turning f fd) : Binds K fd ["word", "place"] [] := F.binds fun _ _ _ _ _ _ us hl => match us, hl with | [_, _], _ => rfl
abbrev s_turning_order : Stmt := topS 7
theorem sc_turning_order : FnScope ["word", "own", "place"] ["word"] (defScope s_turning_order) := ⟨rfl, rfl, rfl, by decide +kernel, rfl, by decide +kernel, by decide +kernel⟩
theorem bd_turning_order {K : Fg0} {f : Addr} {fd : FuncData} (F : Fun K "turning_order" "turning_order" s_turning_order f fd) : Binds K fd ["word"] [] := F.binds fun _ _ _ _ _ _ us hl => match us, hl with | [_], _ => rfl
abbrev s_last_row : Stmt := topS 8
theorem sc_last_row : FnScope ["word", "place"] ["word"] (defScope s_last_row) := ⟨rfl, rfl, rfl, by decide +kernel, rfl, by decide +kernel, by decide +kernel⟩
theorem bd_last_row {K : Fg0} {f : Addr} {fd : FuncData} (F : Fun K "last_row" "last_row" s_last_row f fd) : Binds K fd ["word"] [] := F.binds fun _ _ _ _ _ _ us hl => match us, hl with | [_], _ => rfl
abbrev s_row_place : Stmt := topS 9
theorem sc_row_place : FnScope ["word", "place"] ["word"] (defScope s_row_place) := ⟨rfl, rfl, rfl, by decide +kernel, rfl, by decide +kernel, by decide +kernel⟩
theorem bd_row_place {K : Fg0} {f : Addr} {fd : FuncData} (F : Fun K "row_place" "row_place" s_row_place f fd) : Binds K fd ["word"] [] := F.binds fun _ _ _ _ _ _ us hl => match us, hl with | [_], _ => rfl
abbrev s_steps_of : Stmt := topS 10
theorem sc_steps_of : FnScope ["row", "found", "k", "letter", "place"] ["row"] (defScope s_steps_of) := ⟨rfl, rfl, rfl, by decide +kernel, rfl, by decide +kernel, by decide +kernel⟩
theorem bd_steps_of {K : Fg0} {f : Addr} {fd : FuncData} (F : Fun K "steps_of" "steps_of" s_steps_of f fd) : Binds K fd ["row"] [] := F.binds fun _ _ _ _ _ _ us hl => match us, hl with | [_], _ => rfl
abbrev s_turned_from : Stmt := topS 11
theorem sc_turned_from : FnScope ["row", "place", "steps", "letters", "at", "turn", "word"] ["row", "place"] (defScope s_turned_from) := ⟨rfl, rfl, rfl, by decide +kernel, rfl, by decide +kernel, by decide +kernel⟩
theorem bd_turned_from {K : Fg0} {f : Addr} {fd : FuncData} (F : Fun K "turned_from" "turned_from" s_turned_from f fd) : Binds K fd ["row", "place"] [] := F.binds fun _ _ _ _ _ _ us hl => match us, hl with | [_, _], _ => rfl
abbrev s__law_mill : Stmt := topS 13
theorem sc__law_mill : FnScope ["script", "seal", "deep", "cell", "own"] ["script", "seal"] (defScope s__law_mill) := ⟨rfl, rfl, rfl, by decide +kernel, rfl, by decide +kernel, by decide +kernel⟩
theorem bd__law_mill {K : Fg0} {f : Addr} {fd : FuncData} (F : Fun K "_law_mill" "_law_mill" s__law_mill f fd) : Binds K fd ["script", "seal"] [] := F.binds fun _ _ _ _ _ _ us hl => match us, hl with | [_, _], _ => rfl
abbrev s__law_take : Stmt := topS 14
theorem sc__law_take : FnScope ["mill", "many", "own", "number"] ["mill", "many"] (defScope s__law_take) := ⟨rfl, rfl, rfl, by decide +kernel, rfl, by decide +kernel, by decide +kernel⟩
theorem bd__law_take {K : Fg0} {f : Addr} {fd : FuncData} (F : Fun K "_law_take" "_law_take" s__law_take f fd) : Binds K fd ["mill", "many"] [] := F.binds fun _ _ _ _ _ _ us hl => match us, hl with | [_, _], _ => rfl
abbrev s__law_one : Stmt := topS 15
theorem sc__law_one : FnScope ["mill", "some"] ["mill", "some"] (defScope s__law_one) := ⟨rfl, rfl, rfl, by decide +kernel, rfl, by decide +kernel, by decide +kernel⟩
theorem bd__law_one {K : Fg0} {f : Addr} {fd : FuncData} (F : Fun K "_law_one" "_law_one" s__law_one f fd) : Binds K fd ["mill", "some"] [] := F.binds fun _ _ _ _ _ _ us hl => match us, hl with | [_, _], _ => rfl
abbrev s__law_same : Stmt := topS 16
theorem sc__law_same : FnScope ["told", "due"] ["told", "due"] (defScope s__law_same) := ⟨rfl, rfl, rfl, by decide +kernel, rfl, by decide +kernel, by decide +kernel⟩
theorem bd__law_same {K : Fg0} {f : Addr} {fd : FuncData} (F : Fun K "_law_same" "_law_same" s__law_same f fd) : Binds K fd ["told", "due"] [] := F.binds fun _ _ _ _ _ _ us hl => match us, hl with | [_, _], _ => rfl
abbrev s__law_grown : Stmt := topS 17
theorem sc__law_grown : FnScope ["filling", "many", "found", "letter"] ["filling", "many"] (defScope s__law_grown) := ⟨rfl, rfl, rfl, by decide +kernel, rfl, by decide +kernel, by decide +kernel⟩
theorem bd__law_grown {K : Fg0} {f : Addr} {fd : FuncData} (F : Fun K "_law_grown" "_law_grown" s__law_grown f fd) : Binds K fd ["filling", "many"] [] := F.binds fun _ _ _ _ _ _ us hl => match us, hl with | [_, _], _ => rfl
abbrev s__law_word : Stmt := topS 18
theorem sc__law_word : FnScope ["mill", "most", "size", "kinds", "way", "found", "piece", "own", "start", "place"] ["mill", "most"] (defScope s__law_word) := ⟨rfl, rfl, rfl, by decide +kernel, rfl, by decide +kernel, by decide +kernel⟩
theorem bd__law_word {K : Fg0} {f : Addr} {fd : FuncData} (F : Fun K "_law_word" "_law_word" s__law_word f fd) : Binds K fd ["mill", "most"] [] := F.binds fun _ _ _ _ _ _ us hl => match us, hl with | [_, _], _ => rfl
abbrev s__law_heard : Stmt := topS 19
theorem sc__law_heard : FnScope ["call", "slip"] ["call"] (defScope s__law_heard) := ⟨rfl, rfl, rfl, by decide +kernel, rfl, by decide +kernel, by decide +kernel⟩
theorem bd__law_heard {K : Fg0} {f : Addr} {fd : FuncData} (F : Fun K "_law_heard" "_law_heard" s__law_heard f fd) : Binds K fd ["call"] [] := F.binds fun _ _ _ _ _ _ us hl => match us, hl with | [_], _ => rfl
abbrev s__law_last_row : Stmt := topS 20
theorem sc__law_last_row : FnScope ["word", "some", "p", "own"] ["word"] (defScope s__law_last_row) := ⟨rfl, rfl, rfl, by decide +kernel, rfl, by decide +kernel, by decide +kernel⟩
theorem bd__law_last_row {K : Fg0} {f : Addr} {fd : FuncData} (F : Fun K "_law_last_row" "_law_last_row" s__law_last_row f fd) : Binds K fd ["word"] [] := F.binds fun _ _ _ _ _ _ us hl => match us, hl with | [_], _ => rfl
abbrev s__law_steps : Stmt := topS 21
theorem sc__law_steps : FnScope ["row", "order", "found", "spot", "letter", "place"] ["row"] (defScope s__law_steps) := ⟨rfl, rfl, rfl, by decide +kernel, rfl, by decide +kernel, by decide +kernel⟩
theorem bd__law_steps {K : Fg0} {f : Addr} {fd : FuncData} (F : Fun K "_law_steps" "_law_steps" s__law_steps f fd) : Binds K fd ["row"] [] := F.binds fun _ _ _ _ _ _ us hl => match us, hl with | [_], _ => rfl
abbrev s__law_some_row : Stmt := topS 22
theorem sc__law_some_row : FnScope ["mill", "most", "word"] ["mill", "most"] (defScope s__law_some_row) := ⟨rfl, rfl, rfl, by decide +kernel, rfl, by decide +kernel, by decide +kernel⟩
theorem bd__law_some_row {K : Fg0} {f : Addr} {fd : FuncData} (F : Fun K "_law_some_row" "_law_some_row" s__law_some_row f fd) : Binds K fd ["mill", "most"] [] := F.binds fun _ _ _ _ _ _ us hl => match us, hl with | [_, _], _ => rfl
abbrev s__law_place : Stmt := topS 23
theorem sc__law_place : FnScope ["word", "p"] ["word"] (defScope s__law_place) := ⟨rfl, rfl, rfl, by decide +kernel, rfl, by decide +kernel, by decide +kernel⟩
theorem bd__law_place {K : Fg0} {f : Addr} {fd : FuncData} (F : Fun K "_law_place" "_law_place" s__law_place f fd) : Binds K fd ["word"] [] := F.binds fun _ _ _ _ _ _ us hl => match us, hl with | [_], _ => rfl
abbrev s__law_back : Stmt := topS 24
theorem sc__law_back : FnScope ["row", "place", "steps", "found", "here", "letter"] ["row", "place"] (defScope s__law_back) := ⟨rfl, rfl, rfl, by decide +kernel, rfl, by decide +kernel, by decide +kernel⟩
theorem bd__law_back {K : Fg0} {f : Addr} {fd : FuncData} (F : Fun K "_law_back" "_law_back" s__law_back f fd) : Binds K fd ["row", "place"] [] := F.binds fun _ _ _ _ _ _ us hl => match us, hl with | [_, _], _ => rfl
abbrev s_law : Stmt := topS 25
theorem sc_law : FnScope ["script", "mill", "turn", "word", "order", "row", "place", "due", "told", "named", "p", "times", "other", "spot", "back", "answer", "found", "own"] ["script"] (defScope s_law) := ⟨rfl, rfl, rfl, by decide +kernel, rfl, by decide +kernel, by decide +kernel⟩
theorem bd_law {K : Fg0} {f : Addr} {fd : FuncData} (F : Fun K "law" "law" s_law f fd) : Binds K fd ["script"] [] := F.binds fun _ _ _ _ _ _ us hl => match us, hl with | [_], _ => rfl
theorem kb0_turned_from {K : Fg0} {f : Addr} {fd : FuncData} (F : Fun K "turned_from" "turned_from" s_turned_from f fd) : KBd K fd ["row", "place"] ["place", "row"] 0 [1, 0] := by
  obtain ⟨oc, od, kV, doc, pm, an, cdv, ct, osl, rfl, lk, hcd⟩ := F.ex
  exact ⟨fun s us ws h1 h2 => .of_eq (match us, ws, h1, h2 with | [], [_, _], _, _ => rfl), by decide⟩
theorem kb1_steps_of {K : Fg0} {f : Addr} {fd : FuncData} (F : Fun K "steps_of" "steps_of" s_steps_of f fd) : KBd K fd ["row"] ["row"] 0 [0] := by
  obtain ⟨oc, od, kV, doc, pm, an, cdv, ct, osl, rfl, lk, hcd⟩ := F.ex
  exact ⟨fun s us ws h1 h2 => .of_eq (match us, ws, h1, h2 with | [], [_], _, _ => rfl), by decide⟩
theorem kb2_row_place {K : Fg0} {f : Addr} {fd : FuncData} (F : Fun K "row_place" "row_place" s_row_place f fd) : KBd K fd ["word"] ["word"] 0 [0] := by
  obtain ⟨oc, od, kV, doc, pm, an, cdv, ct, osl, rfl, lk, hcd⟩ := F.ex
  exact ⟨fun s us ws h1 h2 => .of_eq (match us, ws, h1, h2 with | [], [_], _, _ => rfl), by decide⟩
theorem kb3_last_row {K : Fg0} {f : Addr} {fd : FuncData} (F : Fun K "last_row" "last_row" s_last_row f fd) : KBd K fd ["word"] ["word"] 0 [0] := by
  obtain ⟨oc, od, kV, doc, pm, an, cdv, ct, osl, rfl, lk, hcd⟩ := F.ex
  exact ⟨fun s us ws h1 h2 => .of_eq (match us, ws, h1, h2 with | [], [_], _, _ => rfl), by decide⟩
theorem kb4_turning_order {K : Fg0} {f : Addr} {fd : FuncData} (F : Fun K "turning_order" "turning_order" s_turning_order f fd) : KBd K fd ["word"] ["word"] 0 [0] := by
  obtain ⟨oc, od, kV, doc, pm, an, cdv, ct, osl, rfl, lk, hcd⟩ := F.ex
  exact ⟨fun s us ws h1 h2 => .of_eq (match us, ws, h1, h2 with | [], [_], _, _ => rfl), by decide⟩
section
variable {P : Program} {w : World} {K : Fg0} {mg : Str → Option Value} {base : Heap}
structure Tx (K : Fg0) (mg : Str → Option Value) (base : Heap) : Prop where
  b : Sys base
  z_abs : mg "abs" = none
  z_enumerate : mg "enumerate" = none
  z_int : mg "int" = none
  z_isinstance : mg "isinstance" = none
  z_len : mg "len" = none
  z_max : mg "max" = none
  z_range : mg "range" = none
  z_repr : mg "repr" = none
  z_sorted : mg "sorted" = none
  z_tuple : mg "tuple" = none
def clsBody : Stmt → List Stmt
  | .ClassDef _ _ _ b _ _ _ _ _ _ _ => b
  | _ => []
abbrev i_Unfit : Stmt := (clsBody (topS 2)).getD 0 (.Pass ⟨0, 0, 0, 0⟩)
abbrev i_TooMany : Stmt := (clsBody (topS 3)).getD 0 (.Pass ⟨0, 0, 0, 0⟩)
theorem ns_Unfit : NdefX.NScope ["self", "__class__"] ["self"] ["__class__"] (defScope i_Unfit) := NdefX.nscope_by (by decide +kernel)
theorem ns_TooMany : NdefX.NScope ["self", "limit", "__class__"] ["self", "limit"] ["__class__"] (defScope i_TooMany) := NdefX.nscope_by (by decide +kernel)
structure Ex (P : Program) (w : World) (K : Fg0) (mg : Str → Option Value) (base : Heap) (C_Unfit fI_Unfit : Addr) (fd_Unfit : FuncData) (C_TooMany fI_TooMany : Addr) (fd_TooMany : FuncData) (C_WordError : Addr) : Prop where
  z_Unfit : XCls P w K mg base "Unfit" C_Unfit fI_Unfit fd_Unfit ["self"] (spI0 C_Unfit)
  h_Unfit : XHot K C_Unfit
  z_TooMany : XCls P w K mg base "TooMany" C_TooMany fI_TooMany fd_TooMany ["self", "limit"] (spI1 C_TooMany "limit")
  h_TooMany : XHot K C_TooMany
  n_TooMany : PySem.W.findIn K (.ref C_TooMany) "limit" = some none
  m_WordError : mg "WordError" = some (.ref C_WordError)
  k_Unfit_Unfit : PySem.W.kitOne K (.ref C_Unfit) (.ref C_Unfit) = some true
  e_Unfit_Unfit : PySem.W.exmOne K (.ref C_Unfit) (.ref C_Unfit) = some true
  k_Unfit_TooMany : PySem.W.kitOne K (.ref C_Unfit) (.ref C_TooMany) = some false
  e_Unfit_TooMany : PySem.W.exmOne K (.ref C_Unfit) (.ref C_TooMany) = some false
  k_Unfit_WordError : PySem.W.kitOne K (.ref C_Unfit) (.ref C_WordError) = some true
  e_Unfit_WordError : PySem.W.exmOne K (.ref C_Unfit) (.ref C_WordError) = some true
  k_TooMany_Unfit : PySem.W.kitOne K (.ref C_TooMany) (.ref C_Unfit) = some false
  e_TooMany_Unfit : PySem.W.exmOne K (.ref C_TooMany) (.ref C_Unfit) = some false
  k_TooMany_TooMany : PySem.W.kitOne K (.ref C_TooMany) (.ref C_TooMany) = some true
  e_TooMany_TooMany : PySem.W.exmOne K (.ref C_TooMany) (.ref C_TooMany) = some true
  k_TooMany_WordError : PySem.W.kitOne K (.ref C_TooMany) (.ref C_WordError) = some true
  e_TooMany_WordError : PySem.W.exmOne K (.ref C_TooMany) (.ref C_WordError) = some true
theorem ok__law_take {f : Addr} {fd : FuncData} (F : Fun K "_law_take" "_law_take" s__law_take f fd) (T : Tx K mg base) : FnG P w K mg base 2 f fd ["mill", "many"] (gTake 0) := by
  refine fnG_raw F sc__law_take len_gTake mo_gTake fun cdv A outer s H vs Q hr hG ⟨M, z, ds, hx, ia, n, e, ln, q1, q2⟩ => ?_
  subst e
  have hu := hu_of hr
  refine ⟨_, pss_cons (ps_if (pt_cmpR op_lt (pv 1) pe_int (nomark _)) (pss_one (ps_ret pe_int)) pss_nil)
    (pss_cons (ps_if (pt_cmpR (op_neD hr.units) (pe_dget hu (pv 0) pe_str (fun _ _ => rfl)) (pe_lst pa_nil) (nomark _))
      (pss_cons (ps_set (i := 2) sc__law_take.nd rfl (.inl rfl) (pe_bm PySem.F.plainAttrs_list PySem.F.slot_list_pop PySem.F.type_list_pop mt_popAt (pe_dget hu (pv 0) pe_str (fun _ _ => rfl)) (pa_cons pe_int pa_nil)))
        (pss_cons (ps_if (pt_cmpR op_ge (pv 2) (pv 1) (nomark _)) (pss_one (ps_expr (pe_bm PySem.F.plainAttrs_list PySem.F.slot_list_insert PySem.F.type_list_insert mt_insert (pe_dget hu (pv 0) pe_str (fun _ _ => rfl)) (pa_cons pe_int (pa_cons (pe_op op_fdivN (pv 2) (pv 1)) pa_nil))))) pss_nil)
          (pss_one (ps_ret (pe_op op_modN (pe_callTy call_int1 (by rfl) T.z_int (by decide +kernel) (pa_cons (pv 2) pa_nil)) (pv 1))))))
      pss_nil)
    (pss_cons (ps_dput hu (pv 0) pe_str (pe_op op_add (pe_dget hu (pv 0) pe_str (fun _ _ => rfl)) pe_int) rfl)
    (pss_cons (ps_set (i := 3) sc__law_take.nd rfl (.inl rfl) (pe_op op_modN (pe_callTy call_int1 (by rfl) T.z_int (by decide +kernel) (pa_cons (pe_op op_add (pe_op op_add (pe_op op_mul (pe_dget hu (pv 0) pe_str (fun _ _ => rfl)) pe_int) (pe_op op_mul (pe_dget hu (pv 0) pe_str (fun _ _ => rfl)) pe_int)) pe_int) pa_nil)) pe_int))
    (pss_cons (ps_set (i := 3) sc__law_take.nd rfl (.inl rfl) (pe_op op_modN (pe_callTy call_int1 (by rfl) T.z_int (by decide +kernel) (pa_cons (pe_op op_add (pe_op op_mul (pv 3) (pv 3)) (pe_dget hu (pv 0) pe_str (fun _ _ => rfl))) pa_nil)) pe_int))
    (pss_cons (ps_set (i := 3) sc__law_take.nd rfl (.inl rfl) (pe_op op_modN (pe_callTy call_int1 (by rfl) T.z_int (by decide +kernel) (pa_cons (pe_op op_add (pe_op op_mul (pv 3) pe_int) (pe_op op_mul (pe_dget hu (pv 0) pe_str (fun _ _ => rfl)) pe_int)) pa_nil)) pe_int))
    (pss_one (ps_ret (pe_op op_modN (pe_callTy call_int1 (by rfl) T.z_int (by decide +kernel) (pa_cons (pe_op op_fdivN (pv 3) pe_int) pa_nil)) (pv 1))))))))), ?_⟩
  obtain ⟨μ, δ, tb, hM, rfl⟩ : ∃ μ δ tb, M = .at μ δ 0 tb ∧ vs = [.ref μ, .int n] := by
    cases ia with
    | cons i1 i2 =>
      cases i2 with
      | cons i2 i3 => cases i3; cases i1; cases i2; exact ⟨_, _, _, by assumption, rfl⟩
  subst hM
  obtain ⟨ns, i, j, m⟩ := mil_of hx.ok
  have nd1 : ((mlNames 0).kd : Str) ≠ (mlNames 0).k1 := by decide
  have nd2 : ((mlNames 0).kd : Str) ≠ (mlNames 0).k2 := by decide
  have n12 : ((mlNames 0).k1 : Str) ≠ (mlNames 0).k2 := by decide
  have s0 : Stp (.at μ δ 0 tb) H H := .refl hx.ok
  have fin : ∀ (v : Int) H', Stp (.at μ δ 0 tb) H H' → Wn K (.at μ δ 0 tb) z H Q (.int v) → Q (.int v) H' := fun v H' s q => q _ H' s (.int v)
  refine ⟨_, rfl, _, _, rfl, rfl, _, rfl, ite2 (fun h => fin _ _ s0 (q1 (by simpa using h))) fun h => ?_⟩
  have n2 : 2 ≤ n := by simpa using h
  have mod : ∀ (x : Int) H', Stp (.at μ δ 0 tb) H H' → Q (.int (x.fmod n)) H' := fun x H' s => fin _ _ s (q2 n2 _ (by rw [Int.fmod_eq_emod_of_nonneg _ (by omega)]; exact Int.emod_nonneg _ (by omega)) (by rw [Int.fmod_eq_emod_of_nonneg _ (by omega)]; exact Int.emod_lt_of_pos _ (by omega)))
  -- the list of great cells
  refine ⟨_, rfl, μ, _, rfl, get_1 m.hμ, Nat.zero_le _, fun p np => ?_⟩
  have m1 := m.new (o := .lst []) np
  have s1 : Stp (.at μ δ 0 tb) H (upd H p (.lst [])) := .new hx.ok np
  refine ⟨.list (ns.map PyData.int), .list [], .lst (.of m1.hδ) (dp_ints ns), .lst (.of upd_same) .nil, shp_ints ns, rfl, _, rfl, ?_⟩
  rw [eqv_nil]
  refine ite2 (fun h => ?_) fun h => ?_
  · cases ns with
    | nil => cases h
    | cons c r =>
      have hc : 0 ≤ c := m.pos c List.mem_cons_self
      have hr' : ∀ n ∈ r, 0 ≤ n := fun n h => m.pos n (List.mem_cons_of_mem _ h)
      have hl : r.length + 1 ≤ 1000 := m.few
      refine ⟨_, rfl, μ, _, rfl, get_1 m1.hμ, .inl ⟨rfl, _, .of m1.hδ⟩, δ, _, 0, 0, .int c, rfl, rfl, m1.hδ, by decide, by decide, seqIndex_of (by decide) (by rw [List.length_map, List.length_cons]; omega), rfl, ?_⟩
      have m2 := m1.list (ms := r) hr' (by omega)
      have s2 := stp_mil s1 δ (.inr rfl) m2.ok
      refine ⟨_, rfl, _, rfl, _, _, rfl, rfl, _, rfl, ite2 (fun h => ?_) fun h => ?_⟩
      · refine ⟨_, rfl, μ, _, rfl, get_1 m2.hμ, .inl ⟨rfl, _, .of m2.hδ⟩, _, rfl, _, rfl, c, n, rfl, rfl, ⟨by omega, by omega⟩, δ, _, 0, _, rfl, rfl, m2.hδ, by rw [List.length_map]; exact Nat.lt_of_le_of_lt (show r.length ≤ 1000 by omega) (by decide), by decide, by decide, ?_⟩
        have m3 := m2.list (ms := c.fdiv n :: r) (fun x hx => by
          rcases List.mem_cons.mp hx with e | e
          · rw [e]; exact Int.fdiv_nonneg hc (by omega)
          · exact hr' x e) (by rw [List.length_cons]; omega)
        have s3 := stp_mil s2 δ (.inr rfl) m3.ok
        exact ⟨_, rfl, .inl ⟨c, rfl, _, rfl, c, n, rfl, rfl, by omega, mod c _ s3⟩⟩
      · exact ⟨_, rfl, .inl ⟨c, rfl, _, rfl, c, n, rfl, rfl, by omega, mod c _ s2⟩⟩
  -- stirred
  · refine ⟨_, rfl, μ, _, rfl, get_3 m1.hμ nd2 n12, j, 1, rfl, rfl, _, rfl, μ, _, rfl, dput_3 m1.hμ nd2 n12, ?_⟩
    have m2 := m1.tab (i' := i) (j' := j + 1) ⟨m.inn.1, m.inn.2.1, by have := m.inn.2.2; omega⟩
    have s2 := stp_mil s1 μ (.inl rfl) m2.ok
    have bd : ∀ (x y : Int), 0 < y → y ≤ 4294967291 → 0 ≤ x.fmod y ∧ x.fmod y < 4294967291 := fun x y h0 h1 => by
      rw [Int.fmod_eq_emod_of_nonneg _ (by omega)]
      exact ⟨Int.emod_nonneg _ (by omega), Int.lt_of_lt_of_le (Int.emod_lt_of_pos _ h0) h1⟩
    refine ⟨_, rfl, μ, _, rfl, get_2 m2.hμ nd1, i, 69621, rfl, rfl, .inr (by decide), _, rfl, μ, _, rfl, get_3 m2.hμ nd2 n12, j + 1, 40503, rfl, rfl, .inr (by decide), _, _, rfl, rfl, _, 17, rfl, rfl, .inl ⟨_, rfl, _, 4294967279, rfl, rfl, (show (4294967279 : Int) ≠ 0 by decide), ?_⟩⟩
    have b1 := bd (i * 69621 + (j + 1) * 40503 + 17) 4294967279 (by decide) (by decide)
    refine ⟨_, rfl, _, rfl, (i * 69621 + (j + 1) * 40503 + 17).fmod 4294967279, (i * 69621 + (j + 1) * 40503 + 17).fmod 4294967279, rfl, rfl, .inr ⟨by omega, by omega⟩, _, rfl, μ, _, rfl, get_2 m2.hμ nd1, _, i, rfl, rfl, .inl ⟨_, rfl, _, 4294967231, rfl, rfl, (show (4294967231 : Int) ≠ 0 by decide), ?_⟩⟩
    refine ⟨_, rfl, _, 48271, rfl, rfl, .inr (by decide), _, rfl, μ, _, rfl, get_3 m2.hμ nd2 n12, j + 1, 2654435, rfl, rfl, .inr (by decide), _, _, rfl, rfl, .inl ⟨_, rfl, _, 4294967197, rfl, rfl, (show (4294967197 : Int) ≠ 0 by decide), ?_⟩⟩
    exact ⟨_, rfl, _, 32, rfl, rfl, (show CDivN _ 32 from ⟨by decide, by decide⟩), .inl ⟨_, rfl, _, rfl, _, n, rfl, rfl, by omega, mod _ _ s2⟩⟩
theorem sq10 : (10 : Int) ^ 16 = 10000000000000000 := by decide
theorem ok__law_mill {f : Addr} {fd : FuncData} (F : Fun K "_law_mill" "_law_mill" s__law_mill f fd) (T : Tx K mg base)  : FnS P w K mg base 2 f fd ["script", "seal"] (SpM K 0 pre2) := by
  refine fnM_of F sc__law_mill ?len fun cdv A outer s H hr hG => ⟨_, _,
      (d_seq (d_setL 2 (l_disp a_nil) sc__law_mill.nd)
      (d_seq (d_for (i_for (e_sl (e_v 0).top o_none (o_some e_int.top))) (g_n 3 sc__law_mill.nd)
      (d_seq (d_set 4 (e_add (e_mul e_int.top (e_bi b_abs T.z_abs (by decide +kernel) (at_cons (e_v 3).top at_nil)).top).top (e_ty b_int T.z_int (by decide +kernel) (at_cons (e_cp (c_lt hr.units) (e_v 3).top e_int.top).top at_nil)).top) sc__law_mill.nd)
      (d_seq (d_set 1 (e_mod (e_ty b_int T.z_int (by decide +kernel) (at_cons (e_add (e_add (e_mul (e_v 1).top e_int.top).top (e_v 4).top).top e_int.top).top at_nil)).top e_int.top) sc__law_mill.nd)
      (d_one (d_if (b_cp (c_ge hr.units) (e_v 4).top (e_pow e_int.top e_int.top).top)
      (d_one (d_app 2 (e_v 4)))
      d_nil)))))
      (d_one (d_retM 0 2 (e_add (e_v 1).top (e_bi b_len T.z_len (by decide +kernel) (at_cons (e_sl (e_v 0).top o_none (o_some e_int.top)).top at_nil)).top) e_int)))), ?rd⟩
  case len => rintro ds ⟨ns, j, _, _, _, rfl⟩; rfl
  case rd =>
    rintro ds ⟨ns, j, h1, h2, h3, rfl⟩
    walk_at "pn"
    have hcl : (cut ns none (some (60 : Int))).length ≤ 63 := Nat.le_trans (cut_le _ _ _) h1
    generalize hcs : cut ns none (some (60 : Int)) = cs at hcl ⊢
    refine for_all D.int (fun r ρ => ∃ (p : List Int) (deep : List Int) (sl0 : Int) (x y : Sl), cs = p ++ r ∧ ρ = [.d (.scr ns), .d (.int sl0), .ol (deep.map D.int), x, y] ∧ 0 ≤ sl0 ∧ sl0 < 4294967291 ∧ (∀ n ∈ deep, 0 ≤ n) ∧ deep.length ≤ p.length) _ (fun c r ρ hw hS nx hn => ?_) (fun ρ hS => ?_) _ ⟨[], [], j, _, _, rfl, rfl, h2, h3, (fun n hn => nomatch hn), Nat.le_refl _⟩
    · obtain ⟨p, deep, sl0, x, y, hp, rfl, h4, h5, h6, h7⟩ := hS
      have e : (if decide (c < 0) = true then (1 : Int) else 0) = if c < 0 then 1 else 0 := by
        by_cases z : c < 0
        · rw [if_pos z, if_pos (decide_eq_true z)]
        · rw [if_neg z, if_neg (by rw [decide_eq_false z]; exact Bool.false_ne_true)]
      have hpos : 0 ≤ (2 * if c < 0 then -c else c) + (if c < 0 then (1 : Int) else 0) := by
        by_cases z : c < 0
        · rw [if_pos z, if_pos z]; omega
        · rw [if_neg z, if_neg z]; omega
      have hpl : p.length ≤ cs.length := by rw [hp, List.length_append]; omega
      walk_at "pn"
      refine ⟨cmulL, cmulR, by decide, ⟨by omega, by omega, by decide⟩, ?_⟩
      rw [e]
      generalize (2 * if c < 0 then -c else c) + (if c < 0 then (1 : Int) else 0) = own at hpos ⊢
      have hb : 0 ≤ (sl0 * 48271 + own + 7).fmod 4294967291 ∧ (sl0 * 48271 + own + 7).fmod 4294967291 < 4294967291 := by
        rw [Int.fmod_eq_emod_of_nonneg _ (by omega)]
        exact ⟨Int.emod_nonneg _ (by omega), Int.emod_lt_of_pos _ (by omega)⟩
      refine ifB_of (fun z => ?_) fun z => ?_
      · walk_at "pn"
        refine ⟨by rw [List.length_map, sizeLine_eq]; omega, hn _ ⟨p ++ [c], deep ++ [own], _, _, _, by rw [hp]; simp, by rw [List.map_append]; rfl, hb.1, hb.2, fun n hn => ?_, by simp; exact h7⟩⟩
        rcases List.mem_append.mp hn with q | q
        · exact h6 n q
        · rw [List.mem_singleton.mp q]; exact hpos
      · walk_at "pn"
        exact hn _ ⟨p ++ [c], deep, _, _, _, by rw [hp]; simp, rfl, hb.1, hb.2, h6, by simp; omega⟩
    · obtain ⟨p, deep, sl0, x, y, hp, rfl, h4, h5, h6, h7⟩ := hS
      have hpl : p.length = cs.length := by rw [hp, List.append_nil]
      walk_at "pn"
      simp -dsimp only [↓sRetM]
      walk_at "pn"
      refine ⟨deep, sl0 + (cut ns none (some 60)).length, 0, rfl, by rw [List.length_map], rfl, h6, by omega, ?_⟩
      rw [hcs]
      exact ⟨by omega, by omega, by omega⟩
def flv (fl : List (List Nat)) (c : Nat) : List Nat := fl.getD (c - 97) []
def fillW (fl : List (List Nat)) (f : List Nat) : List Nat := (f.map (flv fl)).flatten
def headB : List (List Nat) → Bool
  | (97 :: _ :: _) :: _ => true
  | _ => false
def okF (fl : List (List Nat)) : Bool := decide (fl.length ≤ 4) && (fl.all fun x => decide (0 < x.length ∧ x.length ≤ 3) && x.all fun c => decide (97 ≤ c ∧ c < 97 + fl.length)) && headB fl
def OkW (fl : List (List Nat)) (f : List Nat) : Prop := ∀ c ∈ f, 97 ≤ c ∧ c < 97 + fl.length
theorem okF_all {fl : List (List Nat)} (h : okF fl = true) : fl.length ≤ 4 ∧ (∀ x ∈ fl, 0 < x.length ∧ x.length ≤ 3 ∧ OkW fl x) ∧ headB fl = true := by
  unfold okF at h
  rw [Bool.and_eq_true, Bool.and_eq_true, decide_eq_true_eq, List.all_eq_true] at h
  obtain ⟨⟨h1, h2⟩, h3⟩ := h
  refine ⟨h1, fun x hx => ?_, h3⟩
  have := h2 x hx
  rw [Bool.and_eq_true, decide_eq_true_eq, List.all_eq_true] at this
  refine ⟨this.1.1, this.1.2, fun c hc => ?_⟩
  exact decide_eq_true_eq.mp (this.2 c hc)
theorem flv_mem {fl : List (List Nat)} {c : Nat} (h : 97 ≤ c ∧ c < 97 + fl.length) : flv fl c ∈ fl ∧ fl[c - 97]? = some (flv fl c) := by
  have hl : c - 97 < fl.length := by omega
  unfold flv
  rw [List.getD_eq_getElem?_getD, List.getElem?_eq_getElem hl]
  exact ⟨List.getElem_mem hl, rfl⟩
theorem fill_ok {fl : List (List Nat)} (h : okF fl = true) {f : List Nat} (hw : OkW fl f) : OkW fl (fillW fl f) := fun c hc => by
  obtain ⟨h1, h2, h3⟩ := okF_all h
  unfold fillW at hc
  obtain ⟨x, hx, hc⟩ := List.mem_flatten.mp hc
  obtain ⟨a, ha, rfl⟩ := List.mem_map.mp hx
  exact (h2 _ (flv_mem (hw a ha)).1).2.2 c hc
theorem fill_len {fl : List (List Nat)} (h : okF fl = true) : ∀ {f : List Nat}, OkW fl f → f.length ≤ (fillW fl f).length ∧ (fillW fl f).length ≤ 3 * f.length
  | [], _ => ⟨Nat.le_refl _, Nat.le_refl _⟩
  | c :: f, hw => by
    have ih := fill_len h (f := f) fun a ha => hw a (List.mem_cons_of_mem _ ha)
    obtain ⟨h1, h2, h3⟩ := okF_all h
    have := h2 _ (flv_mem (hw c List.mem_cons_self)).1
    unfold fillW at ih ⊢
    rw [List.map_cons, List.flatten_cons, List.length_append, List.length_cons]
    omega
theorem head_of {fl : List (List Nat)} (h : headB fl = true) : ∃ a b r, fl = (97 :: a :: b) :: r := by
  unfold headB at h
  split at h
  · exact ⟨_, _, _, rfl⟩
  · cases h
theorem fill_head {fl : List (List Nat)} (h : okF fl = true) {f : List Nat} (hw : OkW fl (97 :: f)) : ∃ g, fillW fl (97 :: f) = 97 :: g ∧ f.length + 1 ≤ g.length := by
  have ih := (fill_len h (f := f) fun a ha => hw a (List.mem_cons_of_mem _ ha)).1
  obtain ⟨h1, h2, h3⟩ := okF_all h
  obtain ⟨a, b, r, rfl⟩ := head_of h3
  unfold fillW at ih ⊢
  rw [List.map_cons, List.flatten_cons]
  refine ⟨a :: b ++ (f.map (flv ((97 :: a :: b) :: r))).flatten, rfl, ?_⟩
  rw [List.length_append, List.length_cons]
  omega
def growN (fl : List (List Nat)) : Nat → Nat → List Nat → List Nat
  | 0, _, f => f
  | k + 1, many, f => if f.length < many then growN fl k many (fillW fl f) else f
def grown (fl : List (List Nat)) (many : Nat) : List Nat := (growN fl 60 many [97]).take many
/-- what the growing keeps -/
def Gr (fl : List (List Nat)) (many : Nat) (R : List Nat) (n : Nat) (f : List Nat) : Prop := growN fl n many f = R ∧ (∃ g, f = 97 :: g) ∧ OkW fl f ∧ f.length ≤ 200 ∧ 60 < f.length + n
theorem gr_0 {fl : List (List Nat)} (h : okF fl = true) {many : Nat} : Gr fl many (growN fl 60 many [97]) 60 [97] := by
  refine ⟨rfl, ⟨[], rfl⟩, fun c hc => ?_, by decide, by decide⟩
  obtain ⟨h1, h2, h3⟩ := okF_all h
  obtain ⟨a, b, r, rfl⟩ := head_of h3
  rw [List.mem_singleton.mp hc, List.length_cons]
  omega
theorem gr_s {fl : List (List Nat)} (h : okF fl = true) {many : Nat} {R : List Nat} {n : Nat} {f : List Nat} (hm : many ≤ 60) (g : Gr fl many R n f) (hl : f.length < many) : ∃ n', n = n' + 1 ∧ Gr fl many R n' (fillW fl f) := by
  obtain ⟨h1, ⟨g, rfl⟩, h3, h4, h5⟩ := g
  cases n with
  | zero => omega
  | succ n =>
    refine ⟨n, rfl, ?_⟩
    obtain ⟨g', e, hg⟩ := fill_head h h3
    have hl3 := (fill_len h h3).2
    rw [List.length_cons] at hl hl3 h5
    refine ⟨?_, ⟨g', e⟩, fill_ok h h3, by omega, ?_⟩
    · rw [growN, if_pos (by rw [List.length_cons]; exact hl)] at h1
      exact h1
    · rw [e, List.length_cons]; omega
theorem gr_e {fl : List (List Nat)} {many : Nat} {R : List Nat} {n : Nat} {f : List Nat} (g : Gr fl many R n f) (hl : ¬ f.length < many) : R = f := by
  obtain ⟨h1, _⟩ := g
  cases n with
  | zero => exact h1.symm
  | succ n => rw [growN, if_neg hl] at h1; exact h1.symm
theorem idx_of {c : Nat} (h1 : 97 ≤ c) (h2 : c < 101) : sfind [97, 98, 99, 100] [c] = some (c - 97) := by
  have : c = 97 ∨ c = 98 ∨ c = 99 ∨ c = 100 := by omega
  rcases this with rfl | rfl | rfl | rfl <;> decide
theorem joinL_nil : ∀ xs : List (List Nat), TL.joinL [] xs = xs.flatten
  | [] => rfl
  | [x] => by simp [TL.joinL]
  | x :: y :: r => by
    show x ++ ([] ++ TL.joinL [] (y :: r)) = _
    rw [joinL_nil (y :: r), List.flatten_cons (l := x), List.nil_append]
theorem fill_sum (fl : List (List Nat)) (f : List Nat) : ((f.map (flv fl)).map (·.length)).sum = (fillW fl f).length := by
  unfold fillW
  rw [List.length_flatten]
def g_grown : FL := fun ds Q => ∃ (fl : List (List Nat)) (many : Nat), ds = [.tup (fl.map D.str), .int many] ∧ okF fl = true ∧ many ≤ 60 ∧ Q (.str (grown fl many))
theorem ok__law_grown {f : Addr} {fd : FuncData} (F : Fun K "_law_grown" "_law_grown" s__law_grown f fd) (T : Tx K mg base)  : FnG P w K mg base 2 f fd ["filling", "many"] g_grown := by
  refine fnG_of F sc__law_grown ?len ?mo fun cdv A outer s H hr hG => ⟨_, _,
      (d_seq (d_set 2 (e_str [97]) sc__law_grown.nd)
      (d_seq (d_wh (b_cp (c_lt hr.units) (e_bi b_len T.z_len (by decide +kernel) (at_cons (e_v 2).top at_nil)).top (e_v 1).top)
      (d_one (d_set 2 (e_m PySem.F.plainAttrs_str PySem.F.slot_str_join PySem.F.type_str_join m_join (e_str []).top (at_cons (l_lc sc__law_grown.nd (i_cmp (e_v 2).top) (blkOk_by (own := [("letter", 3)]) (by kernel_rfl)) (fun _ _ _ _ _ => (g_n 3 sc__law_grown.nd)) (fun _ _ _ _ _ => ts_nil) (fun _ _ _ _ _ => (e_ix (e_v 0).top (e_m PySem.F.plainAttrs_str PySem.F.slot_str_index PySem.F.type_str_index m_sindex (e_str [97, 98, 99, 100]).top (at_cons (e_v 3).top at_nil)).top))).de.top at_nil)) sc__law_grown.nd)))
      (d_one (d_ret (e_sl (e_v 2).top o_none (o_some (e_v 1).top)))))), ?rd⟩
  case len => rintro ds Q ⟨fl, many, rfl, _⟩; rfl
  case mo => rintro ds Q Q' h ⟨fl, many, e, a, b, q⟩; exact ⟨fl, many, e, a, b, h _ q⟩
  case rd =>
    rintro ds Q ⟨fl, many, rfl, hok, h2, q⟩
    unfold grown at q
    walk_at "wn"
    refine wh_of (fun n ρ => ∃ f, Gr fl many (growN fl 60 many [97]) n f ∧ Fr 4 [kd (.tup (fl.map D.str)), kd (.int many), kd (.str f)] ρ) (n := 60) ⟨_, gr_0 hok, by walk_at "fr"⟩ fun n ρ hS K hK => ?_
    obtain ⟨f, hf, g, _⟩ := hS
    walk_at "fro"
    walk_at "wn"
    refine ifB_of (fun h => ?_) fun h => ?_
    · have hl : f.length < many := by simpa using h
      obtain ⟨n', en, hg'⟩ := gr_s hok h2 hf hl
      walk_at "wn"
      refine lc_map (fun c : Nat => D.str [c]) (fun c => D.str (flv fl c)) _ (fun c hc Qt Qf h => ?_) ?_
      · have := hf.2.2.1 c hc
        have h4 := (okF_all hok).1
        walk_at "wn"
        refine ⟨c - 97, idx_of this.1 (by omega), ?_⟩
        walk_at "wn"
        rw [List.getElem?_map, (flv_mem this).2]
        exact ⟨_, rfl, h⟩
      · have h3 := (fill_len hok hf.2.2.1).2
        have h5 := hf.2.2.2.1
        refine ⟨f.map (flv fl), by rw [List.map_map]; rfl, by rw [fill_sum]; simp; omega, ?_⟩
        rw [joinL_nil]
        exact hK _ en _ ⟨_, hg', by walk_at "fr"⟩
    · have hl : ¬ f.length < many := by simpa using h
      rw [gr_e hf hl] at q
      walk_at "wn"
      exact q
theorem grown_len (fl : List (List Nat)) (many : Nat) : (grown fl many).length ≤ many := by
  unfold grown
  rw [List.length_take]; omega
theorem growN_ok {fl : List (List Nat)} (h : okF fl = true) : ∀ (n many : Nat) (f : List Nat), OkW fl f → OkW fl (growN fl n many f)
  | 0, _, _, k => k
  | n + 1, many, f, k => by
    unfold growN
    split
    · exact growN_ok h n many _ (fill_ok h k)
    · exact k
/-- letters of the first k kinds -/
def Wk (k : Nat) (w : List Nat) : Prop := ∀ c ∈ w, 97 ≤ c ∧ c < 97 + k
theorem Wk.take {k : Nat} {w : List Nat} (h : Wk k w) (n : Nat) : Wk k (w.take n) := fun c hc => h c (List.mem_of_mem_take hc)
theorem Wk.drop {k : Nat} {w : List Nat} (h : Wk k w) (n : Nat) : Wk k (w.drop n) := fun c hc => h c (List.mem_of_mem_drop hc)
theorem Wk.app {k : Nat} {w v : List Nat} (h : Wk k w) (h' : Wk k v) : Wk k (w ++ v) := fun c hc => (List.mem_append.mp hc).elim (h c) (h' c)
theorem Wk.rep {k : Nat} {w : List Nat} (h : Wk k w) (n : Nat) : Wk k (List.replicate n w).flatten := fun c hc => by
  obtain ⟨v, hv, hc⟩ := List.mem_flatten.mp hc
  rw [(List.mem_replicate.mp hv).2] at hc
  exact h c hc
def g_one : FL := fun ds Q => (∃ xs : List D, ds = [.ml 0, .lst xs] ∧ xs ≠ [] ∧ xs.length ≤ 1000 ∧ ∀ d ∈ xs, Q d) ∨ ∃ x : List Nat, ds = [.ml 0, .str x] ∧ x ≠ [] ∧ x.length ≤ 1000 ∧ ∀ c ∈ x, Q (.str [c])
theorem ok__law_one {f : Addr} {fd : FuncData} (F : Fun K "_law_one" "_law_one" s__law_one f fd) (T : Tx K mg base) {f__law_take : Addr} {fd__law_take : FuncData} (D__law_take : Df K mg "_law_take" s__law_take f__law_take fd__law_take) (G__law_take : FnG P w K mg base 2 f__law_take fd__law_take ["mill", "many"] (gTake 0)) : FnG P w K mg base 3 f fd ["mill", "some"] g_one := by
  refine fnG_of F sc__law_one ?len ?mo fun cdv A outer s H hr hG => ⟨_, _,
      (d_one (d_ret (e_ix (e_v 1).top (e_call G__law_take (hr.mono (by decide)) hG D__law_take.mg D__law_take.fn.kp (bd__law_take D__law_take.fn) (a_cons (e_v 0) (a_cons (e_bi b_len T.z_len (by decide +kernel) (at_cons (e_v 1).top at_nil)) a_nil))).top))), ?rd⟩
  case len => rintro ds Q (⟨xs, rfl, _⟩ | ⟨xs, rfl, _⟩) <;> rfl
  case mo =>
    rintro ds Q Q' h (⟨xs, e, a, b, q⟩ | ⟨xs, e, a, b, q⟩)
    · exact .inl ⟨xs, e, a, b, fun d hd => h _ (q d hd)⟩
    · exact .inr ⟨xs, e, a, b, fun d hd => h _ (q d hd)⟩
  case rd =>
    rintro ds Q (⟨xs, rfl, h1, h2, q⟩ | ⟨xs, rfl, h1, h2, q⟩)
    · walk_at "wn"
      refine gTake_nat (by omega) fun i hi => ?_
      walk_at "wn"
      have : 0 < xs.length := List.length_pos_iff.mpr h1
      exact ⟨_, List.getElem?_eq_getElem (by omega), q _ (List.getElem_mem _)⟩
    · walk_at "wn"
      refine gTake_nat (by omega) fun i hi => ?_
      walk_at "wn"
      have : 0 < xs.length := List.length_pos_iff.mpr h1
      exact ⟨_, List.getElem?_eq_getElem (by omega), q _ (List.getElem_mem _)⟩
/-- a comprehension of drawn letters -/
theorem letters {k : Nat} : ∀ {ys : List D} {l : List Nat}, Rel2 (fun _ d => ∃ c, (97 ≤ c ∧ c < 97 + k) ∧ d = D.str [c]) l ys → ∃ w : List Nat, Wk k w ∧ w.length = l.length ∧ ys = (w.map fun c => [c]).map D.str
  | _, _, .nil => ⟨[], (fun c hc => nomatch hc), rfl, rfl⟩
  | _, _, .cons h t => by
    obtain ⟨c, hc, rfl⟩ := h
    obtain ⟨w, h1, h2, rfl⟩ := letters t
    exact ⟨c :: w, fun x hx => by
      rcases List.mem_cons.mp hx with e | e
      · rw [e]; exact hc
      · exact h1 x e, by rw [List.length_cons, List.length_cons, h2], rfl⟩
theorem join_ones : ∀ w : List Nat, TL.joinL [] (w.map fun c => [c]) = w
  | [] => rfl
  | [c] => rfl
  | c :: d :: w => by
    have := join_ones (d :: w)
    show [c] ++ ([] ++ TL.joinL [] ((d :: w).map fun c => [c])) = _
    rw [this]; rfl
theorem sum_ones : ∀ w : List Nat, ((w.map fun c => [c]).map (·.length)).sum = w.length
  | [] => rfl
  | c :: w => by
    rw [List.map_cons, List.map_cons, List.sum_cons, sum_ones w, List.length_cons]
    simp; omega
theorem len_ones (w : List Nat) : ((w.map fun c => [c]).map (·.length)).sum = w.length := by
  induction w with
  | nil => rfl
  | cons c w ih => rw [List.map_cons, List.map_cons, List.sum_cons, ih, List.length_cons, List.length_cons, List.length_nil]; omega
theorem joinL_ones (w : List Nat) : TL.joinL [] (w.map fun c => [c]) = w := by
  rw [joinL_nil]
  induction w with
  | nil => rfl
  | cons c w ih => rw [List.map_cons, List.flatten_cons, ih]; rfl
theorem grown_wk {fl : List (List Nat)} (h : okF fl = true) (many : Nat) : Wk 4 (grown fl many) := fun c hc => by
  obtain ⟨h1, h2, h3⟩ := okF_all h
  have k : OkW fl [97] := by
    intro c hc
    have e : c = 97 := List.mem_singleton.mp hc
    obtain ⟨a, b, r, rfl⟩ := head_of h3
    rw [List.length_cons]
    omega
  have := growN_ok h 60 many [97] k c (List.mem_of_mem_take hc)
  omega
def g_word : FL := fun ds Q => ∃ most : Nat, ds = [.ml 0, .int most] ∧ most ≤ 40 ∧ ∀ w, Wk 4 w → w.length ≤ most → Q (.str w)
theorem Wk.up {k n : Nat} {w : List Nat} (h : Wk k w) (hn : k ≤ n) : Wk n w := fun c hc => by have := h c hc; omega
theorem ok__law_word {f : Addr} {fd : FuncData} (F : Fun K "_law_word" "_law_word" s__law_word f fd) (T : Tx K mg base) {f__law_take : Addr} {fd__law_take : FuncData} (D__law_take : Df K mg "_law_take" s__law_take f__law_take fd__law_take) (G__law_take : FnG P w K mg base 2 f__law_take fd__law_take ["mill", "many"] (gTake 0)) {f__law_one : Addr} {fd__law_one : FuncData} (D__law_one : Df K mg "_law_one" s__law_one f__law_one fd__law_one) (G__law_one : FnG P w K mg base 3 f__law_one fd__law_one ["mill", "some"] g_one) {f__law_grown : Addr} {fd__law_grown : FuncData} (D__law_grown : Df K mg "_law_grown" s__law_grown f__law_grown fd__law_grown) (G__law_grown : FnG P w K mg base 2 f__law_grown fd__law_grown ["filling", "many"] g_grown) : FnG P w K mg base 4 f fd ["mill", "most"] g_word := by
  refine fnG_of F sc__law_word ?len ?mo fun cdv A outer s H hr hG => ⟨_, _,
      (d_seq (d_asg (e_tup (a_cons (e_call G__law_take (hr.mono (by decide)) hG D__law_take.mg D__law_take.fn.kp (bd__law_take D__law_take.fn) (a_cons (e_v 0) (a_cons (e_add (e_v 1).top e_int.top) a_nil))) (a_cons (e_call G__law_one (hr.mono (by decide)) hG D__law_one.mg D__law_one.fn.kp (bd__law_one D__law_one.fn) (a_cons (e_v 0) (a_cons (l_disp (a_cons e_int (a_cons e_int (a_cons e_int (a_cons e_int (a_cons e_int (a_cons e_int a_nil))))))).de a_nil))) (a_cons (e_call G__law_take (hr.mono (by decide)) hG D__law_take.mg D__law_take.fn.kp (bd__law_take D__law_take.fn) (a_cons (e_v 0) (a_cons e_int a_nil))) a_nil)))) (g_tup (n := 3) (gs_cons (g_n 2 sc__law_word.nd) (gs_cons (g_n 3 sc__law_word.nd) (gs_cons (g_n 4 sc__law_word.nd) gs_nil)))))
      (d_seq (d_if (b_cp (c_eq hr.units) (e_call G__law_take (hr.mono (by decide)) hG D__law_take.mg D__law_take.fn.kp (bd__law_take D__law_take.fn) (a_cons (e_v 0) (a_cons e_int a_nil))).top e_int.top)
      (d_one (d_set 2 (e_v 1) sc__law_word.nd))
      d_nil)
      (d_seq (d_set 5 (e_m PySem.F.plainAttrs_str PySem.F.slot_str_join PySem.F.type_str_join m_join (e_str []).top (at_cons (l_lc sc__law_word.nd (i_r1c T.z_range (at_cons (e_v 2).top at_nil)) (blkOk_by (own := [("place", 9)]) (by kernel_rfl)) (fun _ _ _ _ _ => (g_n 9 sc__law_word.nd)) (fun _ _ _ _ _ => ts_nil) (fun _ _ _ _ _ => (e_call G__law_one (hr.mono (by decide)) hG D__law_one.mg D__law_one.fn.kp (bd__law_one D__law_one.fn) (a_cons (e_v 0) (a_cons (e_sl (e_str [97, 98, 99, 100]).top o_none (o_some (e_v 3).top)) a_nil))))).de.top at_nil)) sc__law_word.nd)
      (d_seq (d_if (b_cp (c_in (u65 hr)) (e_v 4).top (e_tup (a_cons e_int (a_cons e_int a_nil))).top)
      (d_seq (d_set 6 (e_sl (e_v 5).top o_none (o_some (e_add e_int.top (e_call G__law_take (hr.mono (by decide)) hG D__law_take.mg D__law_take.fn.kp (bd__law_take D__law_take.fn) (a_cons (e_v 0) (a_cons e_int a_nil))).top).top)) sc__law_word.nd)
      (d_one (d_set 5 (e_sl (e_mul (e_v 6).top (e_v 2).top).top o_none (o_some (e_v 2).top)) sc__law_word.nd)))
      d_nil)
      (d_seq (d_if (b_cp (c_in (u65 hr)) (e_v 4).top (e_tup (a_cons e_int (a_cons e_int a_nil))).top)
      (d_seq (d_set 7 (e_call G__law_grown (hr.mono (by decide)) hG D__law_grown.mg D__law_grown.fn.kp (bd__law_grown D__law_grown.fn) (a_cons (e_call G__law_one (hr.mono (by decide)) hG D__law_one.mg D__law_one.fn.kp (bd__law_one D__law_one.fn) (a_cons (e_v 0) (a_cons (l_disp (a_cons (e_tup (a_cons (e_str [97, 98]) (a_cons (e_str [97]) a_nil))) (a_cons (e_tup (a_cons (e_str [97, 98]) (a_cons (e_str [98, 97]) a_nil))) (a_cons (e_tup (a_cons (e_str [97, 98]) (a_cons (e_str [97, 97]) a_nil))) (a_cons (e_tup (a_cons (e_str [97, 98, 99]) (a_cons (e_str [97, 99]) (a_cons (e_str [98]) a_nil)))) a_nil))))).de a_nil))) (a_cons (e_add (e_v 2).top e_int.top) a_nil))) sc__law_word.nd)
      (d_seq (d_set 8 (e_call G__law_take (hr.mono (by decide)) hG D__law_take.mg D__law_take.fn.kp (bd__law_take D__law_take.fn) (a_cons (e_v 0) (a_cons e_int a_nil))) sc__law_word.nd)
      (d_one (d_set 5 (e_sl (e_v 7).top (o_some (e_v 8).top) (o_some (e_add (e_v 8).top (e_v 2).top).top)) sc__law_word.nd))))
      d_nil)
      (d_seq (d_if (b_cp (c_eq hr.units) (e_v 4).top e_int.top)
      (d_one (d_set 5 (e_sl (e_add (e_v 5).top (e_revB (e_v 5).top).top).top o_none (o_some (e_v 2).top)) sc__law_word.nd))
      d_nil)
      (d_seq (d_if (b_w (w_and (b_cp (c_in (u65 hr)) (e_v 4).top (e_tup (a_cons e_int (a_cons e_int a_nil))).top) (w_and1 (b_cp (c_gt hr.units) (e_v 2).top e_int.top))))
      (d_seq (d_set 9 (e_call G__law_take (hr.mono (by decide)) hG D__law_take.mg D__law_take.fn.kp (bd__law_take D__law_take.fn) (a_cons (e_v 0) (a_cons (e_v 2) a_nil))) sc__law_word.nd)
      (d_one (d_set 5 (e_add (e_add (e_sl (e_v 5).top o_none (o_some (e_v 9).top)).top (e_call G__law_one (hr.mono (by decide)) hG D__law_one.mg D__law_one.fn.kp (bd__law_one D__law_one.fn) (a_cons (e_v 0) (a_cons (e_sl (e_str [97, 98, 99, 100]).top o_none (o_some (e_v 3).top)) a_nil))).top).top (e_sl (e_v 5).top (o_some (e_add (e_v 9).top e_int.top).top) o_none).top) sc__law_word.nd)))
      d_nil)
      (d_one (d_ret (e_v 5)))))))))), ?rd⟩
  case len => rintro ds Q ⟨m, rfl, _⟩; rfl
  case mo => rintro ds Q Q' h ⟨m, e, a, q⟩; exact ⟨m, e, a, fun w x y => h _ (q w x y)⟩
  case rd =>
    rintro ds Q ⟨most, rfl, hm, q⟩
    refine seq_cut (fun ρ => ∃ size kinds way : Nat, size ≤ most ∧ 1 ≤ kinds ∧ kinds ≤ 4 ∧ Fr 10 [kd (.ml 0), kd (.int most), kd (.int size), kd (.int kinds), kd (.int way)] ρ) ?_ fun K1 hK1 => ?_; rotate_left
    · walk_at "wn"
      refine gTake_nat (by omega) fun size hs => ?_
      walk_at "wn"
      refine .inl ⟨_, rfl, by simp, by decide, fun d hd => ?_⟩
      simp only [List.mem_cons, List.not_mem_nil, or_false] at hd
      rcases hd with rfl | rfl | rfl | rfl | rfl | rfl
      · walk_at "wn"
        refine ⟨8, rfl, by decide, fun z => absurd z (by decide), fun _ i h0 h1 => ?_⟩
        obtain ⟨way, rfl⟩ := Int.eq_ofNat_of_zero_le h0
        walk_at "wn"
        exact hK1 _ ⟨size, 1, way, by omega, by decide, by decide, by walk_at "fr"⟩
      · walk_at "wn"
        refine ⟨8, rfl, by decide, fun z => absurd z (by decide), fun _ i h0 h1 => ?_⟩
        obtain ⟨way, rfl⟩ := Int.eq_ofNat_of_zero_le h0
        walk_at "wn"
        exact hK1 _ ⟨size, 2, way, by omega, by decide, by decide, by walk_at "fr"⟩
      · walk_at "wn"
        refine ⟨8, rfl, by decide, fun z => absurd z (by decide), fun _ i h0 h1 => ?_⟩
        obtain ⟨way, rfl⟩ := Int.eq_ofNat_of_zero_le h0
        walk_at "wn"
        exact hK1 _ ⟨size, 2, way, by omega, by decide, by decide, by walk_at "fr"⟩
      · walk_at "wn"
        refine ⟨8, rfl, by decide, fun z => absurd z (by decide), fun _ i h0 h1 => ?_⟩
        obtain ⟨way, rfl⟩ := Int.eq_ofNat_of_zero_le h0
        walk_at "wn"
        exact hK1 _ ⟨size, 2, way, by omega, by decide, by decide, by walk_at "fr"⟩
      · walk_at "wn"
        refine ⟨8, rfl, by decide, fun z => absurd z (by decide), fun _ i h0 h1 => ?_⟩
        obtain ⟨way, rfl⟩ := Int.eq_ofNat_of_zero_le h0
        walk_at "wn"
        exact hK1 _ ⟨size, 3, way, by omega, by decide, by decide, by walk_at "fr"⟩
      · walk_at "wn"
        refine ⟨8, rfl, by decide, fun z => absurd z (by decide), fun _ i h0 h1 => ?_⟩
        obtain ⟨way, rfl⟩ := Int.eq_ofNat_of_zero_le h0
        walk_at "wn"
        exact hK1 _ ⟨size, 4, way, by omega, by decide, by decide, by walk_at "fr"⟩
    rintro ρ ⟨size0, kinds, way, hs0, hk1, hk2, f, _⟩
    walk_at "fro"
    refine seq_cut (fun ρ => ∃ size : Nat, size ≤ most ∧ Fr 10 [kd (.ml 0), kd (.int most), kd (.int size), kd (.int kinds), kd (.int way)] ρ) ?_ fun K1 hK1 => ?_; rotate_left
    · walk_at "wn"
      refine ⟨12, rfl, by decide, fun z => absurd z (by decide), fun _ i h0 h1 => ?_⟩
      walk_at "wn"
      refine ifB_of (fun h => ?_) fun h => ?_
      · walk_at "wn"
        exact hK1 _ ⟨most, Nat.le_refl _, by walk_at "fr"⟩
      · walk_at "wn"
        exact hK1 _ ⟨size0, hs0, by walk_at "fr"⟩
    rintro ρ ⟨size, hs, f, _⟩
    walk_at "fro"
    refine seq_cut (fun ρ => ∃ w, Wk 4 w ∧ w.length ≤ size ∧ Fr 10 [kd (.ml 0), kd (.int most), kd (.int size), kd (.int kinds), kd (.int way), kd (.str w)] ρ) ?_ fun K1 hK1 => ?_; rotate_left
    · walk_at "wn"
      refine ⟨b62, ?_⟩
      refine lc_rel (fun i : Nat => D.int (i : Int)) (fun _ d => ∃ c, (97 ≤ c ∧ c < 97 + kinds) ∧ d = D.str [c]) _ (fun i hi Qt Qf h => ?_) fun ys hy => ?_
      · walk_at "wn"
        refine .inr ⟨_, rfl, ?_, ?_, fun c hc => h _ ⟨c, ?_, rfl⟩⟩
        · intro z
          have := congrArg List.length z
          rw [List.length_take] at this
          simp at this
          omega
        · rw [List.length_take]; exact Nat.le_trans (Nat.min_le_right _ _) (by decide)
        · have e := List.mem_iff_getElem?.mp hc
          obtain ⟨j, ej⟩ := e
          rw [List.getElem?_take] at ej
          split at ej
          · rename_i hj
            have h4 : j = 0 ∨ j = 1 ∨ j = 2 ∨ j = 3 := by omega
            rcases h4 with rfl | rfl | rfl | rfl <;> (cases ej; omega)
          · cases ej
      · obtain ⟨w, h1, h2, rfl⟩ := letters hy
        have hwl : w.length = size := by rw [h2, List.length_range]; try omega
        walk_at "wn"
        refine ⟨w.map fun c => [c], rfl, by rw [len_ones]; simp; omega, ?_⟩
        rw [joinL_ones]
        exact hK1 _ ⟨w, h1.up hk2, by omega, by walk_at "fr"⟩
    rintro ρ ⟨w1, hw1, lw1, f, _⟩
    walk_at "fro"
    refine seq_cut (fun ρ => ∃ w, Wk 4 w ∧ w.length ≤ size ∧ Fr 10 [kd (.ml 0), kd (.int most), kd (.int size), kd (.int kinds), kd (.int way), kd (.str w)] ρ) ?_ fun K1 hK1 => ?_; rotate_left
    · walk_at "wn"
      refine ⟨rfl, rfl, ?_⟩
      refine ifB_of (fun h => ?_) fun h => ?_
      · walk_at "wn"
        refine ⟨6, rfl, by decide, fun z => absurd z (by decide), fun _ i h0 h1 => ?_⟩
        obtain ⟨i, rfl⟩ := Int.eq_ofNat_of_zero_le h0
        walk_at "wn"
        have hml : (w1.take (1 + i)).length * size ≤ 40 * 40 := Nat.mul_le_mul (by rw [List.length_take]; omega) (by omega)
        exact ⟨⟨by omega, by omega, by omega⟩, hK1 _ ⟨((List.replicate size (w1.take (1 + i))).flatten).take size, ((hw1.take _).rep size).take _, by rw [List.length_take]; omega, by walk_at "fr"⟩⟩
      · walk_at "wn"
        exact hK1 _ ⟨w1, hw1, lw1, by walk_at "fr"⟩
    rintro ρ ⟨w2, hw2, lw2, f, _⟩
    walk_at "fro"
    refine seq_cut (fun ρ => ∃ w, Wk 4 w ∧ w.length ≤ size ∧ Fr 10 [kd (.ml 0), kd (.int most), kd (.int size), kd (.int kinds), kd (.int way), kd (.str w)] ρ) ?_ fun K1 hK1 => ?_; rotate_left
    · walk_at "wn"
      refine ⟨rfl, rfl, ?_⟩
      refine ifB_of (fun h => ?_) fun h => ?_
      · walk_at "wn"
        refine .inl ⟨_, rfl, by simp, by decide, fun d hd => ?_⟩
        simp only [List.mem_cons, List.not_mem_nil, or_false] at hd
        rcases hd with rfl | rfl | rfl | rfl
        · walk_at "wn"
          refine ⟨[[97, 98], [97]], size + 8, rfl, by decide, by omega, ?_⟩
          have hg := grown_wk (fl := [[97, 98], [97]]) (by decide) (size + 8)
          generalize grown [[97, 98], [97]] (size + 8) = own at hg ⊢
          walk_at "wn"
          refine ⟨9, rfl, by decide, fun z => absurd z (by decide), fun _ i h0 h1 => ?_⟩
          obtain ⟨i, rfl⟩ := Int.eq_ofNat_of_zero_le h0
          walk_at "wn"
          exact hK1 _ ⟨(own.drop i).take size, (hg.drop _).take _, by rw [List.length_take]; omega, by walk_at "fr"⟩
        · walk_at "wn"
          refine ⟨[[97, 98], [98, 97]], size + 8, rfl, by decide, by omega, ?_⟩
          have hg := grown_wk (fl := [[97, 98], [98, 97]]) (by decide) (size + 8)
          generalize grown [[97, 98], [98, 97]] (size + 8) = own at hg ⊢
          walk_at "wn"
          refine ⟨9, rfl, by decide, fun z => absurd z (by decide), fun _ i h0 h1 => ?_⟩
          obtain ⟨i, rfl⟩ := Int.eq_ofNat_of_zero_le h0
          walk_at "wn"
          exact hK1 _ ⟨(own.drop i).take size, (hg.drop _).take _, by rw [List.length_take]; omega, by walk_at "fr"⟩
        · walk_at "wn"
          refine ⟨[[97, 98], [97, 97]], size + 8, rfl, by decide, by omega, ?_⟩
          have hg := grown_wk (fl := [[97, 98], [97, 97]]) (by decide) (size + 8)
          generalize grown [[97, 98], [97, 97]] (size + 8) = own at hg ⊢
          walk_at "wn"
          refine ⟨9, rfl, by decide, fun z => absurd z (by decide), fun _ i h0 h1 => ?_⟩
          obtain ⟨i, rfl⟩ := Int.eq_ofNat_of_zero_le h0
          walk_at "wn"
          exact hK1 _ ⟨(own.drop i).take size, (hg.drop _).take _, by rw [List.length_take]; omega, by walk_at "fr"⟩
        · walk_at "wn"
          refine ⟨[[97, 98, 99], [97, 99], [98]], size + 8, rfl, by decide, by omega, ?_⟩
          have hg := grown_wk (fl := [[97, 98, 99], [97, 99], [98]]) (by decide) (size + 8)
          generalize grown [[97, 98, 99], [97, 99], [98]] (size + 8) = own at hg ⊢
          walk_at "wn"
          refine ⟨9, rfl, by decide, fun z => absurd z (by decide), fun _ i h0 h1 => ?_⟩
          obtain ⟨i, rfl⟩ := Int.eq_ofNat_of_zero_le h0
          walk_at "wn"
          exact hK1 _ ⟨(own.drop i).take size, (hg.drop _).take _, by rw [List.length_take]; omega, by walk_at "fr"⟩
      · walk_at "wn"
        exact hK1 _ ⟨w2, hw2, lw2, by walk_at "fr"⟩
    rintro ρ ⟨w3, hw3, lw3, f, _⟩
    walk_at "fro"
    refine seq_cut (fun ρ => ∃ w, Wk 4 w ∧ w.length ≤ size ∧ Fr 10 [kd (.ml 0), kd (.int most), kd (.int size), kd (.int kinds), kd (.int way), kd (.str w)] ρ) ?_ fun K1 hK1 => ?_; rotate_left
    · walk_at "wn"
      refine ifB_of (fun h => ?_) fun h => ?_
      · walk_at "wn"
        exact ⟨by rw [List.length_reverse, sizeLine_eq]; omega, hK1 _ ⟨(w3 ++ w3.reverse).take size, (hw3.app fun c hc => hw3 c (List.mem_reverse.mp hc)).take _, by rw [List.length_take]; omega, by walk_at "fr"⟩⟩
      · walk_at "wn"
        exact hK1 _ ⟨w3, hw3, lw3, by walk_at "fr"⟩
    rintro ρ ⟨w4, hw4, lw4, f, _⟩
    walk_at "fro"
    refine seq_cut (fun ρ => ∃ w, Wk 4 w ∧ w.length ≤ size ∧ Fr 10 [kd (.ml 0), kd (.int most), kd (.int size), kd (.int kinds), kd (.int way), kd (.str w)] ρ) ?_ fun K1 hK1 => ?_; rotate_left
    · walk_at "wn"
      refine ⟨rfl, rfl, ?_⟩
      refine ifB_of (fun h => ?_) fun h => ?_
      · walk_at "wn"
        refine ifB_of (fun h2 => ?_) fun h2 => ?_
        · have hsz : 0 < size := by simpa using h2
          walk_at "wn"
          refine gTake_nat (by omega) fun i hi => ?_
          walk_at "wn"
          refine .inr ⟨_, rfl, ?_, ?_, fun c hc => ?_⟩
          · intro z
            have := congrArg List.length z
            rw [List.length_take] at this
            simp at this
            omega
          · rw [List.length_take]; exact Nat.le_trans (Nat.min_le_right _ _) (by decide)
          have hc4 : 97 ≤ c ∧ c < 97 + 4 := by
            have := List.mem_of_mem_take hc
            simp only [List.mem_cons, List.not_mem_nil, or_false] at this
            omega
          walk_at "wn"
          refine ⟨by rw [List.length_take, sizeLine_eq]; omega, by rw [List.length_append, List.length_take, List.length_drop, List.length_singleton, sizeLine_eq]; omega, ?_⟩
          refine hK1 _ ⟨w4.take i ++ [c] ++ w4.drop (i + 1), ((hw4.take i).app fun x hx => ?_).app (hw4.drop (i + 1)), by rw [List.length_append, List.length_append, List.length_take, List.length_drop, List.length_singleton]; omega, by walk_at "fr"⟩
          rw [List.mem_singleton.mp hx]
          exact hc4
        · walk_at "wn"
          exact hK1 _ ⟨w4, hw4, lw4, by walk_at "fr"⟩
      · walk_at "wn"
        exact hK1 _ ⟨w4, hw4, lw4, by walk_at "fr"⟩
    rintro ρ ⟨w5, hw5, lw5, f, _⟩
    walk_at "fro"
    walk_at "wn"
    exact q w5 hw5 (by omega)
/-- a value from outside -/
def ov (d : D) : Prop := okD d = true ∨ d = .dk []
theorem ov.ty {d : D} (h : ov d) : (tyD d).isSome = true := by
  rcases h with h | h
  · cases d <;> first | rfl | (unfold okD at h; cases h)
  · subst h; rfl
theorem okA_mem : ∀ {xs : List D} {x : D}, okA xs = true → x ∈ xs → okD x = true
  | a :: xs, x, h, hx => by
    unfold okA at h
    rw [Bool.and_eq_true] at h
    rcases List.mem_cons.mp hx with e | e
    · rw [e]; exact h.1
    · exact okA_mem h.2 e
theorem ov.tup {xs : List D} {x : D} (h : ov (.tup xs)) (hx : x ∈ xs) : ov x := by
  rcases h with h | h
  · exact .inl (okA_mem (by unfold okD at h; exact h) hx)
  · cases h
theorem ov.lst {xs : List D} {x : D} (h : ov (.lst xs)) (hx : x ∈ xs) : ov x := by
  rcases h with h | h
  · exact .inl (okA_mem (by unfold okD at h; exact h) hx)
  · cases h
theorem ov.noml {k : Nat} (h : ov (.ml k)) : False := by
  rcases h with h | h
  · unfold okD at h; cases h
  · cases h
theorem ov.noscr {k : List Int} (h : ov (.scr k)) : False := by
  rcases h with h | h
  · unfold okD at h; cases h
  · cases h
/-- a comprehension over any items -/
theorem lc_id {g : FG} {tt : FB} {fe : FE} {ρ : En} {Q : List D → Prop} {k : Dep Q} (c : D → Bool) (h : D → D) (l : List D) (hs : ∀ a ∈ l, ∀ (Qt : D → Prop) (Qf : Prop), (c a = true → Qt (h a)) → (c a = false → Qf) → g a ρ fun ρ' => tt ρ' fun b => ifB b (fe ρ' Qt) Qf) (q : Q ((l.filter c).map h)) : Lc g tt fe ρ Q l k := by
  have := lc_det (k := k) id c h l hs q
  rwa [List.map_id] at this
theorem lc_idm {g : FG} {tt : FB} {fe : FE} {ρ : En} {Q : List D → Prop} {k : Dep Q} (h : D → D) (l : List D) (hs : ∀ a ∈ l, ∀ (Qt : D → Prop) (Qf : Prop), Qt (h a) → g a ρ fun ρ' => tt ρ' fun b => ifB b (fe ρ' Qt) Qf) (q : Q (l.map h)) : Lc g tt fe ρ Q l k := by
  have := lc_map (k := k) id h l hs q
  rwa [List.map_id] at this
/-- a value of the law: asked from outside and shown -/
def Ve (k e : Nat) (d : D) : Prop := ov d ∧ rkE d = true ∧ deE d ≤ e ∧ wgE d ≤ k
theorem Ve.mono {k e k' e' : Nat} {d : D} (h : Ve k e d) (hk : k ≤ k' := by omega) (he : e ≤ e' := by omega) : Ve k' e' d := ⟨h.1, h.2.1, Nat.le_trans h.2.2.1 he, Nat.le_trans h.2.2.2 hk⟩
theorem Ve.re {k e : Nat} {d : D} (h : Ve k e d) (hk : k ≤ 200000 := by omega) (he : e ≤ 40 := by omega) : Pl.rE d := ⟨h.2.1, Nat.le_trans h.2.2.1 he, Nat.le_trans h.2.2.2 hk⟩
/-- a row of such values -/
def VeA (k e : Nat) (xs : List D) : Prop := okA xs = true ∧ rkEA xs = true ∧ deEA xs ≤ e ∧ wgEA xs ≤ k
theorem VeA.nil {k e : Nat} : VeA k e [] := ⟨rfl, rfl, Nat.zero_le _, Nat.zero_le _⟩
theorem VeA.cons {j k e : Nat} {d : D} {xs : List D} (h : Ve j e d) (hn : d ≠ .dk []) (g : VeA k e xs) : VeA (j + 1 + k) e (d :: xs) := by
  refine ⟨?_, ?_, ?_, ?_⟩
  · show (okD d && okA xs) = true
    rw [h.1.elim id fun z => absurd z hn, g.1]; rfl
  · show (rkE d && rkEA xs) = true
    rw [h.2.1, g.2.1]; rfl
  · show max (deE d) (deEA xs) ≤ e
    have := h.2.2.1; have := g.2.2.1; omega
  · show wgE d + 1 + wgEA xs ≤ _
    have := h.2.2.2; have := g.2.2.2; omega
theorem okA_app : ∀ xs ys : List D, okA (xs ++ ys) = (okA xs && okA ys)
  | [], ys => rfl
  | x :: xs, ys => by
    show (okD x && okA (xs ++ ys)) = ((okD x && okA xs) && okA ys)
    rw [okA_app xs ys, Bool.and_assoc]
theorem rkEA_app : ∀ xs ys : List D, rkEA (xs ++ ys) = (rkEA xs && rkEA ys)
  | [], ys => rfl
  | x :: xs, ys => by
    show (rkE x && rkEA (xs ++ ys)) = ((rkE x && rkEA xs) && rkEA ys)
    rw [rkEA_app xs ys, Bool.and_assoc]
theorem deEA_app : ∀ xs ys : List D, deEA (xs ++ ys) = max (deEA xs) (deEA ys)
  | [], ys => by show _ = max 0 _; simp
  | x :: xs, ys => by
    show max (deE x) (deEA (xs ++ ys)) = max (max (deE x) (deEA xs)) (deEA ys)
    rw [deEA_app xs ys]; omega
theorem wgEA_app : ∀ xs ys : List D, wgEA (xs ++ ys) = wgEA xs + wgEA ys
  | [], ys => by rw [List.nil_append]; show _ = 0 + _; omega
  | x :: xs, ys => by
    show wgE x + 1 + wgEA (xs ++ ys) = wgE x + 1 + wgEA xs + wgEA ys
    rw [wgEA_app xs ys]; omega
theorem VeA.app {j k e : Nat} {xs ys : List D} (h : VeA j e xs) (g : VeA k e ys) : VeA (j + k) e (xs ++ ys) :=
  ⟨by rw [okA_app, h.1, g.1]; rfl, by rw [rkEA_app, h.2.1, g.2.1]; rfl, by rw [deEA_app]; have := h.2.2.1; have := g.2.2.1; omega, by rw [wgEA_app]; have := h.2.2.2; have := g.2.2.2; omega⟩
theorem VeA.mono {k e k' e' : Nat} {d : List D} (h : VeA k e d) (hk : k ≤ k' := by omega) (he : e ≤ e' := by omega) : VeA k' e' d := ⟨h.1, h.2.1, Nat.le_trans h.2.2.1 he, Nat.le_trans h.2.2.2 hk⟩
theorem VeA.tup {k e : Nat} {xs : List D} (h : VeA k e xs) : Ve k (e + 1) (.tup xs) := ⟨.inl (by unfold okD; exact h.1), h.2.1, by show deEA xs + 1 ≤ _; have := h.2.2.1; omega, h.2.2.2⟩
theorem VeA.lst {k e : Nat} {xs : List D} (h : VeA k e xs) : Ve k (e + 1) (.lst xs) := ⟨.inl (by unfold okD; exact h.1), h.2.1, by show deEA xs + 1 ≤ _; have := h.2.2.1; omega, h.2.2.2⟩
theorem VeA.drop {k e : Nat} : ∀ {xs : List D} (n : Nat), VeA k e xs → VeA k e (xs.drop n)
  | xs, 0, h => h
  | [], n + 1, h => h
  | x :: xs, n + 1, h => by
    rw [List.drop_succ_cons]
    refine VeA.drop n ⟨?_, ?_, ?_, ?_⟩
    · have h := h.1; unfold okA at h; rw [Bool.and_eq_true] at h; exact h.2
    · have h := h.2.1; unfold rkEA at h; rw [Bool.and_eq_true] at h; exact h.2
    · have h : max (deE x) (deEA xs) ≤ e := h.2.2.1; omega
    · have h : wgE x + 1 + wgEA xs ≤ k := h.2.2.2; omega
theorem VeA.take {k e : Nat} {xs : List D} (n : Nat) (h : VeA k e xs) : VeA k e (xs.take n) := by
  have e1 : xs = xs.take n ++ xs.drop n := (List.take_append_drop n xs).symm
  rw [e1] at h
  refine ⟨?_, ?_, ?_, ?_⟩
  · have := h.1; rw [okA_app, Bool.and_eq_true] at this; exact this.1
  · have := h.2.1; rw [rkEA_app, Bool.and_eq_true] at this; exact this.1
  · have := h.2.2.1; rw [deEA_app] at this; omega
  · have := h.2.2.2; rw [wgEA_app] at this; omega
theorem VeA.reverse {k e : Nat} : ∀ {xs : List D}, VeA k e xs → VeA k e xs.reverse := fun {xs} h => by
  have a1 : ∀ xs : List D, okA xs.reverse = okA xs ∧ rkEA xs.reverse = rkEA xs ∧ deEA xs.reverse = deEA xs ∧ wgEA xs.reverse = wgEA xs := by
    intro xs
    induction xs with
    | nil => exact ⟨rfl, rfl, rfl, rfl⟩
    | cons x xs ih =>
      obtain ⟨h1, h2, h3, h4⟩ := ih
      rw [List.reverse_cons, okA_app, rkEA_app, deEA_app, wgEA_app, h1, h2, h3, h4]
      refine ⟨?_, ?_, ?_, ?_⟩
      · show (okA xs && (okD x && true)) = (okD x && okA xs)
        rw [Bool.and_true, Bool.and_comm]
      · show (rkEA xs && (rkE x && true)) = (rkE x && rkEA xs)
        rw [Bool.and_true, Bool.and_comm]
      · show max (deEA xs) (max (deE x) 0) = max (deE x) (deEA xs)
        omega
      · show wgEA xs + (wgE x + 1 + 0) = wgE x + 1 + wgEA xs
        omega
  obtain ⟨h1, h2, h3, h4⟩ := a1 xs
  exact ⟨by rw [h1]; exact h.1, by rw [h2]; exact h.2.1, by rw [h3]; exact h.2.2.1, by rw [h4]; exact h.2.2.2⟩
theorem Ve.int {i : Int} (h : i.natAbs < 10 ^ 60 := by omega) : Ve 200 0 (.int i) := ⟨.inl rfl, decide_eq_true h, Nat.le_refl _, Nat.le_refl _⟩
theorem Ve.bl {b : Bool} : Ve 200 0 (.bl b) := ⟨.inl rfl, rfl, Nat.le_refl _, Nat.zero_le _⟩
theorem Ve.non : Ve 200 0 .non := ⟨.inl rfl, rfl, Nat.le_refl _, Nat.zero_le _⟩
theorem Ve.str {x : List Nat} {k : Nat} (h : okS x = true) (hl : x.length ≤ k) : Ve k 0 (.str x) := ⟨.inl h, h, Nat.le_refl _, hl⟩
theorem VeA.strs {x : List (List Nat)} (h : ∀ y ∈ x, okS y = true) {k : Nat} (hl : x.flatten.length + x.length ≤ k) : VeA k 0 (x.map D.str) := by
  induction x generalizing k with
  | nil => exact VeA.nil
  | cons a x ih =>
    have h2 := VeA.cons (Ve.str (k := a.length) (h a List.mem_cons_self) (Nat.le_refl _)) (fun z => nomatch z) (ih (fun y hy => h y (List.mem_cons_of_mem _ hy)) (Nat.le_refl _))
    rw [List.flatten_cons, List.length_append, List.length_cons] at hl
    exact h2.mono (by omega) (Nat.le_refl _)
theorem VeA.ints {r : List Int} (h : ∀ p ∈ r, p.natAbs < 10 ^ 60) {k : Nat} (hl : r.length * 201 ≤ k) : VeA k 0 (r.map D.int) := by
  induction r generalizing k with
  | nil => exact VeA.nil
  | cons a r ih =>
    have h2 := VeA.cons (Ve.int (h a List.mem_cons_self)) (fun z => nomatch z) (ih (fun p hp => h p (List.mem_cons_of_mem _ hp)) (Nat.le_refl _))
    rw [List.length_cons] at hl
    exact h2.mono (by omega) (Nat.le_refl _)
/-- a list of values as it is shown -/
theorem Ve.all {k e n : Nat} : ∀ {vs : List D}, (∀ v ∈ vs, Ve k e v) → rkEA vs = true ∧ deEA vs ≤ e ∧ wgEA vs ≤ vs.length * (k + 1)
  | [], _ => ⟨rfl, Nat.zero_le _, Nat.zero_le _⟩
  | v :: vs, h => by
    obtain ⟨h1, h2, h3⟩ := Ve.all (n := n) (vs := vs) fun x hx => h x (List.mem_cons_of_mem _ hx)
    have hv := h v List.mem_cons_self
    refine ⟨?_, ?_, ?_⟩
    · show (rkE v && rkEA vs) = true
      rw [hv.2.1, h1]; rfl
    · show max (deE v) (deEA vs) ≤ e
      have := hv.2.2.1; omega
    · show wgE v + 1 + wgEA vs ≤ (vs.length + 1) * (k + 1)
      have := hv.2.2.2
      rw [Nat.add_mul, Nat.one_mul]; omega
theorem Ve.shown {k e : Nat} {vs : List D} (h : ∀ v ∈ vs, Ve k e v) (hk : vs.length * (k + 1) ≤ 200000) (he : e ≤ 39 := by omega) : Pl.rE (.lst vs) := by
  obtain ⟨h1, h2, h3⟩ := Ve.all (n := 0) h
  exact ⟨h1, by show deEA vs + 1 ≤ 40; omega, Nat.le_trans h3 hk⟩
theorem VeA.put {k j e : Nat} {xs : List D} {d : D} (h : VeA k e xs) (hd : Ve j e d) (hn : d ≠ .dk []) (i : Nat) : VeA (k + j + 1) e (xs.take i ++ [d] ++ xs.drop (i + 1)) := by
  have h1 := h.take i
  have h2 := (h.drop i).drop 1
  rw [List.drop_drop] at h2
  have h3 := (h1.app (VeA.cons hd hn VeA.nil (k := 0))).app h2
  refine ⟨h3.1, h3.2.1, h3.2.2.1, ?_⟩
  have e1 : wgEA xs = wgEA (xs.take i) + wgEA (xs.drop i) := by
    have := wgEA_app (xs.take i) (xs.drop i)
    rw [List.take_append_drop] at this; exact this
  have e2 : wgEA (xs.drop (i + 1)) ≤ wgEA (xs.drop i) := by
    rw [← List.drop_drop]
    generalize xs.drop i = ys
    cases ys with
    | nil => exact Nat.le_refl _
    | cons y ys =>
      show wgEA ys ≤ wgE y + 1 + wgEA ys
      omega
  rw [wgEA_app, wgEA_app]
  have := h.2.2.2
  have := hd.2.2.2
  show wgEA (xs.take i) + (wgE d + 1 + 0) + wgEA (xs.drop (i + 1)) ≤ _
  omega
theorem rel2_all {α β : Type} {P : β → Prop} : ∀ {as : List α} {bs : List β}, Rel2 (fun _ b => P b) as bs → ∀ b ∈ bs, P b
  | _, _, .nil => fun b hb => nomatch hb
  | _, _, .cons h t => fun b hb => by
    rcases List.mem_cons.mp hb with e | e
    · rw [e]; exact h
    · exact rel2_all t b e
def g_same : FL := fun ds Q => ∃ a b : D, ds = [a, b] ∧ rX a ∧ rX b ∧ Q (.bl (decide (shE a = shE b)))
theorem ok__law_same {f : Addr} {fd : FuncData} (F : Fun K "_law_same" "_law_same" s__law_same f fd) (T : Tx K mg base)  : FnG P w K mg base 2 f fd ["told", "due"] g_same := by
  refine fnG_of F sc__law_same ?len ?mo fun cdv A outer s H hr hG => ⟨_, _,
      (d_one (d_ret (e_cp (c_eq hr.units) (e_bi (b_reprX T.b hG hr.units) T.z_repr (by decide +kernel) (at_cons (e_v 0).top at_nil)).top (e_bi (b_reprX T.b hG hr.units) T.z_repr (by decide +kernel) (at_cons (e_v 1).top at_nil)).top))), ?rd⟩
  case len => rintro ds Q ⟨a, b, rfl, _⟩; rfl
  case mo => rintro ds Q Q' h ⟨a, b, e, x, y, q⟩; exact ⟨a, b, e, x, y, h _ q⟩
  case rd =>
    rintro ds Q ⟨a, b, rfl, h1, h2, q⟩
    walk_at "wn"
    exact ⟨h1, h2, q⟩
theorem same_yes {a b : D} {Q : D → Prop} (e : a = b) (h : rX a) (q : Q (.bl true)) : g_same [a, b] Q := by
  subst e
  exact ⟨a, a, rfl, h, h, by rw [decide_eq_true rfl]; exact q⟩
def wMany : List Nat := [109, 97, 110, 121]
def wUnfit : List Nat := [117, 110, 102, 105, 116]
/-- how a refusal is told -/
inductive Heard : Xd → D → Prop
  | many (d : D) : Heard ⟨"TooMany", [("limit", d)]⟩ (.lst [.str wMany, d, .bl true])
  | unfit : Heard ⟨"Unfit", []⟩ (.lst [.str wUnfit, .bl true])
theorem ok__law_heard {k : Nat} {f : Addr} (T : Tx K mg base) {C_Unfit fI_Unfit : Addr} {fd_Unfit : FuncData} {C_TooMany fI_TooMany : Addr} {fd_TooMany : FuncData} {C_WordError : Addr} (EX : Ex P w K mg base C_Unfit fI_Unfit fd_Unfit C_TooMany fI_TooMany fd_TooMany C_WordError) : HearB P w K mg base k f "_law_heard" "call" s__law_heard ["call", "slip"] [116, 111, 108, 100] Heard := by
  refine hear_of 1 1 [(("Unfit" : Str), false), (("TooMany" : Str), true)] [(("Unfit" : Str), true), (("TooMany" : Str), false)] rfl rfl (by decide) sc__law_heard rfl rfl (fun _ _ => rfl) rfl (fun _ _ => rfl) EX.z_TooMany.hm EX.z_Unfit.hm (wd_cons ⟨_, EX.z_Unfit.hm, EX.e_Unfit_TooMany⟩ (wd_cons ⟨_, EX.z_TooMany.hm, EX.e_TooMany_TooMany⟩ wd_nil)) (by decide) (wd_cons ⟨_, EX.z_Unfit.hm, EX.e_Unfit_Unfit⟩ (wd_cons ⟨_, EX.z_TooMany.hm, EX.e_TooMany_Unfit⟩ wd_nil)) (by decide) rfl (by decide) rfl (by decide)
    (fun cdv A outer s H hr hG => ⟨_, _, fun sg a oe d pn fs hz hf => (l_disp (a_cons (e_str [109, 97, 110, 121]) (a_cons (e_exf 1 "limit" fs EX.h_TooMany EX.n_TooMany hz hf) (a_cons (e_and (e_exi 1 true fs EX.h_TooMany hz hf EX.k_TooMany_WordError T.z_isinstance EX.m_WordError).top (e_one (e_not (e_exi 1 false fs EX.h_TooMany hz hf EX.k_TooMany_Unfit T.z_isinstance EX.z_Unfit.hm).top))) a_nil)))).de, fun sg a oe d pn fs hz hf => (l_disp (a_cons (e_str [117, 110, 102, 105, 116]) (a_cons (e_exi 1 true fs EX.h_Unfit hz hf EX.k_Unfit_WordError T.z_isinstance EX.m_WordError) a_nil))).de⟩) ?hq
  case hq =>
    rintro f Q x d h q
    cases h with
    | many d =>
      refine tryX_yes rfl (by simp [hent, ent, uns]) fun a dd => ?_
      unfold hent
      walk_at "zb"
      exact q
    | unfit =>
      refine tryX_no rfl (tryX_yes rfl (by simp [hent, ent, uns]) fun a dd => ?_)
      unfold hent
      walk_at "zb"
      exact q
def told : List Nat := [116, 111, 108, 100]
theorem told_ve {k e : Nat} {d : D} (h : Ve k e d) (hn : d ≠ .dk []) : Ve (k + 20) (e + 1) (.lst [.str told, d]) := by
  have h0 : Ve 10 e (.str told) := (Ve.str (k := 10) (x := told) (by decide) (by decide)).mono (Nat.le_refl _) (Nat.zero_le _)
  have h1 : VeA (10 + 1 + (k + 1 + 0)) e [.str told, d] := VeA.cons h0 (fun z => nomatch z) (VeA.cons h hn (VeA.nil (k := 0)))
  exact h1.lst.mono (by omega) (Nat.le_refl _)
theorem many_ve {n : Nat} (h : n ≤ 1000000 := by decide) : Ve 500 2 (.lst [.str wMany, .int (n : Int), .bl true]) := by
  have h0 : Ve 10 0 (.str wMany) := Ve.str (k := 10) (x := wMany) (by decide) (by decide)
  have h1 : VeA (10 + 1 + (200 + 1 + (200 + 1 + 0))) 0 [.str wMany, .int (n : Int), .bl true] := VeA.cons h0 (fun z => nomatch z) (VeA.cons (Ve.int (by omega)) (fun z => nomatch z) (VeA.cons Ve.bl (fun z => nomatch z) (VeA.nil (k := 0))))
  exact h1.lst.mono (by omega) (by omega)
theorem unfit_ve : Ve 500 2 (.lst [.str wUnfit, .bl true]) := by
  have h0 : Ve 10 0 (.str wUnfit) := Ve.str (k := 10) (x := wUnfit) (by decide) (by decide)
  have h1 : VeA (10 + 1 + (200 + 1 + 0)) 0 [.str wUnfit, .bl true] := VeA.cons h0 (fun z => nomatch z) (VeA.cons Ve.bl (fun z => nomatch z) (VeA.nil (k := 0)))
  exact h1.lst.mono (by omega) (by omega)
theorem Wk.okS {k : Nat} {w : List Nat} (h : Wk k w) (hk : k ≤ 4 := by omega) : Pl.okS w = true := List.all_eq_true.mpr fun c hc => by
  have := h c hc
  exact decide_eq_true (by omega)
theorem rel_strs {α : Type} {P : List Nat → Prop} : ∀ {l : List α} {ys : List D}, Rel2 (fun _ d => ∃ x, P x ∧ d = D.str x) l ys → ∃ fl : List (List Nat), fl.length = l.length ∧ (∀ x ∈ fl, P x) ∧ ys = fl.map D.str
  | _, _, .nil => ⟨[], rfl, (fun x h => nomatch h), rfl⟩
  | _, _, .cons h t => by
    obtain ⟨x, hx, rfl⟩ := h
    obtain ⟨fl, h1, h2, rfl⟩ := rel_strs t
    exact ⟨x :: fl, by rw [List.length_cons, List.length_cons, h1], fun y hy => by
      rcases List.mem_cons.mp hy with e | e
      · rw [e]; exact hx
      · exact h2 y e, rfl⟩
theorem flat_le {m : Nat} : ∀ {xs : List (List Nat)}, (∀ x ∈ xs, x.length ≤ m) → xs.flatten.length ≤ xs.length * m
  | [], _ => Nat.zero_le _
  | x :: xs, h => by
    have h1 := flat_le fun y hy => h y (List.mem_cons_of_mem x hy)
    have h2 := h x List.mem_cons_self
    rw [List.flatten_cons, List.length_append, List.length_cons, Nat.add_mul, Nat.one_mul]
    omega
theorem veS {xs : List (List Nat)} {m l : Nat} (ok : ∀ x ∈ xs, okS x = true) (h : ∀ x ∈ xs, x.length ≤ m) (hl : xs.length ≤ l) : Ve (l * (m + 1)) 1 (.tup (xs.map D.str)) :=
  (VeA.strs ok (k := l * (m + 1)) (by
    have h1 := flat_le h
    have h2 : xs.length * (m + 1) ≤ l * (m + 1) := Nat.mul_le_mul_right _ hl
    rw [Nat.mul_add, Nat.mul_one] at h2
    omega)).tup
theorem VeA.of_all {k e : Nat} : ∀ {xs : List D}, (∀ v ∈ xs, Ve k e v ∧ v ≠ .dk []) → VeA (xs.length * (k + 1)) e xs
  | [], _ => VeA.nil
  | x :: xs, h => by
    have h1 := h x List.mem_cons_self
    have h2 := VeA.cons h1.1 h1.2 (VeA.of_all fun v hv => h v (List.mem_cons_of_mem _ hv))
    refine h2.mono ?_ (Nat.le_refl _)
    rw [List.length_cons, Nat.add_mul, Nat.one_mul]; omega
theorem one_let {k : Nat} {Q : D → Prop} (h1 : 1 ≤ k) (h4 : k ≤ 4) (h : ∀ c, 97 ≤ c → c < 97 + k → Q (.str [c])) : g_one [.ml 0, .str ([97, 98, 99, 100].take k)] Q := by
  refine .inr ⟨_, rfl, ?_, ?_, fun c hc => ?_⟩
  · intro z
    have := congrArg List.length z
    rw [List.length_take] at this
    simp at this
    omega
  · rw [List.length_take]; exact Nat.le_trans (Nat.min_le_right _ _) (by decide)
  · obtain ⟨j, ej⟩ := List.mem_iff_getElem?.mp hc
    rw [List.getElem?_take] at ej
    split at ej
    · rename_i hj
      have h4 : j = 0 ∨ j = 1 ∨ j = 2 ∨ j = 3 := by omega
      rcases h4 with rfl | rfl | rfl | rfl <;> (cases ej; exact h _ (by omega) (by omega))
    · cases ej
theorem one_nat {l : List Nat} {xs : List D} {Q : D → Prop} (e : xs = l.map fun n : Nat => D.int n) (h0 : l ≠ []) (h1 : l.length ≤ 1000) (h : ∀ n ∈ l, Q (.int (n : Nat))) : g_one [.ml 0, .lst xs] Q := by
  subst e
  refine .inl ⟨_, rfl, by simpa using h0, by simpa using h1, fun d hd => ?_⟩
  obtain ⟨n, hn, rfl⟩ := List.mem_map.mp hd
  exact h n hn
/-! words in order, turnings, least words: plain -/
theorem ll_cons {a b : Nat} {x y : List Nat} : a :: x < b :: y ↔ a < b ∨ a = b ∧ x < y := List.cons_lt_cons_iff
theorem ll_irr (x : List Nat) : ¬ x < x := List.lt_irrefl x
theorem ll_tri (x y : List Nat) : x < y ∨ x = y ∨ y < x := by
  rcases List.le_total x y with h | h
  · by_cases e : x = y
    · exact .inr (.inl e)
    · exact .inl (by
        by_cases z : x < y
        · exact z
        · exact absurd (List.le_antisymm h (List.not_lt.mp z)) e)
  · by_cases e : x = y
    · exact .inr (.inl e)
    · exact .inr (.inr (by
        by_cases z : y < x
        · exact z
        · exact absurd (List.le_antisymm h (List.not_lt.mp z)) (Ne.symm e)))
theorem ll_tr {x y z : List Nat} (h : x < y) (k : y < z) : x < z := List.lt_trans h k
theorem ll_as {x y : List Nat} (h : x < y) (k : y < x) : False := ll_irr x (ll_tr h k)
theorem ll_le {x y : List Nat} : x ≤ y ↔ x < y ∨ x = y := by
  constructor
  · intro h
    rcases ll_tri x y with z | z | z
    · exact .inl z
    · exact .inr z
    · exact absurd z (List.not_lt.mpr h)
  · rintro (h | h)
    · exact List.not_lt.mp fun z => ll_as h z
    · subst h; exact List.le_refl x
theorem ll_left (a : List Nat) {x y : List Nat} : a ++ x < a ++ y ↔ x < y := by
  induction a with
  | nil => rfl
  | cons c a ih => rw [List.cons_append, List.cons_append, ll_cons, ih]; simp
theorem ll_two {x y : List Nat} (h : x.length = y.length) (s t : List Nat) : x ++ s < y ++ t ↔ x < y ∨ x = y ∧ s < t := by
  induction x generalizing y with
  | nil =>
    cases y with
    | nil => simp
    | cons b y => cases h
  | cons a x ih =>
    cases y with
    | nil => cases h
    | cons b y =>
      rw [List.cons_append, List.cons_append, ll_cons, ll_cons, ih (by simpa using h), List.cons.injEq]
      constructor
      · rintro (h | ⟨h, h2 | ⟨h2, h3⟩⟩)
        · exact .inl (.inl h)
        · exact .inl (.inr ⟨h, h2⟩)
        · exact .inr ⟨⟨h, h2⟩, h3⟩
      · rintro ((h | ⟨h, h2⟩) | ⟨⟨h, h2⟩, h3⟩)
        · exact .inl h
        · exact .inr ⟨h, .inl h2⟩
        · exact .inr ⟨h, .inr ⟨h2, h3⟩⟩
theorem ll_nil (t : List Nat) : ¬ t < [] := List.not_lt_nil t
theorem ll_long {x y : List Nat} (t : List Nat) (h : x < y) : x < y ++ t := by
  induction x generalizing y with
  | nil =>
    cases y with
    | nil => exact absurd h (ll_nil _)
    | cons b y => exact List.nil_lt_cons ..
  | cons a x ih =>
    cases y with
    | nil => exact absurd h (ll_nil _)
    | cons b y =>
      rw [List.cons_append, ll_cons]
      rcases ll_cons.mp h with h | ⟨h, h2⟩
      · exact .inl h
      · exact .inr ⟨h, ih h2⟩
theorem ll_pre {x t : List Nat} (h : t ≠ []) : x < x ++ t := by
  induction x with
  | nil =>
    cases t with
    | nil => exact absurd rfl h
    | cons c t => exact List.nil_lt_cons ..
  | cons a x ih => rw [List.cons_append, ll_cons]; exact .inr ⟨rfl, ih⟩
/-- less: a beginning, or a first unlike letter -/
theorem ll_diff {x y : List Nat} (h : x < y) : (∃ t, t ≠ [] ∧ y = x ++ t) ∨ ∃ p a b s t, a < b ∧ x = p ++ a :: s ∧ y = p ++ b :: t := by
  induction x generalizing y with
  | nil =>
    cases y with
    | nil => exact absurd h (ll_nil _)
    | cons b y => exact .inl ⟨b :: y, (fun z => nomatch z), rfl⟩
  | cons a x ih =>
    cases y with
    | nil => exact absurd h (ll_nil _)
    | cons b y =>
      rcases ll_cons.mp h with h | ⟨h, h2⟩
      · exact .inr ⟨[], a, b, x, y, h, rfl, rfl⟩
      · subst h
        rcases ih h2 with ⟨t, h3, rfl⟩ | ⟨p, c, d, s, t, h3, rfl, rfl⟩
        · exact .inl ⟨t, h3, rfl⟩
        · exact .inr ⟨a :: p, c, d, s, t, h3, rfl, rfl⟩
theorem ll_of {p s t : List Nat} {a b : Nat} (h : a < b) : p ++ a :: s < p ++ b :: t := by
  rw [ll_left, ll_cons]; exact .inl h

/-! powers -/
def pw (u : List Nat) (k : Nat) : List Nat := (List.replicate k u).flatten
theorem pw_0 (u : List Nat) : pw u 0 = [] := rfl
theorem pw_s (u : List Nat) (k : Nat) : pw u (k + 1) = u ++ pw u k := by unfold pw; rw [List.replicate_succ, List.flatten_cons]
theorem pw_add (u : List Nat) (j k : Nat) : pw u (j + k) = pw u j ++ pw u k := by
  induction j with
  | zero => rw [Nat.zero_add, pw_0, List.nil_append]
  | succ j ih => rw [Nat.add_right_comm, pw_s, pw_s, ih, List.append_assoc]
theorem pw_1 (u : List Nat) : pw u 1 = u := by rw [pw_s, pw_0, List.append_nil]
theorem pw_e (u : List Nat) (k : Nat) : pw u (k + 1) = pw u k ++ u := by rw [pw_add, pw_1]
theorem pw_len (u : List Nat) (k : Nat) : (pw u k).length = k * u.length := by
  induction k with
  | zero => simp [pw_0]
  | succ k ih => rw [pw_s, List.length_append, ih, Nat.add_mul, Nat.one_mul, Nat.add_comm]
theorem pw_pw (u : List Nat) (j k : Nat) : pw (pw u j) k = pw u (j * k) := by
  induction k with
  | zero => rfl
  | succ k ih => rw [pw_s, ih, ← pw_add, Nat.mul_succ, Nat.add_comm]
/-- words that commute are powers of one word -/
theorem commute_pw : ∀ (n : Nat) (x y : List Nat), x.length + y.length ≤ n → x ++ y = y ++ x → ∃ z i j, x = pw z i ∧ y = pw z j := by
  intro n
  induction n with
  | zero =>
    intro x y h _
    have hx : x = [] := List.length_eq_zero_iff.mp (by omega)
    have hy : y = [] := List.length_eq_zero_iff.mp (by omega)
    exact ⟨[], 0, 0, hx, hy⟩
  | succ n ih =>
    intro x y h e
    by_cases hx : x = []
    · exact ⟨y, 0, 1, hx, (pw_1 y).symm⟩
    by_cases hy : y = []
    · exact ⟨x, 1, 0, (pw_1 x).symm, hy⟩
    have lx : 0 < x.length := List.length_pos_iff.mpr hx
    have ly : 0 < y.length := List.length_pos_iff.mpr hy
    by_cases hl : x.length ≤ y.length
    · have e1 : y = x ++ y.drop x.length := by
        have := congrArg (List.take x.length) e
        rw [List.take_left, List.take_append_of_le_length hl] at this
        rw (occs := .pos [1]) [← List.take_append_drop x.length y, ← this]
      generalize y.drop x.length = t at e1
      subst e1
      rw [List.append_assoc, List.append_cancel_left_eq] at e
      obtain ⟨z, i, j, h1, h2⟩ := ih x t (by rw [List.length_append] at h; omega) e
      exact ⟨z, i, i + j, h1, by rw [pw_add, ← h1, ← h2]⟩
    · have e1 : x = y ++ x.drop y.length := by
        have := congrArg (List.take y.length) e
        rw [List.take_left, List.take_append_of_le_length (by omega)] at this
        rw (occs := .pos [1]) [← List.take_append_drop y.length x, this]
      generalize x.drop y.length = t at e1
      subst e1
      rw [List.append_assoc, List.append_cancel_left_eq] at e
      obtain ⟨z, i, j, h1, h2⟩ := ih y t (by rw [List.length_append] at h; omega) e.symm
      exact ⟨z, i + j, i, by rw [pw_add, ← h1, ← h2], h1⟩

/-! turnings -/
def rot (w : List Nat) (p : Nat) : List Nat := w.drop p ++ w.take p
theorem rot_len (w : List Nat) (p : Nat) : (rot w p).length = w.length := by
  unfold rot; rw [List.length_append, List.length_drop, List.length_take]; omega
theorem rot_0 (w : List Nat) : rot w 0 = w := by unfold rot; simp
theorem rot_n (w : List Nat) : rot w w.length = w := by unfold rot; simp
theorem rot_app (x y : List Nat) : rot (x ++ y) x.length = y ++ x := by unfold rot; simp
theorem rot_rot {w : List Nat} {p q : Nat} (hp : p ≤ w.length) (hq : q ≤ w.length) : rot (rot w p) q = rot w (if p + q ≤ w.length then p + q else p + q - w.length) := by
  split
  · rename_i h
    obtain ⟨x, y, z, rfl, rfl, rfl⟩ : ∃ x y z : List Nat, w = x ++ (y ++ z) ∧ p = x.length ∧ q = y.length :=
      ⟨w.take p, (w.drop p).take q, (w.drop p).drop q, by rw [List.take_append_drop, List.take_append_drop], by rw [List.length_take]; omega, by rw [List.length_take, List.length_drop]; omega⟩
    rw [rot_app, List.append_assoc, rot_app]
    have : rot ((x ++ y) ++ z) (x ++ y).length = z ++ (x ++ y) := rot_app _ _
    rw [List.length_append] at this
    rw [← List.append_assoc x, this, List.append_assoc]
  · rename_i h
    obtain ⟨x, y, z, rfl, h1, h2⟩ : ∃ x y z : List Nat, w = x ++ (y ++ z) ∧ p = x.length + y.length ∧ q = z.length + x.length := by
      refine ⟨w.take (p + q - w.length), (w.drop (p + q - w.length)).take (w.length - q), (w.drop (p + q - w.length)).drop (w.length - q), by rw [List.take_append_drop, List.take_append_drop], ?_, ?_⟩
      · rw [List.length_take, List.length_take, List.length_drop]; omega
      · rw [List.length_drop, List.length_drop, List.length_take]; omega
    have e1 : rot ((x ++ y) ++ z) (x ++ y).length = z ++ (x ++ y) := rot_app _ _
    have e2 : rot ((z ++ x) ++ y) (z ++ x).length = y ++ (z ++ x) := rot_app _ _
    have e3 : rot (x ++ (y ++ z)) x.length = (y ++ z) ++ x := rot_app _ _
    rw [List.length_append] at e1 e2
    rw [show p + q - (x ++ (y ++ z)).length = x.length by rw [List.length_append, List.length_append]; omega, e3]
    rw [← List.append_assoc x, h1, e1, ← List.append_assoc z, h2, e2, List.append_assoc]
/-- the turning of a power -/
theorem rot_pw {u : List Nat} {k q r : Nat} (hq : q < k) (hr : r ≤ u.length) : rot (pw u k) (q * u.length + r) = pw (rot u r) k := by
  obtain ⟨j, rfl⟩ : ∃ j, k = q + (1 + j) := ⟨k - (q + 1), by omega⟩
  obtain ⟨a, b, rfl, rfl⟩ : ∃ a b : List Nat, u = a ++ b ∧ r = a.length := ⟨u.take r, u.drop r, (List.take_append_drop r u).symm, by rw [List.length_take]; omega⟩
  rw [rot_app]
  have key : ∀ n, b ++ (pw (a ++ b) n ++ a) = pw (b ++ a) (n + 1) := fun n => by
    induction n with
    | zero => rw [pw_0, List.nil_append, pw_1]
    | succ n ih =>
      rw [pw_s, pw_s (b ++ a), ← ih]
      simp only [List.append_assoc]
  have e1 : pw (a ++ b) (q + (1 + j)) = (pw (a ++ b) q ++ a) ++ (b ++ pw (a ++ b) j) := by
    rw [pw_add, pw_add, pw_1]
    simp only [List.append_assoc]
  have e2 : (pw (a ++ b) q ++ a).length = q * (a ++ b).length + a.length := by rw [List.length_append, pw_len]
  rw [e1, ← e2, rot_app]
  have e3 : (b ++ pw (a ++ b) j) ++ (pw (a ++ b) q ++ a) = b ++ (pw (a ++ b) (j + q) ++ a) := by rw [pw_add]; simp only [List.append_assoc]
  rw [e3, key, show j + q + 1 = q + (1 + j) by omega]
theorem pw_lt {x y : List Nat} (h : x < y) (hl : x.length = y.length) {k : Nat} (hk : 0 < k) : pw x k < pw y k := by
  obtain ⟨k, rfl⟩ : ∃ j, k = j + 1 := ⟨k - 1, by omega⟩
  rw [pw_s, pw_s, ll_two hl]
  exact .inl h

/-! least words -/
/-- less than each of its proper ends -/
def Lyn (w : List Nat) : Prop := w ≠ [] ∧ ∀ p, 0 < p → p < w.length → w < w.drop p
def lynB (w : List Nat) : Bool := !decide (w = []) && (List.range (w.length - 1)).all fun k => decide (w < w.drop (k + 1))
theorem lynB_iff (w : List Nat) : lynB w = true ↔ Lyn w := by
  unfold lynB Lyn
  rw [Bool.and_eq_true, Bool.not_eq_true', decide_eq_false_iff_not, List.all_eq_true]
  constructor
  · rintro ⟨h1, h2⟩
    refine ⟨h1, fun p hp hl => ?_⟩
    have := of_decide_eq_true (h2 (p - 1) (List.mem_range.mpr (by omega)))
    rwa [show p - 1 + 1 = p by omega] at this
  · rintro ⟨h1, h2⟩
    exact ⟨h1, fun k hk => decide_eq_true (h2 (k + 1) (by omega) (by have := List.mem_range.mp hk; omega))⟩
/-- a least word has no border -/
theorem lyn_nob {w s t p : List Nat} (h : Lyn w) (h1 : w = s ++ t) (h2 : w = p ++ s) (hs : s ≠ []) (hp : p ≠ []) : False := by
  have lp : 0 < p.length := List.length_pos_iff.mpr hp
  have ls : 0 < s.length := List.length_pos_iff.mpr hs
  have := h.2 p.length lp (by rw [h2, List.length_append]; omega)
  rw [h2, List.drop_left, ← h2] at this
  rw [h1] at this
  by_cases ht : t = []
  · subst ht
    have e := congrArg List.length (h1.symm.trans h2)
    rw [List.length_append, List.length_append, List.length_nil] at e
    omega
  · exact ll_as this (ll_pre ht)
/-- less than each of its turnings but itself -/
theorem lyn_rot {w : List Nat} (h : Lyn w) {p : Nat} (hp : 0 < p) (hl : p < w.length) : w < rot w p := ll_long _ (h.2 p hp hl)
theorem lyn_least {w : List Nat} (h : Lyn w) {p : Nat} (hl : p ≤ w.length) : w ≤ rot w p := by
  by_cases h0 : p = 0
  · subst h0; rw [rot_0]; exact List.le_refl _
  by_cases h1 : p = w.length
  · subst h1; rw [rot_n]; exact List.le_refl _
  exact ll_le.mpr (.inl (lyn_rot h (by omega) (by omega)))
/-- the least turning of a word that is no power is a least word -/
theorem lyn_of {w : List Nat} (h0 : w ≠ []) (h : ∀ p, 0 < p → p < w.length → w < rot w p) : Lyn w := by
  refine ⟨h0, fun p hp hl => ?_⟩
  have e : w = w.take p ++ w.drop p := (List.take_append_drop p w).symm
  have lp : (w.take p).length = p := by rw [List.length_take]; omega
  have ls : (w.drop p).length = w.length - p := List.length_drop ..
  rcases ll_tri w (w.drop p) with z | z | z
  · exact z
  · have := congrArg List.length z
    omega
  · exfalso
    rcases ll_diff z with ⟨t, ht, e2⟩ | ⟨q, a, b, s, t, hab, e2, e3⟩
    · -- a border
      have lt : t.length = p := by
        have := congrArg List.length e2
        rw [List.length_append] at this; omega
      have g1 := h p hp hl
      have g2 := h (w.length - p) (by omega) (by omega)
      have r1 : rot w p = w.drop p ++ w.take p := rfl
      have r2 : rot w (w.length - p) = t ++ w.drop p := by
        conv => lhs; rw [e2]
        have : w.length - p = (w.drop p).length := ls.symm
        rw [← e2, this]
        conv => lhs; arg 1; rw [e2]
        exact rot_app _ _
      rw [r1] at g1
      rw [r2] at g2
      have a1 : t < w.take p := by
        have : w.drop p ++ t < w.drop p ++ w.take p := by rw [← e2]; exact g1
        exact (ll_left _).mp this
      have a2 : w.take p ++ w.drop p < t ++ w.drop p := by rw [← e]; exact g2
      rcases (ll_two (by omega) _ _).mp a2 with b | ⟨_, b⟩
      · exact ll_as a1 b
      · exact ll_irr _ b
    · have g1 := h p hp hl
      have r1 : rot w p = w.drop p ++ w.take p := rfl
      rw [r1, e2] at g1
      rw (occs := .pos [1]) [e3] at g1
      rw [List.append_assoc] at g1
      exact ll_as g1 (ll_of hab)
/-- no power of a shorter word -/
def Prim (u : List Nat) : Prop := u ≠ [] ∧ ∀ z k, u = pw z k → k = 1
theorem prim_rot {u : List Nat} (h : Prim u) {p : Nat} (hp : 0 < p) (hl : p < u.length) : rot u p ≠ u := by
  intro e
  have e1 : u.take p ++ u.drop p = u.drop p ++ u.take p := by
    rw [List.take_append_drop]; exact e.symm
  obtain ⟨z, i, j, h1, h2⟩ := commute_pw _ (u.take p) (u.drop p) (Nat.le_refl _) e1
  have h3 : u = pw z (i + j) := by rw [pw_add, ← h1, ← h2, List.take_append_drop]
  have h4 := h.2 z (i + j) h3
  have l1 : (u.take p).length = p := by rw [List.length_take]; omega
  have l2 : (u.drop p).length = u.length - p := List.length_drop ..
  rw [h1, pw_len] at l1
  rw [h2, pw_len] at l2
  have hi : i ≠ 0 := fun z => by rw [z] at l1; omega
  have hj : j ≠ 0 := fun z => by rw [z] at l2; omega
  omega
theorem okS_take {x : List Nat} (h : okS x = true) (n : Nat) : okS (x.take n) = true := List.all_eq_true.mpr fun c hc => List.all_eq_true.mp h c (List.mem_of_mem_take hc)
theorem okS_drop {x : List Nat} (h : okS x = true) (n : Nat) : okS (x.drop n) = true := List.all_eq_true.mpr fun c hc => List.all_eq_true.mp h c (List.mem_of_mem_drop hc)
theorem okS_app {x y : List Nat} (h : okS x = true) (k : okS y = true) : okS (x ++ y) = true := by
  unfold okS at *
  rw [List.all_append, h, k]; rfl
theorem okS_rot {x : List Nat} (h : okS x = true) (p : Nat) : okS (rot x p) = true := okS_app (okS_drop h p) (okS_take h p)
def g_turning : FL := fun ds Q => ∃ (w : List Nat) (p : Nat), ds = [.str w, .int p] ∧ w.length ≤ 40 ∧ p ≤ w.length ∧ Q (.str (rot w p))
theorem ok_turning {f : Addr} {fd : FuncData} (F : Fun K "turning" "turning" s_turning f fd)  : FnG P w K mg base 2 f fd ["word", "place"] g_turning := by
  refine fnG_of F sc_turning ?len ?mo fun cdv A outer s H hr hG => ⟨_, _,
      (d_one (d_ret (e_add (e_sl (e_v 0).top (o_some (e_v 1).top) o_none).top (e_sl (e_v 0).top o_none (o_some (e_v 1).top)).top))), ?rd⟩
  case len => rintro ds Q ⟨w, p, rfl, _⟩; rfl
  case mo => rintro ds Q Q' h ⟨w, p, e, a, b, q⟩; exact ⟨w, p, e, a, b, h _ q⟩
  case rd =>
    rintro ds Q ⟨w, p, rfl, h1, h2, q⟩
    walk_at "vn"
    refine ⟨by rw [List.length_drop, List.length_take, sizeLine_eq]; omega, q⟩
/-! ### pairs in order -/
def srtP (xs : List (List Nat × Nat)) : List (List Nat × Nat) := xs.mergeSort fun p q => decide (lePs p q)
theorem sortedP (xs : List (List Nat × Nat)) : (xs.map psD).mergeSort leD = (srtP xs).map psD := (List.map_mergeSort (f := psD) (fun x _ y _ => (le_psD x y).symm)).symm
theorem le_tr {a b c : List Nat × Nat} (h1 : lePs a b) (h2 : lePs b c) : lePs a c := by
  unfold lePs at *
  rcases h1 with h1 | ⟨h1, h3⟩ <;> rcases h2 with h2 | ⟨h2, h4⟩
  · exact .inl (List.lt_trans h1 h2)
  · rw [h2] at h1; exact .inl h1
  · rw [← h1] at h2; exact .inl h2
  · exact .inr ⟨h1.trans h2, by omega⟩
theorem le_tt (a b : List Nat × Nat) : lePs a b ∨ lePs b a := by
  unfold lePs
  by_cases x : a.1 < b.1
  · exact .inl (.inl x)
  · by_cases y : b.1 < a.1
    · exact .inr (.inl y)
    · have := List.le_antisymm (List.not_lt.mp y) (List.not_lt.mp x)
      rcases Nat.le_total a.2 b.2 with z | z
      · exact .inl (.inr ⟨this, z⟩)
      · exact .inr (.inr ⟨this.symm, z⟩)
theorem srtP_perm (xs : List (List Nat × Nat)) : (srtP xs).Perm xs := List.mergeSort_perm xs _
theorem srtP_asc (xs : List (List Nat × Nat)) : (srtP xs).Pairwise lePs :=
  (List.pairwise_mergeSort (le := fun p q : List Nat × Nat => decide (lePs p q)) (fun a b c h1 h2 => decide_eq_true (le_tr (of_decide_eq_true h1) (of_decide_eq_true h2))) (fun a b => by
    rcases le_tt a b with h | h
    · rw [decide_eq_true h]; rfl
    · rw [decide_eq_true h, Bool.or_true]) xs).imp fun h => of_decide_eq_true h
theorem srtP_len (xs : List (List Nat × Nat)) : (srtP xs).length = xs.length := (srtP_perm xs).length_eq
theorem fst_le {p q : List Nat × Nat} (h : lePs p q) : p.1 ≤ q.1 := by
  rcases h with h | ⟨h, _⟩
  · exact List.le_of_lt h
  · rw [h]; exact List.le_refl _
theorem srS_id {xs : List (List Nat)} (h : xs.Pairwise (· ≤ ·)) : srS xs = xs :=
  List.Perm.eq_of_pairwise (le := (· ≤ ·)) (fun x y _ _ h1 h2 => List.le_antisymm h1 h2) (srS_sorted xs) h (srS_perm xs)
theorem srS_of {xs ys : List (List Nat)} (h : xs.Pairwise (· ≤ ·)) (p : xs.Perm ys) : srS ys = xs := by rw [← srS_uniq p, srS_id h]
def rotsL (w : List Nat) : List (List Nat) := (List.range w.length).map (rot w)
def prs (w : List Nat) : List (List Nat × Nat) := (List.range w.length).map fun p => (rot w p, p)
def ordP (w : List Nat) : List (List Nat × Nat) := srtP (prs w)
def SS (w : List Nat) : List (List Nat) := srS (rotsL w)
theorem ord_fst (w : List Nat) : (ordP w).map (·.1) = SS w := by
  refine (srS_of (List.pairwise_map.mpr ((srtP_asc _).imp fst_le)) ?_).symm
  have := (srtP_perm (prs w)).map (·.1)
  unfold prs at this
  rw [List.map_map] at this
  exact this
theorem ord_mem {w : List Nat} {x : List Nat × Nat} (h : x ∈ ordP w) : x.2 < w.length ∧ x.1 = rot w x.2 := by
  obtain ⟨p, hp, rfl⟩ := List.mem_map.mp ((srtP_perm _).mem_iff.mp h)
  exact ⟨List.mem_range.mp hp, rfl⟩
theorem ord_len (w : List Nat) : (ordP w).length = w.length := by
  unfold ordP prs
  rw [srtP_len, List.length_map, List.length_range]
theorem SS_len (w : List Nat) : (SS w).length = w.length := by rw [← ord_fst, List.length_map, ord_len]
/-- the last letter -/
def lastL (x : List Nat) : Nat := x.getLast?.getD 0
/-- the row of last letters -/
def LR (w : List Nat) : List Nat := (SS w).map lastL
theorem LR_len (w : List Nat) : (LR w).length = w.length := by unfold LR; rw [List.length_map, SS_len]
theorem LR_ord (w : List Nat) : (ordP w).map (fun x => lastL x.1) = LR w := by
  unfold LR; rw [← ord_fst, List.map_map]; rfl
theorem last_rot {w : List Nat} {p : Nat} (h : p < w.length) : (rot w p).getLast? = some (lastL (rot w p)) ∧ atI w ((p : Int) - 1) = some (lastL (rot w p)) := by
  have hne : rot w p ≠ [] := fun z => by
    have := rot_len w p
    rw [z] at this
    exact absurd this (by show ¬ 0 = w.length; omega)
  have h1 : (rot w p).getLast? = some (lastL (rot w p)) := by
    unfold lastL
    rw [List.getLast?_eq_some_getLast hne]; rfl
  refine ⟨h1, ?_⟩
  rw [← h1]
  unfold rot
  by_cases z : p = 0
  · subst z
    rw [show ((0 : Nat) : Int) - 1 = -1 by omega, Pl.atI_last]; simp
  · rw [show (p : Int) - 1 = ((p - 1 : Nat) : Int) by omega, Pl.atI_nat, List.getLast?_append, List.getLast?_take, if_neg z]
    rw [List.getElem?_eq_getElem (show p - 1 < w.length by omega)]; rfl
theorem LR_mem {w : List Nat} {c : Nat} (h : c ∈ LR w) : c ∈ w := by
  rw [← LR_ord] at h
  obtain ⟨x, hx, rfl⟩ := List.mem_map.mp h
  obtain ⟨h1, h2⟩ := ord_mem hx
  rw [h2]
  have := List.mem_of_getLast? (last_rot h1).1
  unfold rot at this ⊢
  rcases List.mem_append.mp this with m | m
  · exact List.mem_of_mem_drop m
  · exact List.mem_of_mem_take m
theorem LR_wk {k : Nat} {w : List Nat} (h : Wk k w) : Wk k (LR w) := fun c hc => h c (LR_mem hc)
def natsD (l : List Nat) : List D := l.map fun p : Nat => D.int p
def ordD (w : List Nat) : D := .tup (natsD ((ordP w).map (·.2)))
theorem ordD_eq (w : List Nat) : ordD w = .tup ((ordP w).map fun x => D.int (x.2 : Nat)) := by unfold ordD natsD; rw [List.map_map]; rfl
theorem prs_ok {w : List Nat} (h : okS w = true) : ∀ p ∈ prs w, okS p.1 = true := fun p hp => by
  obtain ⟨k, _, rfl⟩ := List.mem_map.mp hp
  exact okS_rot h k
def g_order : FL := fun ds Q => ∃ w : List Nat, ds = [.str w] ∧ w.length ≤ 40 ∧ okS w = true ∧ Q (ordD w)
theorem ok_turning_order {f : Addr} {fd : FuncData} (F : Fun K "turning_order" "turning_order" s_turning_order f fd) (T : Tx K mg base) {f_turning : Addr} {fd_turning : FuncData} (D_turning : Df K mg "turning" s_turning f_turning fd_turning) (G_turning : FnG P w K mg base 2 f_turning fd_turning ["word", "place"] g_turning) : FnG P w K mg base 3 f fd ["word"] g_order := by
  refine fnG_of F sc_turning_order ?len ?mo fun cdv A outer s H hr hG => ⟨_, _,
      (d_one (d_ret (e_ty (b_tupleS hr.hd) T.z_tuple (by decide +kernel) (at_cons (l_lc sc_turning_order.nd (i_cmp (l_bi (lr_sortedZ rfl hr.hd hr.units) T.z_sorted (by decide +kernel) (at_cons (l_lc sc_turning_order.nd (i_r1c T.z_range (at_cons (e_bi b_len T.z_len (by decide +kernel) (at_cons (e_v 0).top at_nil)).top at_nil)) (blkOk_by (own := [("place", 2)]) (by kernel_rfl)) (fun _ _ _ _ _ => (g_n 2 sc_turning_order.nd)) (fun _ _ _ _ _ => ts_nil) (fun _ _ _ _ _ => (e_tup (a_cons (e_call G_turning (hr.mono (by decide)) hG D_turning.mg D_turning.fn.kp (bd_turning D_turning.fn) (a_cons (e_v 0) (a_cons (e_v 2) a_nil))) (a_cons (e_v 2) a_nil))))).de.top at_nil)).de.top) (blkOk_by (own := [("own", 1), ("place", 2)]) (by kernel_rfl)) (fun _ _ _ _ _ => (g_tup (n := 2) (gs_cons (g_n 1 sc_turning_order.nd) (gs_cons (g_n 2 sc_turning_order.nd) gs_nil)))) (fun _ _ _ _ _ => ts_nil) (fun _ _ _ _ _ => (e_v 2))).de.top at_nil)))), ?rd⟩
  case len => rintro ds Q ⟨w, rfl, _⟩; rfl
  case mo => rintro ds Q Q' h ⟨w, e, a, b, q⟩; exact ⟨w, e, a, b, h _ q⟩
  case rd =>
    rintro ds Q ⟨w, rfl, h1, h2, q⟩
    rw [ordD_eq] at q
    walk_at "zb"
    refine ⟨b62, ?_⟩
    refine lc_map (fun n : Nat => D.int n) (fun p => psD (rot w p, p)) _ (fun p hp Qt Qf g => ?_) ?_
    · have hp := List.mem_range.mp hp
      walk_at "zb"
      refine ⟨w, p, rfl, h1, by omega, ?_⟩
      walk_at "zb"
      exact g
    · have e : ((List.range w.length).map fun p => psD (rot w p, p)) = (prs w).map psD := by unfold prs; rw [List.map_map]; rfl
      rw [e]
      walk_at "zb"
      refine ⟨srt_ps (prs_ok h2), ?_⟩
      rw [sortedP]
      refine lc_map psD (fun x => D.int (x.2 : Nat)) _ (fun x hx Qt Qf g => ?_) ?_
      · unfold psD
        walk_at "zb"
        exact g
      · walk_at "zb"
        exact q
def g_lrow : FL := fun ds Q => ∃ w : List Nat, ds = [.str w] ∧ w.length ≤ 40 ∧ okS w = true ∧ Q (.str (LR w))
theorem mo_lrow : MoL g_lrow := by rintro ds Q Q' h ⟨w, e, a, b, q⟩; exact ⟨w, e, a, b, h _ q⟩
theorem ok_last_row {f : Addr} {fd : FuncData} (F : Fun K "last_row" "last_row" s_last_row f fd) {f_turning_order : Addr} {fd_turning_order : FuncData} (D_turning_order : Df K mg "turning_order" s_turning_order f_turning_order fd_turning_order) (G_turning_order : FnG P w K mg base 3 f_turning_order fd_turning_order ["word"] g_order) : FnG P w K mg base 4 f fd ["word"] g_lrow := by
  refine fnG_of F sc_last_row ?len ?mo fun cdv A outer s H hr hG => ⟨_, _,
      (d_one (d_ret (e_m PySem.F.plainAttrs_str PySem.F.slot_str_join PySem.F.type_str_join m_join (e_str []).top (at_cons (l_lc sc_last_row.nd (i_cmp (e_call G_turning_order (hr.mono (by decide)) hG D_turning_order.mg D_turning_order.fn.kp (bd_turning_order D_turning_order.fn) (a_cons (e_v 0) a_nil)).top) (blkOk_by (own := [("place", 1)]) (by kernel_rfl)) (fun _ _ _ _ _ => (g_n 1 sc_last_row.nd)) (fun _ _ _ _ _ => ts_nil) (fun _ _ _ _ _ => (e_ix (e_v 0).top (e_sub (e_v 1).top e_int.top).top))).de.top at_nil)))), ?rd⟩
  case len => rintro ds Q ⟨w, rfl, _⟩; rfl
  case mo => exact mo_lrow
  case rd =>
    rintro ds Q ⟨w, rfl, h1, h2, q⟩
    walk_at "zb"
    refine ⟨w, rfl, h1, h2, ?_⟩
    rw [ordD_eq]
    walk_at "zb"
    refine lc_map (fun x : List Nat × Nat => D.int (x.2 : Nat)) (fun x => D.str [lastL x.1]) _ (fun x hx Qt Qf g => ?_) ?_
    · obtain ⟨h3, h4⟩ := ord_mem hx
      walk_at "zb"
      rw [(last_rot h3).2, ← h4]
      walk_at "zb"
      exact ⟨_, rfl, g⟩
    · refine ⟨(LR w).map fun c => [c], by rw [← LR_ord, List.map_map, List.map_map]; rfl, by rw [len_ones, LR_len]; simp; omega, ?_⟩
      rw [joinL_ones]
      exact q
theorem ok__law_last_row {f : Addr} {fd : FuncData} (F : Fun K "_law_last_row" "_law_last_row" s__law_last_row f fd) (T : Tx K mg base)  : FnG P w K mg base 2 f fd ["word"] g_lrow := by
  refine fnG_of F sc__law_last_row ?len ?mo fun cdv A outer s H hr hG => ⟨_, _,
      (d_seq (d_set 1 (l_bi (lr_sortedZ rfl hr.hd hr.units) T.z_sorted (by decide +kernel) (at_cons (l_lc sc__law_last_row.nd (i_r1c T.z_range (at_cons (e_bi b_len T.z_len (by decide +kernel) (at_cons (e_v 0).top at_nil)).top at_nil)) (blkOk_by (own := [("p", 2)]) (by kernel_rfl)) (fun _ _ _ _ _ => (g_n 2 sc__law_last_row.nd)) (fun _ _ _ _ _ => ts_nil) (fun _ _ _ _ _ => (e_tup (a_cons (e_add (e_sl (e_v 0).top (o_some (e_v 2).top) o_none).top (e_sl (e_v 0).top o_none (o_some (e_v 2).top)).top) (a_cons (e_v 2) a_nil))))).de.top at_nil)).de sc__law_last_row.nd)
      (d_one (d_ret (e_m PySem.F.plainAttrs_str PySem.F.slot_str_join PySem.F.type_str_join m_join (e_str []).top (at_cons (l_lc sc__law_last_row.nd (i_cmp (e_v 1).top) (blkOk_by (own := [("own", 3), ("p", 2)]) (by kernel_rfl)) (fun _ _ _ _ _ => (g_tup (n := 2) (gs_cons (g_n 3 sc__law_last_row.nd) (gs_cons (g_n 2 sc__law_last_row.nd) gs_nil)))) (fun _ _ _ _ _ => ts_nil) (fun _ _ _ _ _ => (e_ix (e_v 3).top (e_neg e_int.top).top))).de.top at_nil))))), ?rd⟩
  case len => rintro ds Q ⟨w, rfl, _⟩; rfl
  case mo => exact mo_lrow
  case rd =>
    rintro ds Q ⟨w, rfl, h1, h2, q⟩
    refine seq_cut (fun ρ => Fr 4 [kd (.str w), kd (.lst ((ordP w).map psD))] ρ) ?_ fun K1 hK1 => ?_; rotate_left
    · walk_at "zb"
      refine ⟨b62, ?_⟩
      refine lc_map (fun n : Nat => D.int n) (fun p => psD (rot w p, p)) _ (fun p hp Qt Qf g => ?_) ?_
      · have hp := List.mem_range.mp hp
        walk_at "zb"
        exact ⟨by rw [List.length_drop, List.length_take, sizeLine_eq]; omega, g⟩
      · have e : ((List.range w.length).map fun p => psD (rot w p, p)) = (prs w).map psD := by unfold prs; rw [List.map_map]; rfl
        rw [e]
        walk_at "zb"
        refine ⟨srt_ps (prs_ok h2), ?_⟩
        rw [sortedP]
        walk_at "zb"
        exact hK1 _ (by walk_at "fr")
    rintro ρ ⟨f, _⟩
    walk_at "fro"
    walk_at "zb"
    refine lc_map psD (fun x => D.str [lastL x.1]) _ (fun x hx Qt Qf g => ?_) ?_
    · obtain ⟨h3, h4⟩ := ord_mem hx
      have h5 := (last_rot h3).1
      rw [← h4] at h5
      unfold psD
      walk_at "zb"
      rw [h5]
      walk_at "zb"
      exact ⟨_, rfl, g⟩
    · refine ⟨(LR w).map fun c => [c], by rw [← LR_ord, List.map_map, List.map_map]; rfl, by rw [len_ones, LR_len]; simp; omega, ?_⟩
      rw [joinL_ones]
      exact q
/-- how many turnings are less -/
def RP (w : List Nat) : Nat := ((List.range w.length).filter fun p => decide (rot w p < w)).length
def g_rpl : FL := fun ds Q => ∃ w : List Nat, ds = [.str w] ∧ w.length ≤ 40 ∧ Q (.int (RP w : Nat))
theorem mo_rpl : MoL g_rpl := by rintro ds Q Q' h ⟨w, e, a, q⟩; exact ⟨w, e, a, h _ q⟩
theorem ok_row_place {f : Addr} {fd : FuncData} (F : Fun K "row_place" "row_place" s_row_place f fd) (T : Tx K mg base) {f_turning : Addr} {fd_turning : FuncData} (D_turning : Df K mg "turning" s_turning f_turning fd_turning) (G_turning : FnG P w K mg base 2 f_turning fd_turning ["word", "place"] g_turning) : FnG P w K mg base 3 f fd ["word"] g_rpl := by
  refine fnG_of F sc_row_place ?len ?mo fun cdv A outer s H hr hG => ⟨_, _,
      (d_one (d_ret (e_bi b_len T.z_len (by decide +kernel) (at_cons (l_lc sc_row_place.nd (i_r1c T.z_range (at_cons (e_bi b_len T.z_len (by decide +kernel) (at_cons (e_v 0).top at_nil)).top at_nil)) (blkOk_by (own := [("place", 1)]) (by kernel_rfl)) (fun _ _ _ _ _ => (g_n 1 sc_row_place.nd)) (fun _ _ _ _ _ => (ts_one (b_cp (c_lt hr.units) (e_call G_turning (hr.mono (by decide)) hG D_turning.mg D_turning.fn.kp (bd_turning D_turning.fn) (a_cons (e_v 0) (a_cons (e_v 1) a_nil))).top (e_v 0).top))) (fun _ _ _ _ _ => (e_v 1))).de.top at_nil)))), ?rd⟩
  case len => rintro ds Q ⟨w, rfl, _⟩; rfl
  case mo => exact mo_rpl
  case rd =>
    rintro ds Q ⟨w, rfl, h1, q⟩
    walk_at "zb"
    refine ⟨b62, ?_⟩
    refine lc_det (fun n : Nat => D.int n) (fun p => decide (rot w p < w)) (fun p => D.int (p : Nat)) _ (fun p hp Qt Qf g1 g2 => ?_) ?_
    · have hp := List.mem_range.mp hp
      walk_at "zb"
      refine ⟨w, p, rfl, h1, by omega, ?_⟩
      walk_at "zb"
      refine ifB_of (fun z => ?_) fun z => ?_
      · walk_at "zb"
        exact g1 z
      · exact g2 z
    · walk_at "zb"
      rw [List.length_map]
      exact q
theorem ok__law_place {f : Addr} {fd : FuncData} (F : Fun K "_law_place" "_law_place" s__law_place f fd) (T : Tx K mg base)  : FnG P w K mg base 2 f fd ["word"] g_rpl := by
  refine fnG_of F sc__law_place ?len ?mo fun cdv A outer s H hr hG => ⟨_, _,
      (d_one (d_ret (e_bi b_len T.z_len (by decide +kernel) (at_cons (l_lc sc__law_place.nd (i_r1c T.z_range (at_cons (e_bi b_len T.z_len (by decide +kernel) (at_cons (e_v 0).top at_nil)).top at_nil)) (blkOk_by (own := [("p", 1)]) (by kernel_rfl)) (fun _ _ _ _ _ => (g_n 1 sc__law_place.nd)) (fun _ _ _ _ _ => (ts_one (b_cp (c_lt hr.units) (e_add (e_sl (e_v 0).top (o_some (e_v 1).top) o_none).top (e_sl (e_v 0).top o_none (o_some (e_v 1).top)).top).top (e_v 0).top))) (fun _ _ _ _ _ => (e_v 1))).de.top at_nil)))), ?rd⟩
  case len => rintro ds Q ⟨w, rfl, _⟩; rfl
  case mo => exact mo_rpl
  case rd =>
    rintro ds Q ⟨w, rfl, h1, q⟩
    walk_at "zb"
    refine ⟨b62, ?_⟩
    refine lc_det (fun n : Nat => D.int n) (fun p => decide (rot w p < w)) (fun p => D.int (p : Nat)) _ (fun p hp Qt Qf g1 g2 => ?_) ?_
    · have hp := List.mem_range.mp hp
      walk_at "zb"
      refine ⟨by rw [List.length_drop, List.length_take, sizeLine_eq]; omega, ?_⟩
      rw [show w.drop p ++ w.take p = rot w p from rfl]
      refine ifB_of (fun z => ?_) fun z => ?_
      · walk_at "zb"
        exact g1 z
      · exact g2 z
    · walk_at "zb"
      rw [List.length_map]
      exact q
/-! ### the steps -/
def lpr (r : List Nat) : List (List Nat × Nat) := r.zipIdx.map fun x => ([x.1], x.2)
def PP (r : List Nat) : List (List Nat × Nat) := srtP (lpr r)
def putS (f : List Nat) (x : (List Nat × Nat) × Nat) : List Nat := f.set x.1.2 x.2
def ST (r : List Nat) : List Nat := (PP r).zipIdx.foldl putS (List.replicate r.length 0)
theorem foldl_len (zs : List ((List Nat × Nat) × Nat)) : ∀ f : List Nat, (zs.foldl putS f).length = f.length := by
  induction zs with
  | nil => intro f; rfl
  | cons z zs ih => intro f; rw [List.foldl_cons, ih]; unfold putS; rw [List.length_set]
theorem ST_len (r : List Nat) : (ST r).length = r.length := by unfold ST; rw [foldl_len, List.length_replicate]
theorem PP_len (r : List Nat) : (PP r).length = r.length := by unfold PP lpr; rw [srtP_len, List.length_map, List.length_zipIdx]
theorem PP_mem {r : List Nat} {x : List Nat × Nat} (h : x ∈ PP r) : ∃ c, r[x.2]? = some c ∧ x.1 = [c] := by
  obtain ⟨y, hy, rfl⟩ := List.mem_map.mp ((srtP_perm _).mem_iff.mp h)
  exact ⟨y.1, List.mem_zipIdx_iff_getElem?.mp hy, rfl⟩
theorem PP_lt {r : List Nat} {x : List Nat × Nat} (h : x ∈ PP r) : x.2 < r.length := by
  obtain ⟨c, hc, _⟩ := PP_mem h
  exact (List.getElem?_eq_some_iff.mp hc).1
theorem lpr_ok {r : List Nat} (h : okS r = true) : ∀ p ∈ lpr r, okS p.1 = true := fun p hp => by
  obtain ⟨y, hy, rfl⟩ := List.mem_map.mp hp
  have hm : y.1 ∈ r := List.mem_of_getElem? (List.mem_zipIdx_iff_getElem?.mp hy)
  have := List.all_eq_true.mp h _ hm
  show ([y.1] : List Nat).all _ = true
  rw [List.all_cons, this]; rfl
def g_steps : FL := fun ds Q => ∃ r : List Nat, ds = [.str r] ∧ r.length ≤ 40 ∧ okS r = true ∧ Q (.tup (natsD (ST r)))
theorem mo_steps : MoL g_steps := by rintro ds Q Q' h ⟨w, e, a, b, q⟩; exact ⟨w, e, a, b, h _ q⟩
theorem nats_rep (n : Nat) : (List.replicate n [D.int 0]).flatten = natsD (List.replicate n 0) := by
  induction n with
  | zero => rfl
  | succ n ih => rw [List.replicate_succ, List.replicate_succ, List.flatten_cons, ih]; rfl
theorem nats_set (l : List Nat) (i v : Nat) : (natsD l).set i (.int (v : Nat)) = natsD (l.set i v) := by
  unfold natsD; rw [List.map_set]
theorem nats_len (l : List Nat) : (natsD l).length = l.length := by unfold natsD; rw [List.length_map]
theorem ok_steps_of {f : Addr} {fd : FuncData} (F : Fun K "steps_of" "steps_of" s_steps_of f fd) (T : Tx K mg base)  : FnG P w K mg base 2 f fd ["row"] g_steps := by
  refine fnG_of F sc_steps_of ?len ?mo fun cdv A outer s H hr hG => ⟨_, _,
      (d_seq (d_setL 1 (l_rep (l_disp (a_cons e_int a_nil)).de.top (e_bi b_len T.z_len (by decide +kernel) (at_cons (e_v 0).top at_nil)).top) sc_steps_of.nd)
      (d_seq (d_for (i_enumeratef T.z_enumerate (a_cons (l_bi (lr_sortedZ rfl hr.hd hr.units) T.z_sorted (by decide +kernel) (at_cons (l_lc sc_steps_of.nd (i_enumeratec T.z_enumerate (at_cons (e_v 0).top at_nil)) (blkOk_by (own := [("place", 4), ("letter", 3)]) (by kernel_rfl)) (fun _ _ _ _ _ => (g_tup (n := 2) (gs_cons (g_n 4 sc_steps_of.nd) (gs_cons (g_n 3 sc_steps_of.nd) gs_nil)))) (fun _ _ _ _ _ => ts_nil) (fun _ _ _ _ _ => (e_tup (a_cons (e_v 3) (a_cons (e_v 4) a_nil))))).de.top at_nil)).de a_nil)) (g_tup (n := 2) (gs_cons (g_n 2 sc_steps_of.nd) (gs_cons (g_tup (n := 2) (gs_cons (g_n 3 sc_steps_of.nd) (gs_cons (g_n 4 sc_steps_of.nd) gs_nil))) gs_nil)))
      (d_one (d_lput 1 (e_v 2) (e_v 4))))
      (d_one (d_ret (e_ty (b_tupleS hr.hd) T.z_tuple (by decide +kernel) (at_cons (e_p 1) at_nil)))))), ?rd⟩
  case len => rintro ds Q ⟨w, rfl, _⟩; rfl
  case mo => exact mo_steps
  case rd =>
    rintro ds Q ⟨r, rfl, h1, h2, q⟩
    refine seq_cut (fun ρ => Fr 5 [kd (.str r), some (.ol (natsD (List.replicate r.length 0)))] ρ) ?_ fun K1 hK1 => ?_; rotate_left
    · walk_at "zb"
      exact ⟨[.int 0], r.length, rfl, rfl, by simp; omega, by omega, hK1 _ (by rw [nats_rep]; walk_at "fr")⟩
    rintro ρ ⟨f, _⟩
    walk_at "fro"
    refine seq_cut (fun ρ => Fr 5 [kd (.str r), some (.ol (natsD (ST r)))] ρ) ?_ fun K1 hK1 => ?_; rotate_left
    · walk_at "zb"
      refine lc_map (fun p : Nat × Nat => D.tup [.int (p.2 : Nat), .str [p.1]]) (fun p => psD ([p.1], p.2)) _ (fun p hp Qt Qf g => ?_) ?_
      · walk_at "zb"
        exact g
      · have e : (r.zipIdx.map fun p : Nat × Nat => psD ([p.1], p.2)) = (lpr r).map psD := by unfold lpr; rw [List.map_map]; rfl
        rw [e]
        walk_at "zb"
        refine ⟨srt_ps (lpr_ok h2), ?_⟩
        rw [sortedP]
        walk_at "zb"
        refine for_all (fun p : (List Nat × Nat) × Nat => D.tup [.int (p.2 : Nat), .tup [.str p.1.1, .int (p.1.2 : Nat)]]) (fun t ρ => ∃ p, (PP r).zipIdx = p ++ t ∧ Fr 5 [kd (.str r), some (.ol (natsD (p.foldl putS (List.replicate r.length 0))))] ρ) _ (fun x t ρ hl' hS nx hn => ?_) (fun ρ hS => ?_) _ ⟨[], rfl, by walk_at "fr"⟩
        · obtain ⟨p, ep, f, _⟩ := hS
          walk_at "fro"
          have hx : x.1 ∈ PP r := List.mem_of_getElem? (List.mem_zipIdx_iff_getElem?.mp (show (x.1, x.2) ∈ (PP r).zipIdx by rw [ep]; simp))
          have hlt := PP_lt hx
          walk_at "tg"
          walk_at "zb"
          refine ⟨_, x.1.2, rfl, by rw [nats_len, foldl_len, List.length_replicate]; exact ixN_nat hlt, ?_⟩
          rw [nats_set]
          refine hn _ ⟨p ++ [x], by rw [ep]; simp, ?_⟩
          rw [List.foldl_append]
          walk_at "fr"
        · obtain ⟨p, ep, f, _⟩ := hS
          walk_at "fro"
          rw [List.append_nil] at ep
          refine hK1 _ ?_
          unfold ST
          rw [ep]
          walk_at "fr"
    rintro ρ ⟨f, _⟩
    walk_at "fro"
    walk_at "zb"
    exact q
theorem ok__law_steps {f : Addr} {fd : FuncData} (F : Fun K "_law_steps" "_law_steps" s__law_steps f fd) (T : Tx K mg base)  : FnG P w K mg base 2 f fd ["row"] g_steps := by
  refine fnG_of F sc__law_steps ?len ?mo fun cdv A outer s H hr hG => ⟨_, _,
      (d_seq (d_par2 1 2 (x_d (l_bi (lr_sortedZ rfl hr.hd hr.units) T.z_sorted (by decide +kernel) (at_cons (l_lc sc__law_steps.nd (i_enumeratec T.z_enumerate (at_cons (e_v 0).top at_nil)) (blkOk_by (own := [("place", 5), ("letter", 4)]) (by kernel_rfl)) (fun _ _ _ _ _ => (g_tup (n := 2) (gs_cons (g_n 5 sc__law_steps.nd) (gs_cons (g_n 4 sc__law_steps.nd) gs_nil)))) (fun _ _ _ _ _ => ts_nil) (fun _ _ _ _ _ => (e_tup (a_cons (e_v 4) (a_cons (e_v 5) a_nil))))).de.top at_nil)).de (x_l (l_rep (l_disp (a_cons e_int a_nil)).de.top (e_bi b_len T.z_len (by decide +kernel) (at_cons (e_v 0).top at_nil)).top) x_nil)) sc__law_steps.nd)
      (d_seq (d_for (i_enumeratef T.z_enumerate (a_cons (e_v 1) a_nil)) (g_tup (n := 2) (gs_cons (g_n 3 sc__law_steps.nd) (gs_cons (g_tup (n := 2) (gs_cons (g_n 4 sc__law_steps.nd) (gs_cons (g_n 5 sc__law_steps.nd) gs_nil))) gs_nil)))
      (d_one (d_lput 2 (e_v 3) (e_v 5))))
      (d_one (d_ret (e_ty (b_tupleS hr.hd) T.z_tuple (by decide +kernel) (at_cons (e_p 2) at_nil)))))), ?rd⟩
  case len => rintro ds Q ⟨w, rfl, _⟩; rfl
  case mo => exact mo_steps
  case rd =>
    rintro ds Q ⟨r, rfl, h1, h2, q⟩
    refine seq_cut (fun ρ => Fr 6 [kd (.str r), kd (.lst ((PP r).map psD)), some (.ol (natsD (List.replicate r.length 0)))] ρ) ?_ fun K1 hK1 => ?_; rotate_left
    · walk_at "zb"
      refine lc_map (fun p : Nat × Nat => D.tup [.int (p.2 : Nat), .str [p.1]]) (fun p => psD ([p.1], p.2)) _ (fun p hp Qt Qf g => ?_) ?_
      · walk_at "zb"
        exact g
      · have e : (r.zipIdx.map fun p : Nat × Nat => psD ([p.1], p.2)) = (lpr r).map psD := by unfold lpr; rw [List.map_map]; rfl
        rw [e]
        walk_at "zb"
        refine ⟨srt_ps (lpr_ok h2), ?_⟩
        rw [sortedP]
        walk_at "zb"
        exact ⟨[.int 0], r.length, rfl, rfl, by simp; omega, by omega, hK1 _ (by rw [nats_rep]; unfold PP; walk_at "fr")⟩
    rintro ρ ⟨f, _⟩
    walk_at "fro"
    refine seq_cut (fun ρ => Fr 6 [kd (.str r), none, some (.ol (natsD (ST r)))] ρ) ?_ fun K1 hK1 => ?_; rotate_left
    · walk_at "zb"
      refine for_all (fun p : (List Nat × Nat) × Nat => D.tup [.int (p.2 : Nat), .tup [.str p.1.1, .int (p.1.2 : Nat)]]) (fun t ρ => ∃ p, (PP r).zipIdx = p ++ t ∧ Fr 6 [kd (.str r), none, some (.ol (natsD (p.foldl putS (List.replicate r.length 0))))] ρ) _ (fun x t ρ hl' hS nx hn => ?_) (fun ρ hS => ?_) _ ⟨[], rfl, by walk_at "fr"⟩
      · obtain ⟨p, ep, f, _⟩ := hS
        walk_at "fro"
        have hx : x.1 ∈ PP r := List.mem_of_getElem? (List.mem_zipIdx_iff_getElem?.mp (show (x.1, x.2) ∈ (PP r).zipIdx by rw [ep]; simp))
        have hlt := PP_lt hx
        walk_at "tg"
        walk_at "zb"
        refine ⟨_, x.1.2, rfl, by rw [nats_len, foldl_len, List.length_replicate]; exact ixN_nat hlt, ?_⟩
        rw [nats_set]
        refine hn _ ⟨p ++ [x], by rw [ep]; simp, ?_⟩
        rw [List.foldl_append]
        walk_at "fr"
      · obtain ⟨p, ep, f, _⟩ := hS
        walk_at "fro"
        rw [List.append_nil] at ep
        refine hK1 _ ?_
        unfold ST
        rw [ep]
        walk_at "fr"
    rintro ρ ⟨f, _⟩
    walk_at "fro"
    walk_at "zb"
    exact q
/-! ### the way back -/
theorem foldl_other {i : Nat} (zs : List ((List Nat × Nat) × Nat)) : ∀ f : List Nat, (∀ z ∈ zs, z.1.2 ≠ i) → (zs.foldl putS f)[i]? = f[i]? := by
  induction zs with
  | nil => intro f _; rfl
  | cons z zs ih =>
    intro f h
    rw [List.foldl_cons, ih _ fun y hy => h y (List.mem_cons_of_mem _ hy)]
    unfold putS
    rw [List.getElem?_set_ne (h z List.mem_cons_self)]
theorem foldl_at (zs : List ((List Nat × Nat) × Nat)) : ∀ f : List Nat, (zs.map fun z => z.1.2).Nodup → (∀ z ∈ zs, z.1.2 < f.length) → ∀ z ∈ zs, (zs.foldl putS f)[z.1.2]? = some z.2 := by
  induction zs with
  | nil => intro f _ _ z hz; cases hz
  | cons y zs ih =>
    intro f hn hl z hz
    rw [List.map_cons, List.nodup_cons] at hn
    rw [List.foldl_cons]
    rcases List.mem_cons.mp hz with e | hz
    · subst e
      rw [foldl_other _ _ fun x hx e => hn.1 (List.mem_map.mpr ⟨x, hx, e⟩)]
      unfold putS
      rw [List.getElem?_set_self (hl z List.mem_cons_self)]
    · exact ih _ hn.2 (fun x hx => by unfold putS; rw [List.length_set]; exact hl x (List.mem_cons_of_mem _ hx)) z hz
theorem lpr_snd (r : List Nat) : (lpr r).map (·.2) = List.range r.length := by
  unfold lpr
  rw [List.map_map]
  refine List.ext_getElem? fun i => ?_
  rw [List.getElem?_map, List.getElem?_zipIdx]
  by_cases h : i < r.length
  · rw [List.getElem?_eq_getElem h, List.getElem?_range h]
    show some (0 + i) = some i
    rw [Nat.zero_add]
  · rw [List.getElem?_eq_none (by omega), List.getElem?_eq_none (by rw [List.length_range]; omega)]; rfl
theorem PP_snd (r : List Nat) : ((PP r).map (·.2)).Perm (List.range r.length) := by
  rw [← lpr_snd]
  exact (srtP_perm _).map _
theorem PP_nd (r : List Nat) : ((PP r).map (·.2)).Nodup := (PP_snd r).nodup_iff.mpr List.nodup_range
theorem ST_at {r : List Nat} {k : Nat} (h : k < (PP r).length) : (ST r)[((PP r)[k]).2]? = some k := by
  have hm : ((PP r)[k], k) ∈ (PP r).zipIdx := List.mem_zipIdx_iff_getElem?.mpr (List.getElem?_eq_getElem h)
  refine foldl_at (PP r).zipIdx (List.replicate r.length 0) ?_ (fun z hz => ?_) _ hm
  · have e : (PP r).zipIdx.map (fun z => z.1.2) = (PP r).map (·.2) := by
      have := congrArg (List.map (·.2)) (List.zipIdx_map_fst 0 (PP r))
      rw [List.map_map] at this
      exact this
    rw [e]; exact PP_nd r
  · have hx : z.1 ∈ PP r := List.mem_of_getElem? (List.mem_zipIdx_iff_getElem?.mp (show (z.1, z.2) ∈ (PP r).zipIdx from hz))
    rw [List.length_replicate]
    exact PP_lt hx
/-- each place has its step -/
theorem ST_get {r : List Nat} {i : Nat} (h : i < r.length) : ∃ k, ∃ hk : k < (PP r).length, (ST r)[i]? = some k ∧ ((PP r)[k]).2 = i := by
  have hm : i ∈ (PP r).map (·.2) := (PP_snd r).mem_iff.mpr (List.mem_range.mpr h)
  obtain ⟨x, hx, e⟩ := List.mem_map.mp hm
  obtain ⟨k, hk, rfl⟩ := List.mem_iff_getElem.mp hx
  exact ⟨k, hk, by have := ST_at hk; rwa [e] at this, e⟩
/-- the last letter put in front -/
def rotR (x : List Nat) : List Nat := rot x (x.length - 1)
theorem rotR_snoc (y : List Nat) (c : Nat) : rotR (y ++ [c]) = c :: y := by
  unfold rotR rot
  rw [List.length_append, List.length_singleton, Nat.add_sub_cancel, List.drop_left, List.take_left]; rfl
theorem lastL_snoc (y : List Nat) (c : Nat) : lastL (y ++ [c]) = c := by unfold lastL; rw [List.getLast?_concat]; rfl
theorem snoc_of {x : List Nat} (h : x ≠ []) : ∃ y c, x = y ++ [c] := ⟨x.dropLast, x.getLast h, (List.dropLast_concat_getLast h).symm⟩
theorem rots_rot {w : List Nat} {p : Nat} (hp : p ≤ w.length) : (rotsL (rot w p)).Perm (rotsL w) := by
  have e : rotsL (rot w p) = (rotsL w).drop p ++ (rotsL w).take p := by
    have hl : (rotsL w).length = w.length := by unfold rotsL; rw [List.length_map, List.length_range]
    refine List.ext_getElem? fun q => ?_
    by_cases hq : q < w.length
    · have e1 : (rotsL (rot w p))[q]? = some (rot (rot w p) q) := by
        unfold rotsL
        rw [List.getElem?_map, List.getElem?_range (by rw [rot_len]; exact hq)]; rfl
      have e2 : ∀ i, i < w.length → (rotsL w)[i]? = some (rot w i) := fun i hi => by
        unfold rotsL
        rw [List.getElem?_map, List.getElem?_range hi]; rfl
      rw [e1, rot_rot hp (by omega)]
      by_cases z : q < w.length - p
      · rw [List.getElem?_append_left (by rw [List.length_drop, hl]; exact z), List.getElem?_drop, e2 _ (by omega), if_pos (by omega)]
      · rw [List.getElem?_append_right (by rw [List.length_drop, hl]; omega), List.length_drop, hl, List.getElem?_take_of_lt (by omega), e2 _ (by omega)]
        by_cases y : p + q = w.length
        · rw [if_pos (by omega), y, rot_n, show q - (w.length - p) = 0 by omega, rot_0]
        · rw [if_neg (by omega), show p + q - w.length = q - (w.length - p) by omega]
    · rw [List.getElem?_eq_none, List.getElem?_eq_none]
      · rw [List.length_append, List.length_drop, List.length_take, hl]; omega
      · unfold rotsL; rw [List.length_map, List.length_range, rot_len]; omega
  rw [e]
  exact (List.perm_append_comm).trans (by rw [List.take_append_drop])
theorem SS_rot {w : List Nat} {p : Nat} (hp : p ≤ w.length) : SS (rot w p) = SS w := srS_uniq (rots_rot hp)
theorem LR_rot {w : List Nat} {p : Nat} (hp : p ≤ w.length) : LR (rot w p) = LR w := by unfold LR; rw [SS_rot hp]
theorem SS_mem {w x : List Nat} : x ∈ SS w ↔ ∃ p, p < w.length ∧ rot w p = x := by
  unfold SS
  rw [(srS_perm _).mem_iff]
  unfold rotsL
  rw [List.mem_map]
  exact ⟨fun ⟨p, a, b⟩ => ⟨p, List.mem_range.mp a, b⟩, fun ⟨p, a, b⟩ => ⟨p, List.mem_range.mpr a, b⟩⟩
theorem rotR_perm {w : List Nat} : ((SS w).map rotR).Perm (SS w) := by
  have h1 : ((SS w).map rotR).Perm ((rotsL w).map rotR) := (srS_perm _).map _
  have h2 : (rotsL w).map rotR = rotsL (rot w (w.length - 1)) := by
    unfold rotsL
    rw [List.map_map, rot_len]
    refine List.map_congr_left fun p hp => ?_
    have hp := List.mem_range.mp hp
    show rot (rot w p) ((rot w p).length - 1) = rot (rot w (w.length - 1)) p
    rw [rot_len, rot_rot (by omega) (by omega), rot_rot (by omega) (by omega), Nat.add_comm]
  rw [h2] at h1
  exact (h1.trans (rots_rot (by omega))).trans (srS_perm _).symm
/-- the step from a turning leads to the one with the last letter in front -/
theorem step_is {w : List Nat} {i k : Nat} (hi : i < w.length) (hk : (ST (LR w))[i]? = some k) : ∃ x, (SS w)[i]? = some x ∧ (SS w)[k]? = some (rotR x) := by
  have hne : ∀ x ∈ SS w, x ≠ [] ∧ x.length = w.length := fun x hx => by
    obtain ⟨p, hp, rfl⟩ := SS_mem.mp hx
    have := rot_len w p
    refine ⟨fun z => ?_, this⟩
    rw [z] at this
    exact absurd this (by show ¬ 0 = w.length; omega)
  have hget : ∀ j, j < w.length → ∃ x, (SS w)[j]? = some x ∧ x ∈ SS w := fun j hj => by
    have : j < (SS w).length := by rw [SS_len]; exact hj
    exact ⟨_, List.getElem?_eq_getElem this, List.getElem_mem _⟩
  let T : Nat → List Nat := fun j => rotR ((SS w)[j]?.getD [])
  have asc : ((PP (LR w)).map fun x => T x.2).Pairwise (· ≤ ·) := by
    refine List.pairwise_map.mpr ?_
    refine List.Pairwise.imp_of_mem (fun {x y} hx hy h => ?_) (srtP_asc (lpr (LR w)))
    have hx : x ∈ PP (LR w) := hx
    have hy : y ∈ PP (LR w) := hy
    have lx := PP_lt hx
    have ly := PP_lt hy
    rw [LR_len] at lx ly
    obtain ⟨c, hc, ec⟩ := PP_mem hx
    obtain ⟨d, hd, ed⟩ := PP_mem hy
    obtain ⟨u, hu, mu⟩ := hget _ lx
    obtain ⟨v, hv, mv⟩ := hget _ ly
    have ecu : c = lastL u := by
      unfold LR at hc
      rw [List.getElem?_map, hu] at hc
      exact (Option.some.inj hc).symm
    have edv : d = lastL v := by
      unfold LR at hd
      rw [List.getElem?_map, hv] at hd
      exact (Option.some.inj hd).symm
    show rotR ((SS w)[x.2]?.getD []) ≤ rotR ((SS w)[y.2]?.getD [])
    rw [hu, hv]
    show rotR u ≤ rotR v
    obtain ⟨u', c', rfl⟩ := snoc_of (hne u mu).1
    obtain ⟨v', d', rfl⟩ := snoc_of (hne v mv).1
    rw [lastL_snoc] at ecu edv
    subst ecu
    subst edv
    rw [rotR_snoc, rotR_snoc]
    unfold lePs at h
    rw [ec, ed] at h
    have hlen : u'.length = v'.length := by
      have h1 := (hne _ mu).2
      have h2 := (hne _ mv).2
      rw [List.length_append, List.length_singleton] at h1 h2
      omega
    refine List.not_lt.mp fun z => ?_
    rcases h with h | ⟨h, h2⟩
    · rcases List.cons_lt_cons_iff.mp h with h | ⟨_, h⟩
      · rcases List.cons_lt_cons_iff.mp z with z | ⟨z, _⟩
        · omega
        · omega
      · exact absurd h (List.lt_irrefl _)
    · have ecd : c = d := (List.cons.inj h).1
      subst ecd
      have z : v' < u' := by
        rcases List.cons_lt_cons_iff.mp z with z | ⟨_, z⟩
        · omega
        · exact z
      -- the same last letter: the turnings without it are in order
      have huv : u' ++ [c] ≤ v' ++ [c] := by
        rcases Nat.lt_or_eq_of_le h2 with h2 | h2
        · have := List.pairwise_iff_getElem.mp (srS_sorted (rotsL w)) x.2 y.2 (by show x.2 < (SS w).length; rw [SS_len]; exact lx) (by show y.2 < (SS w).length; rw [SS_len]; exact ly) h2
          have e1 := (List.getElem?_eq_some_iff.mp hu).2
          have e2 := (List.getElem?_eq_some_iff.mp hv).2
          have this : (SS w)[x.2]'(by rw [SS_len]; exact lx) ≤ (SS w)[y.2]'(by rw [SS_len]; exact ly) := this
          rwa [e1, e2] at this
        · rw [h2] at hu
          rw [hu] at hv
          rw [Option.some.inj hv]; exact List.le_refl _
      exact List.not_lt.mpr huv ((ll_two hlen.symm [c] [c]).mpr (.inl z))
  have all : (PP (LR w)).map (fun x => T x.2) = SS w := by
    have p1 : ((PP (LR w)).map fun x => T x.2).Perm ((List.range w.length).map T) := by
      have := (PP_snd (LR w)).map T
      rw [List.map_map, LR_len] at this
      exact this
    have e1 : (List.range w.length).map T = (SS w).map rotR := by
      refine List.ext_getElem? fun j => ?_
      rw [List.getElem?_map, List.getElem?_map]
      by_cases hj : j < w.length
      · obtain ⟨x, hx, _⟩ := hget j hj
        rw [List.getElem?_range hj, hx]
        show some (rotR ((SS w)[j]?.getD [])) = some (rotR x)
        rw [hx]; rfl
      · rw [List.getElem?_eq_none (by rw [List.length_range]; omega), List.getElem?_eq_none (by rw [SS_len]; omega)]; rfl
    rw [e1] at p1
    have p2 := p1.trans rotR_perm
    rw [← srS_of asc p2]
    exact srS_id (xs := SS w) (srS_sorted (rotsL w))
  obtain ⟨k', hk', e1, e2⟩ := ST_get (r := LR w) (i := i) (by rw [LR_len]; exact hi)
  rw [e1] at hk
  cases hk
  obtain ⟨x, hx, _⟩ := hget i hi
  refine ⟨x, hx, ?_⟩
  rw [← all, List.getElem?_map, List.getElem?_eq_getElem hk']
  show some (rotR ((SS w)[((PP (LR w))[k]).2]?.getD [])) = _
  rw [e2, hx]; rfl
/-- the place of the word among its sorted turnings -/
theorem at_count {w : List Nat} : ∀ {S : List (List Nat)}, S.Pairwise (· ≤ ·) → w ∈ S → S[(S.filter fun x => decide (x < w)).length]? = some w
  | [], _, h => by cases h
  | x :: S, hs, h => by
    obtain ⟨h1, h2⟩ := List.pairwise_cons.mp hs
    by_cases z : x < w
    · have hw : w ∈ S := by
        rcases List.mem_cons.mp h with e | e
        · rw [e] at z; exact absurd z (List.lt_irrefl _)
        · exact e
      rw [List.filter_cons, if_pos (decide_eq_true z), List.length_cons, List.getElem?_cons_succ]
      exact at_count h2 hw
    · have hx : w ≤ x := List.not_lt.mp z
      have e : (x :: S).filter (fun x => decide (x < w)) = [] := by
        rw [List.filter_eq_nil_iff]
        intro y hy hlt
        have hlt := of_decide_eq_true hlt
        rcases List.mem_cons.mp hy with e | e
        · rw [e] at hlt; exact z hlt
        · exact absurd hlt (List.not_lt.mpr (List.le_trans hx (h1 y e)))
      rw [e]
      show some x = some w
      rcases List.mem_cons.mp h with e | e
      · rw [e]
      · rw [List.le_antisymm (h1 w e) hx]
theorem RP_at {w : List Nat} (h : w ≠ []) : (SS w)[RP w]? = some w := by
  have l0 := List.length_pos_iff.mpr h
  have hm : w ∈ SS w := SS_mem.mpr ⟨0, l0, rot_0 w⟩
  have := at_count (srS_sorted (rotsL w)) hm
  have e : ((SS w).filter fun x => decide (x < w)).length = RP w := by
    have p : ((SS w).filter fun x => decide (x < w)).Perm ((rotsL w).filter fun x => decide (x < w)) := (srS_perm _).filter _
    rw [p.length_eq]
    unfold rotsL RP
    rw [List.filter_map, List.length_map]; rfl
  rw [← e]; exact this
theorem RP_lt {w : List Nat} (h : w ≠ []) : RP w < w.length := by
  have := RP_at h
  have := (List.getElem?_eq_some_iff.mp this).1
  rwa [SS_len] at this
/-- the places come to, and the letters read -/
def atN (st : List Nat) (p : Nat) : Nat → Nat
  | 0 => p
  | j + 1 => st.getD (atN st p j) 0
def lets (r : List Nat) (p : Nat) (j : Nat) : List Nat := (List.range j).map fun i => r.getD (atN (ST r) p i) 0
def WW (r : List Nat) (p : Nat) : List Nat := (lets r p r.length).reverse
theorem lets_s (r : List Nat) (p j : Nat) : lets r p (j + 1) = lets r p j ++ [r.getD (atN (ST r) p j) 0] := by
  unfold lets; rw [List.range_succ, List.map_append]; rfl
theorem WW_len (r : List Nat) (p : Nat) : (WW r p).length = r.length := by unfold WW lets; rw [List.length_reverse, List.length_map, List.length_range]
theorem ST_lt {r : List Nat} {k i : Nat} (h : (ST r)[i]? = some k) : k < r.length := by
  have hi : i < r.length := by rw [← ST_len]; exact (List.getElem?_eq_some_iff.mp h).1
  obtain ⟨k', hk', e1, _⟩ := ST_get hi
  rw [e1] at h
  cases h
  rwa [PP_len] at hk'
theorem atN_lt {r : List Nat} {p : Nat} (h : p < r.length) : ∀ j, atN (ST r) p j < r.length
  | 0 => h
  | j + 1 => by
    have ih := atN_lt h j
    obtain ⟨k, _, e, _⟩ := ST_get ih
    show (ST r).getD (atN (ST r) p j) 0 < r.length
    rw [List.getD_eq_getElem?_getD, e]
    exact ST_lt e
theorem getD_mem {r : List Nat} {i : Nat} (h : i < r.length) : r[i]? = some (r.getD i 0) ∧ r.getD i 0 ∈ r := by
  rw [List.getD_eq_getElem?_getD, List.getElem?_eq_getElem h]
  exact ⟨rfl, List.getElem_mem _⟩
theorem WW_wk {k : Nat} {r : List Nat} {p : Nat} (h : Wk k r) (hp : p < max 1 r.length) : Wk k (WW r p) := fun c hc => by
  unfold WW lets at hc
  obtain ⟨i, hi, rfl⟩ := List.mem_map.mp (List.mem_reverse.mp hc)
  have := List.mem_range.mp hi
  exact h _ (getD_mem (atN_lt (by omega) i)).2
/-- all comes back -/
theorem back_all (w : List Nat) : WW (LR w) (RP w) = w := by
  by_cases h : w = []
  · subst h; exact List.length_eq_zero_iff.mp (by rw [WW_len, LR_len]; rfl)
  have l0 := List.length_pos_iff.mpr h
  -- the turnings come to
  have key : ∀ j, j < w.length → (SS w)[atN (ST (LR w)) (RP w) j]? = some (rot w (w.length - j)) := by
    intro j
    induction j with
    | zero => intro _; rw [Nat.sub_zero, rot_n]; exact RP_at h
    | succ j ih =>
      intro hj
      have ih := ih (by omega)
      have hlt : atN (ST (LR w)) (RP w) j < (LR w).length := atN_lt (by rw [LR_len]; exact RP_lt h) j
      obtain ⟨k, _, e, _⟩ := ST_get hlt
      obtain ⟨x, hx, hk⟩ := step_is (by rw [LR_len] at hlt; exact hlt) e
      rw [ih] at hx
      cases hx
      show (SS w)[(ST (LR w)).getD (atN (ST (LR w)) (RP w) j) 0]? = _
      rw [List.getD_eq_getElem?_getD, e]
      show (SS w)[k]? = _
      rw [hk]
      unfold rotR
      rw [rot_len, rot_rot (by omega) (by omega)]
      congr 2
      split <;> omega
  unfold WW
  rw [LR_len]
  have e : lets (LR w) (RP w) w.length = w.reverse := by
    refine List.ext_getElem? fun j => ?_
    unfold lets
    rw [List.getElem?_map]
    by_cases hj : j < w.length
    · rw [List.getElem?_range hj, List.getElem?_reverse hj, List.getElem?_eq_getElem (show w.length - 1 - j < w.length by omega)]
      show some ((LR w).getD (atN (ST (LR w)) (RP w) j) 0) = _
      unfold LR at *
      have hk := key j hj
      rw [List.getD_eq_getElem?_getD, List.getElem?_map, hk]
      show some (lastL (rot w (w.length - j))) = _
      by_cases z : j = 0
      · subst z
        rw [Nat.sub_zero, rot_n]
        unfold lastL
        rw [List.getLast?_eq_getElem?, List.getElem?_eq_getElem (show w.length - 1 < w.length by omega)]; rfl
      · obtain ⟨h1, h2⟩ := last_rot (w := w) (p := w.length - j) (by omega)
        rw [show ((w.length - j : Nat) : Int) - 1 = ((w.length - 1 - j : Nat) : Int) by omega, Pl.atI_nat, List.getElem?_eq_getElem (show w.length - 1 - j < w.length by omega)] at h2
        rw [h2]
    · rw [List.getElem?_eq_none (by rw [List.length_range]; omega), List.getElem?_eq_none (by rw [List.length_reverse]; omega)]; rfl
  rw [e, List.reverse_reverse]
/-- powers -/
theorem pw_le {x y : List Nat} (h : x ≤ y) (hl : x.length = y.length) (k : Nat) : pw x k ≤ pw y k := by
  rcases ll_le.mp h with z | z
  · by_cases k0 : k = 0
    · subst k0; rw [pw_0, pw_0]; exact List.le_refl _
    · exact List.le_of_lt (pw_lt z hl (by omega))
  · rw [z]; exact List.le_refl _
def spr (t : Nat) (S : List (List Nat)) : List (List Nat) := S.flatMap fun x => List.replicate t (pw x t)
theorem spr_asc {t n : Nat} : ∀ {S : List (List Nat)}, S.Pairwise (· ≤ ·) → (∀ x ∈ S, x.length = n) → (spr t S).Pairwise (· ≤ ·)
  | [], _, _ => List.Pairwise.nil
  | x :: S, hs, hl => by
    obtain ⟨h1, h2⟩ := List.pairwise_cons.mp hs
    unfold spr
    rw [List.flatMap_cons]
    refine List.pairwise_append.mpr ⟨List.pairwise_replicate.mpr (.inr (List.le_refl _)), spr_asc h2 fun y hy => hl y (List.mem_cons_of_mem _ hy), fun a ha b hb => ?_⟩
    rw [(List.mem_replicate.mp ha).2]
    obtain ⟨y, hy, hb⟩ := List.mem_flatMap.mp hb
    rw [(List.mem_replicate.mp hb).2]
    exact pw_le (h1 y hy) (by rw [hl x List.mem_cons_self, hl y (List.mem_cons_of_mem _ hy)]) t
theorem fm_congr {α β : Type} {f g : α → List β} : ∀ L : List α, (∀ x ∈ L, f x = g x) → L.flatMap f = L.flatMap g
  | [], _ => rfl
  | x :: L, h => by rw [List.flatMap_cons, List.flatMap_cons, h x List.mem_cons_self, fm_congr L fun y hy => h y (List.mem_cons_of_mem _ hy)]
theorem fm_one (F : List Nat → List Nat) : ∀ L : List (List Nat), (L.flatMap fun x => [F x]) = L.map F
  | [] => rfl
  | x :: L => by rw [List.flatMap_cons, fm_one F L]; rfl
theorem fm_perm {f g : List Nat → List (List Nat)} : ∀ L : List (List Nat), (L.flatMap fun x => f x ++ g x).Perm (L.flatMap f ++ L.flatMap g)
  | [] => List.Perm.refl _
  | x :: L => by
    rw [List.flatMap_cons, List.flatMap_cons, List.flatMap_cons]
    have ih := fm_perm (f := f) (g := g) L
    have h1 : ((f x ++ g x) ++ L.flatMap fun x => f x ++ g x).Perm ((f x ++ g x) ++ (L.flatMap f ++ L.flatMap g)) := ih.append_left _
    refine h1.trans ?_
    rw [List.append_assoc, List.append_assoc]
    refine List.Perm.append_left _ ?_
    rw [← List.append_assoc, ← List.append_assoc]
    exact List.Perm.append_right _ List.perm_append_comm
theorem rep_perm (F : List Nat → List Nat) (L : List (List Nat)) : ∀ t, (L.flatMap fun x => List.replicate t (F x)).Perm (List.replicate t (L.map F)).flatten
  | 0 => by
    have : (L.flatMap fun x => List.replicate 0 (F x)) = [] := by
      induction L with
      | nil => rfl
      | cons x L ih => rw [List.flatMap_cons, ih]; rfl
    rw [this]; exact List.Perm.refl _
  | t + 1 => by
    have e : (L.flatMap fun x => List.replicate (t + 1) (F x)) = L.flatMap fun x => [F x] ++ List.replicate t (F x) := by simp only [List.replicate_succ, List.singleton_append]
    rw [e, List.replicate_succ, List.flatten_cons]
    refine (fm_perm (f := fun x => [F x]) (g := fun x => List.replicate t (F x)) L).trans ?_
    have e2 := fm_one F L
    rw [e2]
    exact (rep_perm F L t).append_left _
theorem rots_pw (w : List Nat) (t : Nat) : ∀ k, k ≤ t → (List.range (k * w.length)).map (rot (pw w t)) = (List.replicate k ((rotsL w).map fun x => pw x t)).flatten
  | 0, _ => by rw [Nat.zero_mul]; rfl
  | k + 1, hk => by
    rw [List.replicate_succ', List.flatten_append, ← rots_pw w t k (by omega), Nat.add_mul, Nat.one_mul, List.range_add, List.map_append, List.flatten_singleton]
    congr 1
    unfold rotsL
    rw [List.map_map, List.map_map]
    refine List.map_congr_left fun r hr => ?_
    have hr := List.mem_range.mp hr
    exact rot_pw (by omega) (by omega)
theorem SS_pw (w : List Nat) (t : Nat) : SS (pw w t) = spr t (SS w) := by
  refine srS_of (spr_asc (n := w.length) (srS_sorted _) fun x hx => ?_) ?_
  · obtain ⟨p, _, rfl⟩ := SS_mem.mp hx
    exact rot_len w p
  · unfold rotsL
    rw [pw_len]
    have h1 := rots_pw w t t (Nat.le_refl _)
    rw [h1]
    have h2 : (spr t (SS w)).Perm (List.replicate t ((SS w).map fun x => pw x t)).flatten := rep_perm (fun x => pw x t) (SS w) t
    refine h2.trans ?_
    have h3 : ((SS w).map fun x => pw x t).Perm ((rotsL w).map fun x => pw x t) := (srS_perm _).map _
    clear h1 h2
    generalize (SS w).map (fun x => pw x t) = A at h3
    generalize (rotsL w).map (fun x => pw x t) = B at h3
    induction t with
    | zero => exact List.Perm.refl _
    | succ t ih => rw [List.replicate_succ, List.replicate_succ, List.flatten_cons, List.flatten_cons]; exact h3.append ih
theorem lastL_pw {x : List Nat} (h : x ≠ []) {t : Nat} (ht : 0 < t) : lastL (pw x t) = lastL x := by
  obtain ⟨t, rfl⟩ : ∃ j, t = j + 1 := ⟨t - 1, by omega⟩
  obtain ⟨y, c, rfl⟩ := snoc_of h
  rw [pw_e, ← List.append_assoc, lastL_snoc, lastL_snoc]
theorem LR_pw {w : List Nat} {t : Nat} (ht : 0 < t) : LR (pw w t) = (LR w).flatMap fun c => List.replicate t c := by
  unfold LR
  rw [SS_pw]
  unfold spr
  rw [List.map_flatMap, List.flatMap_map]
  refine fm_congr _ fun x hx => ?_
  rw [List.map_replicate]
  obtain ⟨p, hp, rfl⟩ := SS_mem.mp hx
  rw [lastL_pw (fun z => ?_) ht]
  have := rot_len w p
  rw [z] at this
  exact absurd this (by show ¬ 0 = w.length; omega)
def backB (r : List Nat) (p : Nat) : Bool := decide (p < max 1 r.length) && (decide (LR (WW r p) = r) && decide (RP (WW r p) = p))
theorem backB_no {r : List Nat} {p : Nat} (h : ¬ p < max 1 r.length) : backB r p = false := by unfold backB; rw [decide_eq_false h]; rfl
theorem backB_yes {r : List Nat} {p : Nat} (h : p < max 1 r.length) : backB r p = (decide (LR (WW r p) = r) && decide (RP (WW r p) = p)) := by unfold backB; rw [decide_eq_true h]; rfl
def onesD (l : List Nat) : List D := l.map fun c => D.str [c]
theorem ones_s (l : List Nat) (c : Nat) : onesD l ++ [.str [c]] = onesD (l ++ [c]) := by unfold onesD; rw [List.map_append]; rfl
theorem ones_rev (l : List Nat) : (onesD l).reverse = (l.reverse.map fun c => [c]).map D.str := by unfold onesD; rw [← List.map_reverse, List.map_map]; rfl
theorem st_get {r : List Nat} {i : Nat} (h : i < r.length) : (natsD (ST r))[i]? = some (.int ((ST r).getD i 0 : Nat)) := by
  unfold natsD
  rw [List.getElem?_map, List.getD_eq_getElem?_getD, List.getElem?_eq_getElem (by rw [ST_len]; exact h)]; rfl
def g_tf : FLX := fun ds Q E => ∃ (r : List Nat) (p : Nat), ds = [.str r, .int p] ∧ r.length ≤ 40 ∧ Wk 4 r ∧ p ≤ 1000 ∧ (backB r p = false → E ⟨"Unfit", []⟩) ∧ (backB r p = true → Q (.str (WW r p)))
theorem ok_turned_from {f : Addr} {fd : FuncData} (F : Fun K "turned_from" "turned_from" s_turned_from f fd) (T : Tx K mg base) {C_Unfit fI_Unfit : Addr} {fd_Unfit : FuncData} {C_TooMany fI_TooMany : Addr} {fd_TooMany : FuncData} {C_WordError : Addr} (EX : Ex P w K mg base C_Unfit fI_Unfit fd_Unfit C_TooMany fI_TooMany fd_TooMany C_WordError) {f_last_row : Addr} {fd_last_row : FuncData} (D_last_row : Df K mg "last_row" s_last_row f_last_row fd_last_row) (G_last_row : FnG P w K mg base 4 f_last_row fd_last_row ["word"] g_lrow) {f_row_place : Addr} {fd_row_place : FuncData} (D_row_place : Df K mg "row_place" s_row_place f_row_place fd_row_place) (G_row_place : FnG P w K mg base 3 f_row_place fd_row_place ["word"] g_rpl) {f_steps_of : Addr} {fd_steps_of : FuncData} (D_steps_of : Df K mg "steps_of" s_steps_of f_steps_of fd_steps_of) (G_steps_of : FnG P w K mg base 2 f_steps_of fd_steps_of ["row"] g_steps) : FnX P w K mg base 5 f fd ["row", "place"] g_tf := by
  refine fnX_of F sc_turned_from ?len ?mo fun cdv A outer s H E sg W xe hr hG tk hL => ⟨_, _,
      (d_seq (d_par3 2 3 4 (x_d (e_call G_steps_of (hr.mono (by decide)) hG D_steps_of.mg D_steps_of.fn.kp (bd_steps_of D_steps_of.fn) (a_cons (e_v 0) a_nil)) (x_l (l_disp a_nil) (x_d (e_v 1) x_nil))) sc_turned_from.nd)
      (d_seq (d_if (b_cp (c_gt hr.units) (e_v 1).top (e_bi b_max2 T.z_max (by decide +kernel) (at_cons e_int.top (at_cons (e_sub (e_bi b_len T.z_len (by decide +kernel) (at_cons (e_v 0).top at_nil)).top e_int.top).top at_nil))).top)
      (d_one (d_raise0 EX.z_Unfit hL tk rfl (hr.mono (by decide))))
      d_nil)
      (d_seq (d_for (i_r1f T.z_range (at_cons (e_bi b_len T.z_len (by decide +kernel) (at_cons (e_v 0).top at_nil)).top at_nil)) (g_n 5 sc_turned_from.nd)
      (d_seq (d_app 3 (e_ix (e_v 0).top (e_v 4).top))
      (d_one (d_set 4 (e_ix (e_v 2).top (e_v 4).top) sc_turned_from.nd))) (hp := passes_of rfl))
      (d_seq (d_set 6 (e_m PySem.F.plainAttrs_str PySem.F.slot_str_join PySem.F.type_str_join m_join (e_str []).top (at_cons (e_revB (e_p 3)).top at_nil)) sc_turned_from.nd)
      (d_seq (d_if (b_w (w_or (b_cp (c_ne hr.units) (e_call G_last_row (hr.mono (by decide)) hG D_last_row.mg D_last_row.fn.kp (bd_last_row D_last_row.fn) (a_cons (e_v 6) a_nil)).top (e_v 0).top) (w_or1 (b_cp (c_ne hr.units) (e_call G_row_place (hr.mono (by decide)) hG D_row_place.mg D_row_place.fn.kp (bd_row_place D_row_place.fn) (a_cons (e_v 6) a_nil)).top (e_v 1).top))))
      (d_one (d_raise0 EX.z_Unfit hL tk rfl (hr.mono (by decide))))
      d_nil)
      (d_one (d_ret (e_v 6)))))))), ?rd⟩
  case len => rintro ds Q E ⟨r, p, rfl, _⟩; rfl
  case mo => rintro ds Q Q' E E' h h' ⟨r, p, e, a, b, c, x, y⟩; exact ⟨r, p, e, a, b, c, fun z => h' _ (x z), fun z => h _ (y z)⟩
  case rd =>
    rintro ds Q ⟨r, p, rfl, h1, hw, h3, q1, q2⟩
    have rok := hw.okS
    refine seq_cut (fun ρ => Fr 7 [kd (.str r), kd (.int p), kd (.tup (natsD (ST r))), some (.ol []), kd (.int p)] ρ) ?_ fun K1 hK1 => ?_; rotate_left
    · walk_at "zb"
      refine ⟨r, rfl, h1, rok, ?_⟩
      walk_at "zb"
      exact hK1 _ (by walk_at "fr")
    rintro ρ ⟨f, _⟩
    walk_at "fro"
    refine seq_cut (fun ρ => p < max 1 r.length ∧ Fr 7 [kd (.str r), kd (.int p), kd (.tup (natsD (ST r))), some (.ol []), kd (.int p)] ρ) ?_ fun K1 hK1 => ?_; rotate_left
    · have em : (if (r.length : Int) - 1 > 0 then (r.length : Int) - 1 else 0) = ((r.length - 1 : Nat) : Int) := by split <;> omega
      walk_at "zb"
      rw [em]
      refine ifB_of (fun z => ?_) fun z => ?_
      · walk_at "zb"
        exact q1 (backB_no (by have := of_decide_eq_true z; omega))
      · walk_at "zb"
        exact hK1 _ ⟨by have := of_decide_eq_false z; omega, by walk_at "fr"⟩
    rintro ρ ⟨hp, f, _⟩
    walk_at "fro"
    rw [backB_yes hp] at q1 q2
    refine seq_cut (fun ρ => Fr 7 [kd (.str r), kd (.int p), kd (.tup (natsD (ST r))), some (.ol (onesD (lets r p r.length)))] ρ) ?_ fun K1 hK1 => ?_; rotate_left
    · walk_at "zb"
      refine ⟨b62, ?_⟩
      refine for_allI (fun i : Nat => D.int (i : Int)) (fun i ρ => Fr 7 [kd (.str r), kd (.int p), kd (.tup (natsD (ST r))), some (.ol (onesD (lets r p i))), kd (.int (atN (ST r) p i))] ρ) _ (fun i a ha ρ hS nx hn => ?_) (fun ρ hS => ?_) _ (by walk_at "fr")
      · obtain ⟨f, _⟩ := hS
        walk_at "fro"
        have hi : i < r.length := by
          have := (List.getElem?_eq_some_iff.mp ha).1
          rwa [List.length_range] at this
        have hat : atN (ST r) p i < r.length := atN_lt (by omega) i
        have hll : (onesD (lets r p i)).length = i := by unfold onesD lets; rw [List.length_map, List.length_map, List.length_range]
        walk_at "tg"
        walk_at "zb"
        rw [(getD_mem hat).1]
        walk_at "zb"
        refine ⟨_, rfl, by rw [hll, sizeLine_eq]; omega, ?_⟩
        rw [st_get hat, ones_s, ← lets_s]
        walk_at "zb"
        exact hn _ (by walk_at "fr")
      · obtain ⟨f, _⟩ := hS
        walk_at "fro"
        rw [List.length_range]
        exact hK1 _ (by walk_at "fr")
    rintro ρ ⟨f, _⟩
    walk_at "fro"
    refine seq_cut (fun ρ => Fr 7 [kd (.str r), kd (.int p), none, none, none, none, kd (.str (WW r p))] ρ) ?_ fun K1 hK1 => ?_; rotate_left
    · walk_at "zb"
      rw [ones_rev]
      refine ⟨_, rfl, by rw [len_ones]; have := WW_len r p; unfold WW at this; rw [List.length_reverse] at this; simp; omega, ?_⟩
      rw [joinL_ones]
      exact hK1 _ (by unfold WW; walk_at "fr")
    rintro ρ ⟨f, _⟩
    walk_at "fro"
    have wl := WW_len r p
    have wok := (WW_wk hw hp).okS
    walk_at "zb"
    refine ⟨WW r p, rfl, by omega, wok, ?_⟩
    walk_at "zb"
    by_cases z : LR (WW r p) = r
    · rw [decide_eq_true z] at q1 q2 ⊢
      walk_at "zb"
      refine ⟨WW r p, rfl, by omega, ?_⟩
      walk_at "zb"
      rw [show decide (((RP (WW r p) : Nat) : Int) = (p : Int)) = decide (RP (WW r p) = p) by rw [decide_eq_decide]; omega]
      by_cases y : RP (WW r p) = p
      · rw [decide_eq_true y] at q1 q2 ⊢
        walk_at "zb"
        exact q2 rfl
      · rw [decide_eq_false y] at q1 q2 ⊢
        walk_at "zb"
        exact q1 rfl
    · rw [decide_eq_false z] at q1 q2 ⊢
      walk_at "zb"
      exact q1 rfl
def g_lback : FL := fun ds Q => ∃ (r : List Nat) (p : Nat), ds = [.str r, .int p] ∧ r.length ≤ 40 ∧ Wk 4 r ∧ p ≤ 1000 ∧ Q (if backB r p = true then .str (WW r p) else .non)
theorem ok__law_back {f : Addr} {fd : FuncData} (F : Fun K "_law_back" "_law_back" s__law_back f fd) (T : Tx K mg base) {f__law_last_row : Addr} {fd__law_last_row : FuncData} (D__law_last_row : Df K mg "_law_last_row" s__law_last_row f__law_last_row fd__law_last_row) (G__law_last_row : FnG P w K mg base 2 f__law_last_row fd__law_last_row ["word"] g_lrow) {f__law_steps : Addr} {fd__law_steps : FuncData} (D__law_steps : Df K mg "_law_steps" s__law_steps f__law_steps fd__law_steps) (G__law_steps : FnG P w K mg base 2 f__law_steps fd__law_steps ["row"] g_steps) {f__law_place : Addr} {fd__law_place : FuncData} (D__law_place : Df K mg "_law_place" s__law_place f__law_place fd__law_place) (G__law_place : FnG P w K mg base 2 f__law_place fd__law_place ["word"] g_rpl) : FnG P w K mg base 3 f fd ["row", "place"] g_lback := by
  refine fnG_of F sc__law_back ?len ?mo fun cdv A outer s H hr hG => ⟨_, _,
      (d_seq (d_if (b_cp (c_ge hr.units) (e_v 1).top (e_bi b_max2 T.z_max (by decide +kernel) (at_cons e_int.top (at_cons (e_bi b_len T.z_len (by decide +kernel) (at_cons (e_v 0).top at_nil)).top at_nil))).top)
      (d_one (d_ret e_non))
      d_nil)
      (d_seq (d_par3 2 3 4 (x_d (e_call G__law_steps (hr.mono (by decide)) hG D__law_steps.mg D__law_steps.fn.kp (bd__law_steps D__law_steps.fn) (a_cons (e_v 0) a_nil)) (x_d (e_str []) (x_d (e_v 1) x_nil))) sc__law_back.nd)
      (d_seq (d_for (i_for (e_v 0)) (g_n 5 sc__law_back.nd)
      (d_one (d_par2 3 4 (x_d (e_add (e_ix (e_v 0).top (e_v 4).top).top (e_v 3).top) (x_d (e_ix (e_v 2).top (e_v 4).top) x_nil)) sc__law_back.nd)))
      (d_one (d_ret (e_if (b_w (w_and (b_cp (c_eq hr.units) (e_call G__law_last_row (hr.mono (by decide)) hG D__law_last_row.mg D__law_last_row.fn.kp (bd__law_last_row D__law_last_row.fn) (a_cons (e_v 3) a_nil)).top (e_v 0).top) (w_and1 (b_cp (c_eq hr.units) (e_call G__law_place (hr.mono (by decide)) hG D__law_place.mg D__law_place.fn.kp (bd__law_place D__law_place.fn) (a_cons (e_v 3) a_nil)).top (e_v 1).top)))) (e_v 3) e_non)))))), ?rd⟩
  case len => rintro ds Q ⟨r, p, rfl, _⟩; rfl
  case mo => rintro ds Q Q' h ⟨r, p, e, a, b, c, x⟩; exact ⟨r, p, e, a, b, c, h _ x⟩
  case rd =>
    rintro ds Q ⟨r, p, rfl, h1, hw, h3, q⟩
    have rok := hw.okS
    refine seq_cut (fun ρ => p < max 1 r.length ∧ Fr 6 [kd (.str r), kd (.int p)] ρ) ?_ fun K1 hK1 => ?_; rotate_left
    · have em : (if (r.length : Int) > 1 then (r.length : Int) else 1) = ((max 1 r.length : Nat) : Int) := by split <;> omega
      walk_at "zb"
      rw [em]
      refine ifB_of (fun z => ?_) fun z => ?_
      · rw [backB_no (by have := of_decide_eq_true z; omega)] at q
        walk_at "zb"
        exact q
      · walk_at "zb"
        exact hK1 _ ⟨by have := of_decide_eq_false z; omega, by walk_at "fr"⟩
    rintro ρ ⟨hp, f, _⟩
    walk_at "fro"
    rw [backB_yes hp] at q
    refine seq_cut (fun ρ => Fr 6 [kd (.str r), kd (.int p), kd (.tup (natsD (ST r))), kd (.str []), kd (.int p)] ρ) ?_ fun K1 hK1 => ?_; rotate_left
    · walk_at "zb"
      refine ⟨r, rfl, h1, rok, ?_⟩
      walk_at "zb"
      exact hK1 _ (by walk_at "fr")
    rintro ρ ⟨f, _⟩
    walk_at "fro"
    refine seq_cut (fun ρ => Fr 6 [kd (.str r), kd (.int p), kd (.tup (natsD (ST r))), kd (.str (WW r p))] ρ) ?_ fun K1 hK1 => ?_; rotate_left
    · walk_at "zb"
      refine for_allI (fun c : Nat => D.str [c]) (fun i ρ => Fr 6 [kd (.str r), kd (.int p), kd (.tup (natsD (ST r))), kd (.str (lets r p i).reverse), kd (.int (atN (ST r) p i))] ρ) _ (fun i a ha ρ hS nx hn => ?_) (fun ρ hS => ?_) _ (by walk_at "fr")
      · obtain ⟨f, _⟩ := hS
        walk_at "fro"
        have hi : i < r.length := (List.getElem?_eq_some_iff.mp ha).1
        have hat : atN (ST r) p i < r.length := atN_lt (by omega) i
        have hll : (lets r p i).length = i := by unfold lets; rw [List.length_map, List.length_range]
        walk_at "tg"
        walk_at "zb"
        rw [(getD_mem hat).1]
        walk_at "zb"
        refine ⟨_, rfl, by rw [List.length_reverse, hll, sizeLine_eq]; omega, ?_⟩
        rw [st_get hat]
        walk_at "zb"
        refine hn _ ?_
        rw [lets_s, List.reverse_append]
        walk_at "fr"
      · obtain ⟨f, _⟩ := hS
        walk_at "fro"
        exact hK1 _ (by unfold WW; walk_at "fr")
    rintro ρ ⟨f, _⟩
    walk_at "fro"
    have wl := WW_len r p
    have wok := (WW_wk hw hp).okS
    walk_at "zb"
    refine ⟨WW r p, rfl, by omega, wok, ?_⟩
    walk_at "zb"
    by_cases z : LR (WW r p) = r
    · rw [decide_eq_true z] at q ⊢
      walk_at "zb"
      refine ⟨WW r p, rfl, by omega, ?_⟩
      walk_at "zb"
      rw [show decide (((RP (WW r p) : Nat) : Int) = (p : Int)) = decide (RP (WW r p) = p) by rw [decide_eq_decide]; omega]
      by_cases y : RP (WW r p) = p
      · rw [decide_eq_true y] at q ⊢
        walk_at "zb"
        exact q
      · rw [decide_eq_false y] at q ⊢
        walk_at "zb"
        exact q
    · rw [decide_eq_false z] at q ⊢
      walk_at "zb"
      exact q
def wNo : D := .lst [.str wUnfit, .bl true]
def ansB (r : List Nat) (p : Nat) : D := if backB r p = true then .lst [.str told, .str (WW r p)] else wNo
theorem hear_tf {r : List Nat} {p : Nat} (h1 : r.length ≤ 40) (hw : Wk 4 r) (hp : p ≤ 1000) {Q : D → Prop} (q : Q (ansB r p)) : gHear told Heard (fun xw R => g_tf [.str r, .int p] R xw) Q := by
  refine gHear_of ⟨r, p, rfl, h1, hw, hp, fun z => ⟨_, .unfit, ?_⟩, fun z => ?_⟩
  · unfold ansB wNo at q
    rw [if_neg (by rw [z]; exact fun h => nomatch h)] at q
    exact q
  · unfold ansB at q
    rw [if_pos z] at q
    exact q
theorem Wk.rotW {k : Nat} {w : List Nat} (h : Wk k w) (p : Nat) : Wk k (rot w p) := (h.drop p).app (h.take p)
def g_srow : FL := fun ds Q => ∃ m : Nat, ds = [.ml 0, .int m] ∧ m ≤ 40 ∧ ∀ w, Wk 4 w → w.length ≤ m → Q (.str w)
theorem ok__law_some_row {f : Addr} {fd : FuncData} (F : Fun K "_law_some_row" "_law_some_row" s__law_some_row f fd) {f__law_take : Addr} {fd__law_take : FuncData} (D__law_take : Df K mg "_law_take" s__law_take f__law_take fd__law_take) (G__law_take : FnG P w K mg base 2 f__law_take fd__law_take ["mill", "many"] (gTake 0)) {f__law_word : Addr} {fd__law_word : FuncData} (D__law_word : Df K mg "_law_word" s__law_word f__law_word fd__law_word) (G__law_word : FnG P w K mg base 4 f__law_word fd__law_word ["mill", "most"] g_word) {f__law_last_row : Addr} {fd__law_last_row : FuncData} (D__law_last_row : Df K mg "_law_last_row" s__law_last_row f__law_last_row fd__law_last_row) (G__law_last_row : FnG P w K mg base 2 f__law_last_row fd__law_last_row ["word"] g_lrow) : FnG P w K mg base 5 f fd ["mill", "most"] g_srow := by
  refine fnG_of F sc__law_some_row ?len ?mo fun cdv A outer s H hr hG => ⟨_, _,
      (d_seq (d_set 2 (e_call G__law_word (hr.mono (by decide)) hG D__law_word.mg D__law_word.fn.kp (bd__law_word D__law_word.fn) (a_cons (e_v 0) (a_cons (e_v 1) a_nil))) sc__law_some_row.nd)
      (d_one (d_ret (e_if (b_cp (c_eq hr.units) (e_call G__law_take (hr.mono (by decide)) hG D__law_take.mg D__law_take.fn.kp (bd__law_take D__law_take.fn) (a_cons (e_v 0) (a_cons e_int a_nil))).top e_int.top) (e_call G__law_last_row (hr.mono (by decide)) hG D__law_last_row.mg D__law_last_row.fn.kp (bd__law_last_row D__law_last_row.fn) (a_cons (e_v 2) a_nil)) (e_v 2))))), ?rd⟩
  case len => rintro ds Q ⟨m, rfl, _⟩; rfl
  case mo => rintro ds Q Q' h ⟨m, e, a, q⟩; exact ⟨m, e, a, fun w x y => h _ (q w x y)⟩
  case rd =>
    rintro ds Q ⟨m, rfl, h1, q⟩
    refine seq_cut (fun ρ => ∃ w, Wk 4 w ∧ w.length ≤ m ∧ Fr 3 [kd (.ml 0), kd (.int m), kd (.str w)] ρ) ?_ fun K1 hK1 => ?_; rotate_left
    · walk_at "zb"
      refine ⟨m, rfl, h1, fun w hw hl => ?_⟩
      walk_at "zb"
      exact hK1 _ ⟨w, hw, hl, by walk_at "fr"⟩
    rintro ρ ⟨w, hw, hl, f, _⟩
    walk_at "fro"
    walk_at "zb"
    refine gTake_nat (n := 2) (by decide) fun i hi => ?_
    walk_at "zb"
    refine ifB_of (fun z => ?_) fun z => ?_
    · walk_at "zb"
      refine ⟨w, rfl, by omega, hw.okS, ?_⟩
      exact q _ (LR_wk hw) (by rw [LR_len]; exact hl)
    · walk_at "zb"
      exact q w hw hl
theorem nats_ve {l : List Nat} (h : ∀ k ∈ l, k ≤ 1000) (hl : l.length ≤ 41) : Ve 8300 1 (.tup (natsD l)) := by
  have e : natsD l = (l.map fun p : Nat => (p : Int)).map D.int := by unfold natsD; rw [List.map_map]; rfl
  rw [e]
  refine (VeA.ints (k := 8300) (fun x hx => ?_) (by rw [List.length_map]; omega)).tup
  obtain ⟨i, hi, rfl⟩ := List.mem_map.mp hx
  have := h i hi
  exact Nat.lt_of_le_of_lt (show (i : Int).natAbs ≤ 1000 by omega) (by decide)
theorem ord_ve {w : List Nat} (h : w.length ≤ 40) : Ve 8300 1 (ordD w) := nats_ve (fun k hk => by
  obtain ⟨x, hx, rfl⟩ := List.mem_map.mp hk
  have := (ord_mem hx).1
  omega) (by rw [List.length_map, ord_len]; omega)
theorem ST_ve {r : List Nat} (h : r.length ≤ 40) : Ve 8300 1 (.tup (natsD (ST r))) := nats_ve (fun k hk => by
  obtain ⟨i, hi⟩ := List.mem_iff_getElem?.mp hk
  have := ST_lt hi
  omega) (by rw [ST_len]; omega)
theorem str_ve {x : List Nat} (h : Wk 4 x) (hl : x.length ≤ 1000) : Ve 1000 0 (.str x) := Ve.str h.okS hl
theorem ans_ve {r : List Nat} {p : Nat} (h : Wk 4 r) (hl : r.length ≤ 40) : Ve 1100 2 (ansB r p) := by
  unfold ansB wNo
  split
  · rename_i z
    have hp : p < max 1 r.length := by
      unfold backB at z
      rw [Bool.and_eq_true, decide_eq_true_eq] at z
      exact z.1
    exact (told_ve (str_ve (WW_wk h hp) (by rw [WW_len]; omega)) fun z => nomatch z).mono (by omega) (by omega)
  · exact unfit_ve.mono (by omega) (by omega)
/-- the four due things -/
def dueL (w : List Nat) : List D := [ordD w, .str (LR w), .int (RP w : Nat), .tup (natsD (ST (LR w)))]
theorem RP_le (w : List Nat) : RP w ≤ w.length := by
  unfold RP
  refine Nat.le_trans (List.length_filter_le _ _) ?_
  rw [List.length_range]; exact Nat.le_refl _
theorem due_ve {w : List Nat} (h : Wk 4 w) (hl : w.length ≤ 40) : Ve 19000 2 (.lst (dueL w)) := by
  have h1 := ord_ve hl
  have h2 := (str_ve (LR_wk h) (by rw [LR_len]; omega)).mono (k' := 1000) (e' := 1)
  have h3 : Ve 200 1 (.int (RP w : Nat)) := (Ve.int (Nat.lt_of_le_of_lt (show ((RP w : Nat) : Int).natAbs ≤ 1000 by have := RP_le w; omega) (by decide))).mono (by omega) (by omega)
  have h4 : Ve 8300 1 (.tup (natsD (ST (LR w)))) := ST_ve (by rw [LR_len]; exact hl)
  have h5 := (VeA.cons h1 (fun z => nomatch z) (VeA.cons h2 (fun z => nomatch z) (VeA.cons h3 (fun z => nomatch z) (VeA.cons h4 (fun z => nomatch z) (VeA.nil (k := 0)))))).lst
  exact h5.mono (by omega) (by omega)
theorem all_x {w : List Nat} (h : Wk 4 w) (hl : w.length ≤ 40) : rX (.lst [.lst (dueL w), .lst (dueL w), .str w]) := by
  have h1 := due_ve h hl
  have h2 := VeA.cons h1 (fun z => nomatch z) (VeA.cons h1 (fun z => nomatch z) (VeA.cons ((str_ve h (by omega)).mono (k' := 1000) (e' := 2)) (fun z => nomatch z) (VeA.nil (k := 0))))
  exact (h2.lst.mono (k' := 60000) (e' := 5)).re.x
theorem fin_x {r : List Nat} {p : Nat} (h : Wk 4 r) (hl : r.length ≤ 40) : rX (.lst [.lst [ansB r p, ansB r p], .tup (natsD (ST r))]) := by
  have hn : ansB r p ≠ .dk [] := by
    unfold ansB wNo
    split <;> exact fun z => nomatch z
  have h1 := ans_ve (p := p) h hl
  have h2 := (VeA.cons h1 hn (VeA.cons h1 hn (VeA.nil (k := 0)))).lst
  have h3 := VeA.cons (h2.mono (k' := 3000) (e' := 4)) (fun z => nomatch z) (VeA.cons ((ST_ve hl).mono (k' := 8300) (e' := 4)) (fun z => nomatch z) (VeA.nil (k := 0)))
  exact (h3.lst.mono (k' := 60000) (e' := 6)).re.x
theorem back_is (w : List Nat) : backB (LR w) (RP w) = true := by
  have h : RP w < max 1 (LR w).length := by
    rw [LR_len]
    by_cases z : w = []
    · subst z; decide
    · have := RP_lt z; omega
  rw [backB_yes h, back_all, decide_eq_true rfl, decide_eq_true rfl]; rfl
theorem ltr_x {x : List Nat} (h : Wk 4 x) (hl : x.length ≤ 1000) : rX (.str x) := (str_ve h hl).re.x
theorem one_nats {l : List Nat} {Q : D → Prop} (h0 : l ≠ []) (h1 : l.length ≤ 1000) (h : ∀ n ∈ l, Q (.int (n : Nat))) : g_one [.ml 0, .lst (l.map fun n : Nat => D.int n)] Q := one_nat rfl h0 h1 h
theorem flat_rep (t : Nat) : ∀ l : List Nat, (l.map fun c => List.replicate t c).flatten = l.flatMap fun c => List.replicate t c := fun l => by rw [List.flatMap_def]
theorem rep_one (t c : Nat) : (List.replicate t [c]).flatten = List.replicate t c := by
  induction t with
  | zero => rfl
  | succ t ih => rw [List.replicate_succ, List.replicate_succ, List.flatten_cons, ih]; rfl
theorem rep_sum (t : Nat) (l : List Nat) : ((l.map fun c => List.replicate t c).map (·.length)).sum = l.length * t := by
  induction l with
  | nil => simp
  | cons c l ih => rw [List.map_cons, List.map_cons, List.sum_cons, ih, List.length_replicate, List.length_cons, Nat.add_mul, Nat.one_mul, Nat.add_comm]
theorem ok_law {f cc Pt : Addr} {fd : FuncData} (F : FunC K "law" "law" s_law f fd cc) (TB : LamX.TabB base mg cc Pt) (T : Tx K mg base) {f_turning_order : Addr} {fd_turning_order : FuncData} (D_turning_order : Df K mg "turning_order" s_turning_order f_turning_order fd_turning_order) (G_turning_order : FnG P w K mg base 3 f_turning_order fd_turning_order ["word"] g_order) {f_last_row : Addr} {fd_last_row : FuncData} (D_last_row : Df K mg "last_row" s_last_row f_last_row fd_last_row) (G_last_row : FnG P w K mg base 4 f_last_row fd_last_row ["word"] g_lrow) {f_row_place : Addr} {fd_row_place : FuncData} (D_row_place : Df K mg "row_place" s_row_place f_row_place fd_row_place) (G_row_place : FnG P w K mg base 3 f_row_place fd_row_place ["word"] g_rpl) {f_steps_of : Addr} {fd_steps_of : FuncData} (D_steps_of : Df K mg "steps_of" s_steps_of f_steps_of fd_steps_of) (G_steps_of : FnG P w K mg base 2 f_steps_of fd_steps_of ["row"] g_steps) {f_turned_from : Addr} {fd_turned_from : FuncData} (D_turned_from : Df K mg "turned_from" s_turned_from f_turned_from fd_turned_from) (G_turned_from : FnX P w K mg base 5 f_turned_from fd_turned_from ["row", "place"] g_tf) {f__law_mill : Addr} {fd__law_mill : FuncData} (D__law_mill : Df K mg "_law_mill" s__law_mill f__law_mill fd__law_mill) (G__law_mill : FnS P w K mg base 2 f__law_mill fd__law_mill ["script", "seal"] (SpM K 0 pre2)) {f__law_take : Addr} {fd__law_take : FuncData} (D__law_take : Df K mg "_law_take" s__law_take f__law_take fd__law_take) (G__law_take : FnG P w K mg base 2 f__law_take fd__law_take ["mill", "many"] (gTake 0)) {f__law_one : Addr} {fd__law_one : FuncData} (D__law_one : Df K mg "_law_one" s__law_one f__law_one fd__law_one) (G__law_one : FnG P w K mg base 3 f__law_one fd__law_one ["mill", "some"] g_one) {f__law_same : Addr} {fd__law_same : FuncData} (D__law_same : Df K mg "_law_same" s__law_same f__law_same fd__law_same) (G__law_same : FnG P w K mg base 2 f__law_same fd__law_same ["told", "due"] g_same) {f__law_word : Addr} {fd__law_word : FuncData} (D__law_word : Df K mg "_law_word" s__law_word f__law_word fd__law_word) (G__law_word : FnG P w K mg base 4 f__law_word fd__law_word ["mill", "most"] g_word) {f__law_heard : Addr} {fd__law_heard : FuncData} (D__law_heard : Df K mg "_law_heard" s__law_heard f__law_heard fd__law_heard) (G__law_heard : HearB P w K mg base 6 f__law_heard "_law_heard" "call" s__law_heard ["call", "slip"] [116, 111, 108, 100] Heard) {f__law_last_row : Addr} {fd__law_last_row : FuncData} (D__law_last_row : Df K mg "_law_last_row" s__law_last_row f__law_last_row fd__law_last_row) (G__law_last_row : FnG P w K mg base 2 f__law_last_row fd__law_last_row ["word"] g_lrow) {f__law_steps : Addr} {fd__law_steps : FuncData} (D__law_steps : Df K mg "_law_steps" s__law_steps f__law_steps fd__law_steps) (G__law_steps : FnG P w K mg base 2 f__law_steps fd__law_steps ["row"] g_steps) {f__law_some_row : Addr} {fd__law_some_row : FuncData} (D__law_some_row : Df K mg "_law_some_row" s__law_some_row f__law_some_row fd__law_some_row) (G__law_some_row : FnG P w K mg base 5 f__law_some_row fd__law_some_row ["mill", "most"] g_srow) {f__law_place : Addr} {fd__law_place : FuncData} (D__law_place : Df K mg "_law_place" s__law_place f__law_place fd__law_place) (G__law_place : FnG P w K mg base 2 f__law_place fd__law_place ["word"] g_rpl) {f__law_back : Addr} {fd__law_back : FuncData} (D__law_back : Df K mg "_law_back" s__law_back f__law_back fd__law_back) (G__law_back : FnG P w K mg base 3 f__law_back fd__law_back ["row", "place"] g_lback) : FnS P w K mg base 8 f fd ["script"] (SpLawT K [(Pt, ("law" : Str) ++ ".<locals>." ++ "<lambda>")]) := by
  refine fnS_rawC F sc_law len_SpLawT fun A outer s H vs Q hr hG ⟨a, ns, e, hS, hl, hT, q⟩ => ?_
  subst e
  suffices X : ∃ t b, DSs ⟨K, stT 0 [(Pt, ("law" : Str) ++ ".<locals>." ++ "<lambda>")]⟩ (cxOf CX0 P w K mg base ["script", "mill", "turn", "word", "order", "row", "place", "due", "told", "named", "p", "times", "other", "spot", "back", "answer", "found", "own"] "law" (defScope s_law) f (.ref cc) A outer s H E0).nox (defBody s_law).tail t b ∧ b { nx := fun _ => False, rt := fun d => d = .bl true } ((ent 18 [.scr ns]).set 1 (.d (.ml 0))) by
    obtain ⟨t, b, hB, hq⟩ := X
    refine ⟨_, pss_cons (ps_set (i := 1) sc_law.nd rfl (by first | exact .inl rfl | exact .inr rfl) (pe_callS' G__law_mill (hr.mono (by decide)) hG rfl D__law_mill.mg D__law_mill.fn.kp (bd__law_mill D__law_mill.fn) (pa_cons (pv 0) (pa_cons pe_int pa_nil)))) hB.ps, ?_⟩
    refine ⟨V.ref a, rfl, ?_⟩
    dsimp only [tNil, tCons, tC]
    exact law_make2 hS hl (by decide) (by decide) fun μ δ H' st nμ nδ ok => law_restT (kind := 0) (i := 1) (N := ["script", "mill", "turn", "word", "order", "row", "place", "due", "told", "named", "p", "times", "other", "spot", "back", "answer", "found", "own"]) hB.rd hS hl hT st nμ nδ ok (by decide) (by decide) hq fun v H' e => by subst e; exact q H'
  refine ⟨_, _,
      (d_seq (d_for (i_r1f T.z_range (at_cons e_int.top at_nil)) (g_n 2 sc_law.nd)
      (d_seq (d_set 3 (e_call G__law_word (hr.mono (by decide)) hG D__law_word.mg D__law_word.fn.kp (bd__law_word D__law_word.fn) (a_cons (e_v 1) (a_cons (e_call G__law_one (hr.mono (by decide)) hG D__law_one.mg D__law_one.fn.kp (bd__law_one D__law_one.fn) (a_cons (e_v 1) (a_cons (l_disp (a_cons e_int (a_cons e_int (a_cons e_int (a_cons e_int a_nil))))).de a_nil))) a_nil))) sc_law.nd)
      (d_seq (d_set 4 (e_ty (b_tupleS hr.hd) T.z_tuple (by decide +kernel) (at_cons (l_lc sc_law.nd (i_cmp (l_bi (lr_sortedZ rfl hr.hd hr.units) T.z_sorted (by decide +kernel) (at_cons (l_lc sc_law.nd (i_r1c T.z_range (at_cons (e_bi b_len T.z_len (by decide +kernel) (at_cons (e_v 3).top at_nil)).top at_nil)) (blkOk_by (own := [("p", 10)]) (by kernel_rfl)) (fun _ _ _ _ _ => (g_n 10 sc_law.nd)) (fun _ _ _ _ _ => ts_nil) (fun _ _ _ _ _ => (e_tup (a_cons (e_add (e_sl (e_v 3).top (o_some (e_v 10).top) o_none).top (e_sl (e_v 3).top o_none (o_some (e_v 10).top)).top) (a_cons (e_v 10) a_nil))))).de.top at_nil)).de.top) (blkOk_by (own := [("own", 17), ("p", 10)]) (by kernel_rfl)) (fun _ _ _ _ _ => (g_tup (n := 2) (gs_cons (g_n 17 sc_law.nd) (gs_cons (g_n 10 sc_law.nd) gs_nil)))) (fun _ _ _ _ _ => ts_nil) (fun _ _ _ _ _ => (e_v 10))).de.top at_nil)) sc_law.nd)
      (d_seq (d_par2 5 6 (x_d (e_call G__law_last_row (hr.mono (by decide)) hG D__law_last_row.mg D__law_last_row.fn.kp (bd__law_last_row D__law_last_row.fn) (a_cons (e_v 3) a_nil)) (x_d (e_call G__law_place (hr.mono (by decide)) hG D__law_place.mg D__law_place.fn.kp (bd__law_place D__law_place.fn) (a_cons (e_v 3) a_nil)) x_nil)) sc_law.nd)
      (d_seq (d_set 7 (l_disp (a_cons (e_v 4) (a_cons (e_v 5) (a_cons (e_v 6) (a_cons (e_call G__law_steps (hr.mono (by decide)) hG D__law_steps.mg D__law_steps.fn.kp (bd__law_steps D__law_steps.fn) (a_cons (e_v 5) a_nil)) a_nil))))).de sc_law.nd)
      (d_seq (d_set 8 (l_disp (a_cons (e_call G_turning_order (hr.mono (by decide)) hG D_turning_order.mg D_turning_order.fn.kp (bd_turning_order D_turning_order.fn) (a_cons (e_v 3) a_nil)) (a_cons (e_call G_last_row (hr.mono (by decide)) hG D_last_row.mg D_last_row.fn.kp (bd_last_row D_last_row.fn) (a_cons (e_v 3) a_nil)) (a_cons (e_call G_row_place (hr.mono (by decide)) hG D_row_place.mg D_row_place.fn.kp (bd_row_place D_row_place.fn) (a_cons (e_v 3) a_nil)) (a_cons (e_call G_steps_of (hr.mono (by decide)) hG D_steps_of.mg D_steps_of.fn.kp (bd_steps_of D_steps_of.fn) (a_cons (e_v 5) a_nil)) a_nil))))).de sc_law.nd)
      (d_seq (d_set 9 (l_disp (a_cons (e_callK0 [0] G_turning_order (hr.mono (by decide)) hG D_turning_order.mg D_turning_order.fn.kp (kb4_turning_order D_turning_order.fn) (k_cons (e_v 3) k_nil)) (a_cons (e_callK0 [0] G_last_row (hr.mono (by decide)) hG D_last_row.mg D_last_row.fn.kp (kb3_last_row D_last_row.fn) (k_cons (e_v 3) k_nil)) (a_cons (e_callK0 [0] G_row_place (hr.mono (by decide)) hG D_row_place.mg D_row_place.fn.kp (kb2_row_place D_row_place.fn) (k_cons (e_v 3) k_nil)) (a_cons (e_callK0 [0] G_steps_of (hr.mono (by decide)) hG D_steps_of.mg D_steps_of.fn.kp (kb1_steps_of D_steps_of.fn) (k_cons (e_v 5) k_nil)) a_nil))))).de sc_law.nd)
      (d_seq (d_if (b_not (b_val (e_call G__law_same (hr.mono (by decide)) hG D__law_same.mg D__law_same.fn.kp (bd__law_same D__law_same.fn) (a_cons (l_disp (a_cons (e_v 8) (a_cons (e_v 9) (a_cons (e_call G_turned_from.toG (hr.mono (by decide)) hG D_turned_from.mg D_turned_from.fn.kp (bd_turned_from D_turned_from.fn) (a_cons (e_v 5) (a_cons (e_v 6) a_nil))) a_nil)))).de (a_cons (l_disp (a_cons (e_v 7) (a_cons (e_v 7) (a_cons (e_v 3) a_nil)))).de a_nil))).top))
      (d_one (d_ret e_bl))
      d_nil)
      (d_seq (d_set 10 (e_call G__law_take (hr.mono (by decide)) hG D__law_take.mg D__law_take.fn.kp (bd__law_take D__law_take.fn) (a_cons (e_v 1) (a_cons (e_add (e_bi b_len T.z_len (by decide +kernel) (at_cons (e_v 3).top at_nil)).top e_int.top) a_nil))) sc_law.nd)
      (d_seq (d_set 11 (e_add e_int.top (e_call G__law_take (hr.mono (by decide)) hG D__law_take.mg D__law_take.fn.kp (bd__law_take D__law_take.fn) (a_cons (e_v 1) (a_cons e_int a_nil))).top) sc_law.nd)
      (d_seq (d_if (b_not (b_val (e_call G__law_same (hr.mono (by decide)) hG D__law_same.mg D__law_same.fn.kp (bd__law_same D__law_same.fn) (a_cons (e_call G_last_row (hr.mono (by decide)) hG D_last_row.mg D_last_row.fn.kp (bd_last_row D_last_row.fn) (a_cons (e_add (e_sl (e_v 3).top (o_some (e_v 10).top) o_none).top (e_sl (e_v 3).top o_none (o_some (e_v 10).top)).top) a_nil)) (a_cons (e_v 5) a_nil))).top))
      (d_one (d_ret e_bl))
      d_nil)
      (d_seq (d_if (b_w (w_and (b_cp (c_le hr.units) (e_mul (e_bi b_len T.z_len (by decide +kernel) (at_cons (e_v 3).top at_nil)).top (e_v 11).top).top e_int.top) (w_and1 (b_not (b_val (e_call G__law_same (hr.mono (by decide)) hG D__law_same.mg D__law_same.fn.kp (bd__law_same D__law_same.fn) (a_cons (e_call G_last_row (hr.mono (by decide)) hG D_last_row.mg D_last_row.fn.kp (bd_last_row D_last_row.fn) (a_cons (e_mul (e_v 3).top (e_v 11).top) a_nil)) (a_cons (e_m PySem.F.plainAttrs_str PySem.F.slot_str_join PySem.F.type_str_join m_join (e_str []).top (at_cons (l_lc sc_law.nd (i_cmp (e_v 5).top) (blkOk_by (own := [("own", 17)]) (by kernel_rfl)) (fun _ _ _ _ _ => (g_n 17 sc_law.nd)) (fun _ _ _ _ _ => ts_nil) (fun _ _ _ _ _ => (e_mul (e_v 17).top (e_v 11).top))).de.top at_nil)) a_nil))).top)))))
      (d_one (d_ret e_bl))
      d_nil)
      (d_seq (d_set 12 (e_call G__law_some_row (hr.mono (by decide)) hG D__law_some_row.mg D__law_some_row.fn.kp (bd__law_some_row D__law_some_row.fn) (a_cons (e_v 1) (a_cons (e_call G__law_one (hr.mono (by decide)) hG D__law_one.mg D__law_one.fn.kp (bd__law_one D__law_one.fn) (a_cons (e_v 1) (a_cons (l_disp (a_cons e_int (a_cons e_int (a_cons e_int a_nil)))).de a_nil))) a_nil))) sc_law.nd)
      (d_one (d_for (i_for (l_disp (a_cons e_int (a_cons (e_bi b_len T.z_len (by decide +kernel) (at_cons (e_v 12).top at_nil)) (a_cons (e_call G__law_take (hr.mono (by decide)) hG D__law_take.mg D__law_take.fn.kp (bd__law_take D__law_take.fn) (a_cons (e_v 1) (a_cons (e_add (e_bi b_len T.z_len (by decide +kernel) (at_cons (e_v 12).top at_nil)).top e_int.top) a_nil))) (a_cons (e_call G__law_take (hr.mono (by decide)) hG D__law_take.mg D__law_take.fn.kp (bd__law_take D__law_take.fn) (a_cons (e_v 1) (a_cons e_int a_nil))) a_nil))))).de) (g_n 13 sc_law.nd)
      (d_seq (d_set 14 (e_call G__law_back (hr.mono (by decide)) hG D__law_back.mg D__law_back.fn.kp (bd__law_back D__law_back.fn) (a_cons (e_v 12) (a_cons (e_v 13) a_nil))) sc_law.nd)
      (d_seq (d_set 15 (e_if (b_cp c_notN (e_v 14).top e_non.top) (l_disp (a_cons (e_str [116, 111, 108, 100]) (a_cons (e_v 14) a_nil))).de (l_disp (a_cons (e_str [117, 110, 102, 105, 116]) (a_cons e_bl a_nil))).de) sc_law.nd)
      (d_seq (d_setL 16 (l_disp (a_cons (e_hear (k := 5) (fun _ _ _ h => h) D__law_heard.fn sc__law_heard (bd__law_heard D__law_heard.fn) G__law_heard D__law_heard.mg TB (List.mem_singleton.mpr rfl) (fun e he _ => by cases List.mem_singleton.mp he; rfl) (hr.mono (by decide)) hG (LamX.lamS_by (by rfl)) (fun A outer s H E fl cl sg xw hr hG tk hL => (e_callL G_turned_from tk hL (hr.mono (by decide)) hG D_turned_from.mg D_turned_from.fn.kp (bd_turned_from D_turned_from.fn) (a_cons (e_v 12) (a_cons (e_v 13) a_nil)))) rfl) a_nil)) sc_law.nd)
      (d_seq (d_app 16 (e_hear (k := 5) (fun _ _ _ h => h) D__law_heard.fn sc__law_heard (bd__law_heard D__law_heard.fn) G__law_heard D__law_heard.mg TB (List.mem_singleton.mpr rfl) (fun e he _ => by cases List.mem_singleton.mp he; rfl) (hr.mono (by decide)) hG (LamX.lamS_by (by rfl)) (fun A outer s H E fl cl sg xw hr hG tk hL => (e_callLK0 [1, 0] G_turned_from tk hL (hr.mono (by decide)) hG D_turned_from.mg D_turned_from.fn.kp (kb0_turned_from D_turned_from.fn) (k_cons (e_v 13) (k_cons (e_v 12) k_nil)))) rfl))
      (d_one (d_frz 16 (d_if (b_not (b_val (e_call G__law_same (hr.mono (by decide)) hG D__law_same.mg D__law_same.fn.kp (bd__law_same D__law_same.fn) (a_cons (l_disp (a_cons (e_v 16) (a_cons (e_call G_steps_of (hr.mono (by decide)) hG D_steps_of.mg D_steps_of.fn.kp (bd_steps_of D_steps_of.fn) (a_cons (e_v 12) a_nil)) a_nil))).de (a_cons (l_disp (a_cons (l_disp (a_cons (e_v 15) (a_cons (e_v 15) a_nil))).de (a_cons (e_call G__law_steps (hr.mono (by decide)) hG D__law_steps.mg D__law_steps.fn.kp (bd__law_steps D__law_steps.fn) (a_cons (e_v 12) a_nil)) a_nil))).de a_nil))).top))
      (d_one (d_ret e_bl))
      d_nil))))))))))))))))))))))
      (d_one (d_ret e_bl))), ?rd⟩
  case rd =>
    walk_at "zb"
    refine ⟨b62, ?_⟩
    rw [show (4 : Int).toNat = 4 by rfl]
    refine for_all (fun i : Nat => D.int (i : Int)) (fun _ ρ => Fr 18 [kd (.scr ns), kd (.ml 0)] ρ) _ (fun t r ρ hl' hS' nx hn => ?_) (fun ρ hS' => ?_) _ (by walk_at "fr"); rotate_left
    · obtain ⟨f, _⟩ := hS'
      walk_at "fro"
      walk_at "zb"
    obtain ⟨f, _⟩ := hS'
    walk_at "fro"
    walk_at "tg"
    refine seq_cut (fun ρ => ∃ w : List Nat, Wk 4 w ∧ w.length ≤ 40 ∧ Fr 18 [kd (.scr ns), kd (.ml 0), none, kd (.str w)] ρ) ?_ fun K1 hK1 => ?_; rotate_left
    · walk_at "zb"
      refine one_nats (l := [3, 8, 20, 40]) (by decide) (by decide) fun m hm => ?_
      have hm : m ≤ 40 := by simp only [List.mem_cons, List.not_mem_nil, or_false] at hm; omega
      walk_at "zb"
      refine ⟨m, rfl, hm, fun w hw hl => ?_⟩
      walk_at "zb"
      exact hK1 _ ⟨w, hw, by omega, by walk_at "fr"⟩
    rintro ρ ⟨w, hw, hl, f, _⟩
    walk_at "fro"
    have wok := hw.okS
    have lw := LR_len w
    have rok := (LR_wk hw).okS
    refine seq_cut (fun ρ => Fr 18 [kd (.scr ns), kd (.ml 0), none, kd (.str w), kd (ordD w)] ρ) ?_ fun K1 hK1 => ?_; rotate_left
    · rw [ordD_eq] at hK1
      walk_at "zb"
      refine ⟨b62, ?_⟩
      refine lc_map (fun n : Nat => D.int n) (fun p => psD (rot w p, p)) _ (fun p hp Qt Qf g => ?_) ?_
      · have hp := List.mem_range.mp hp
        walk_at "zb"
        exact ⟨by rw [List.length_drop, List.length_take, sizeLine_eq]; omega, g⟩
      · have e : ((List.range w.length).map fun p => psD (rot w p, p)) = (prs w).map psD := by unfold prs; rw [List.map_map]; rfl
        rw [e]
        walk_at "zb"
        refine ⟨srt_ps (prs_ok wok), ?_⟩
        rw [sortedP]
        refine lc_map psD (fun x => D.int (x.2 : Nat)) _ (fun x hx Qt Qf g => ?_) ?_
        · unfold psD
          walk_at "zb"
          exact g
        · walk_at "zb"
          exact hK1 _ (by unfold ordP; walk_at "fr")
    rintro ρ ⟨f, _⟩
    walk_at "fro"
    refine seq_cut (fun ρ => Fr 18 [kd (.scr ns), kd (.ml 0), none, kd (.str w), kd (ordD w), kd (.str (LR w)), kd (.int (RP w : Nat))] ρ) ?_ fun K1 hK1 => ?_; rotate_left
    · walk_at "zb"
      refine ⟨w, rfl, hl, wok, ?_⟩
      walk_at "zb"
      refine ⟨w, rfl, hl, ?_⟩
      walk_at "zb"
      exact hK1 _ (by walk_at "fr")
    rintro ρ ⟨f, _⟩
    walk_at "fro"
    refine seq_cut (fun ρ => Fr 18 [kd (.scr ns), kd (.ml 0), none, kd (.str w), none, kd (.str (LR w)), kd (.int (RP w : Nat)), kd (.lst (dueL w))] ρ) ?_ fun K1 hK1 => ?_; rotate_left
    · unfold dueL at hK1
      walk_at "zb"
      refine ⟨LR w, rfl, by omega, rok, ?_⟩
      walk_at "zb"
      exact hK1 _ (by walk_at "fr")
    rintro ρ ⟨f, _⟩
    walk_at "fro"
    refine seq_cut (fun ρ => Fr 18 [kd (.scr ns), kd (.ml 0), none, kd (.str w), none, kd (.str (LR w)), kd (.int (RP w : Nat)), kd (.lst (dueL w)), kd (.lst (dueL w))] ρ) ?_ fun K1 hK1 => ?_; rotate_left
    · walk_at "zb"
      refine ⟨w, rfl, hl, wok, ?_⟩
      walk_at "zb"
      refine ⟨w, rfl, hl, wok, ?_⟩
      walk_at "zb"
      refine ⟨w, rfl, hl, ?_⟩
      walk_at "zb"
      refine ⟨LR w, rfl, by omega, rok, ?_⟩
      walk_at "zb"
      exact hK1 _ (by unfold dueL; walk_at "fr")
    rintro ρ ⟨f, _⟩
    walk_at "fro"
    refine seq_cut (fun ρ => Fr 18 [kd (.scr ns), kd (.ml 0), none, kd (.str w), none, kd (.str (LR w)), kd (.int (RP w : Nat)), kd (.lst (dueL w)), kd (.lst (dueL w)), kd (.lst (dueL w))] ρ) ?_ fun K1 hK1 => ?_; rotate_left
    · walk_at "zb"
      refine ⟨w, rfl, hl, wok, ?_⟩
      walk_at "zb"
      refine ⟨w, rfl, hl, wok, ?_⟩
      walk_at "zb"
      refine ⟨w, rfl, hl, ?_⟩
      walk_at "zb"
      refine ⟨LR w, rfl, by omega, rok, ?_⟩
      walk_at "zb"
      exact hK1 _ (by unfold dueL; walk_at "fr")
    rintro ρ ⟨f, _⟩
    walk_at "fro"
    refine seq_cut (fun ρ => Fr 18 [kd (.scr ns), kd (.ml 0), none, kd (.str w), none, kd (.str (LR w))] ρ) ?_ fun K1 hK1 => ?_; rotate_left
    · walk_at "zb"
      refine ⟨LR w, RP w, rfl, by omega, LR_wk hw, by have := RP_le w; omega, (fun z => by rw [back_is] at z; cases z), fun _ => ?_⟩
      rw [back_all]
      walk_at "zb"
      refine same_yes rfl (all_x hw hl) ?_
      walk_at "zb"
      exact hK1 _ (by walk_at "fr")
    rintro ρ ⟨f, _⟩
    walk_at "fro"
    refine seq_cut (fun ρ => ∃ p : Nat, p ≤ w.length ∧ Fr 18 [kd (.scr ns), kd (.ml 0), none, kd (.str w), none, kd (.str (LR w)), none, none, none, none, kd (.int p)] ρ) ?_ fun K1 hK1 => ?_; rotate_left
    · walk_at "zb"
      refine gTake_nat (by omega) fun i hi => ?_
      walk_at "zb"
      exact hK1 _ ⟨i, by omega, by walk_at "fr"⟩
    rintro ρ ⟨p, hp, f, _⟩
    walk_at "fro"
    refine seq_cut (fun ρ => ∃ t : Nat, 1 ≤ t ∧ t ≤ 3 ∧ Fr 18 [kd (.scr ns), kd (.ml 0), none, kd (.str w), none, kd (.str (LR w)), none, none, none, none, kd (.int p), kd (.int t)] ρ) ?_ fun K1 hK1 => ?_; rotate_left
    · walk_at "zb"
      refine gTake_nat (n := 3) (by decide) fun i hi => ?_
      walk_at "zb"
      exact hK1 _ ⟨1 + i, by omega, by omega, by walk_at "fr"⟩
    rintro ρ ⟨tm, ht1, ht3, f, _⟩
    walk_at "fro"
    have rx := ltr_x (LR_wk hw) (by omega)
    refine seq_cut (fun ρ => Fr 18 [kd (.scr ns), kd (.ml 0), none, kd (.str w), none, kd (.str (LR w)), none, none, none, none, none, kd (.int tm)] ρ) ?_ fun K1 hK1 => ?_; rotate_left
    · walk_at "zb"
      refine ⟨by rw [List.length_drop, List.length_take, sizeLine_eq]; omega, ?_⟩
      refine ⟨rot w p, rfl, by rw [rot_len]; exact hl, (hw.rotW p).okS, ?_⟩
      rw [LR_rot hp]
      walk_at "zb"
      refine same_yes rfl rx ?_
      walk_at "zb"
      exact hK1 _ (by walk_at "fr")
    rintro ρ ⟨f, _⟩
    walk_at "fro"
    refine seq_cut (fun ρ => Fr 18 [kd (.scr ns), kd (.ml 0)] ρ) ?_ fun K1 hK1 => ?_; rotate_left
    · walk_at "zb"
      refine ⟨.inl (.inr ⟨by omega, by omega⟩), ?_⟩
      refine ifB_of (fun z => ?_) fun z => ?_
      · have z : w.length * tm ≤ 40 := by have := of_decide_eq_true z; omega
        have hpl : (pw w tm).length ≤ 40 := by rw [pw_len, Nat.mul_comm]; exact z
        have hpk : Wk 4 (pw w tm) := hw.rep tm
        have rx2 : rX (.str ((LR w).flatMap fun c => List.replicate tm c)) := by
          rw [← LR_pw (by omega)]
          exact ltr_x (LR_wk hpk) (by rw [LR_len]; omega)
        walk_at "zb"
        refine ⟨⟨Int.le_trans (by decide) (Int.natCast_nonneg _), by omega, by omega⟩, ?_⟩
        refine ⟨pw w tm, rfl, hpl, hpk.okS, ?_⟩
        rw [LR_pw (by omega)]
        walk_at "zb"
        refine lc_map (fun c : Nat => D.str [c]) (fun c => D.str (List.replicate tm c)) _ (fun c hc Qt Qf g => ?_) ?_
        · walk_at "zb"
          refine ⟨⟨Int.le_trans (by decide) (Int.natCast_nonneg _), by omega, by omega⟩, ?_⟩
          rw [rep_one]
          exact g
        · refine ⟨(LR w).map fun c => List.replicate tm c, by rw [List.map_map]; rfl, by rw [rep_sum, LR_len]; simp; omega, ?_⟩
          rw [joinL_nil, flat_rep]
          walk_at "zb"
          refine same_yes rfl rx2 ?_
          walk_at "zb"
          exact hK1 _ (by walk_at "fr")
      · walk_at "zb"
        exact hK1 _ (by walk_at "fr")
    rintro ρ ⟨f, _⟩
    walk_at "fro"
    refine seq_cut (fun ρ => ∃ v : List Nat, Wk 4 v ∧ v.length ≤ 40 ∧ Fr 18 [kd (.scr ns), kd (.ml 0), none, none, none, none, none, none, none, none, none, none, kd (.str v)] ρ) ?_ fun K1 hK1 => ?_; rotate_left
    · walk_at "zb"
      refine one_nats (l := [2, 4, 12]) (by decide) (by decide) fun m hm => ?_
      have hm : m ≤ 12 := by simp only [List.mem_cons, List.not_mem_nil, or_false] at hm; omega
      walk_at "zb"
      refine ⟨m, rfl, by omega, fun v hv hvl => ?_⟩
      walk_at "zb"
      exact hK1 _ ⟨v, hv, by omega, by walk_at "fr"⟩
    rintro ρ ⟨v, hv, hvl, f, _⟩
    walk_at "fro"
    walk_at "zb"
    refine gTake_nat (by omega) fun i hi => ?_
    walk_at "zb"
    refine gTake_nat (n := 60) (by decide) fun j hj => ?_
    walk_at "zb"
    refine for_all (fun n : Nat => D.int (n : Int)) (fun _ ρ => Fr 18 [kd (.scr ns), kd (.ml 0), none, none, none, none, none, none, none, none, none, none, kd (.str v)] ρ) [0, v.length, i, j] (fun s r ρ hl' hS' nx2 hn2 => ?_) (fun ρ hS' => ?_) _ (by walk_at "fr"); rotate_left
    · obtain ⟨f, _⟩ := hS'
      walk_at "fro"
      exact hn _ (by walk_at "fr")
    have hs : s ≤ 1000 := by
      obtain ⟨p, hp⟩ := hl'
      have : s ∈ [0, v.length, i, j] := by rw [hp]; simp
      simp only [List.mem_cons, List.not_mem_nil, or_false] at this
      omega
    obtain ⟨f, _⟩ := hS'
    walk_at "fro"
    walk_at "tg"
    refine seq_cut (fun ρ => Fr 18 [kd (.scr ns), kd (.ml 0), none, none, none, none, none, none, none, none, none, none, kd (.str v), kd (.int s), kd (if backB v s = true then .str (WW v s) else .non)] ρ) ?_ fun K1 hK1 => ?_; rotate_left
    · walk_at "zb"
      refine ⟨v, s, rfl, hvl, hv, hs, ?_⟩
      walk_at "zb"
      exact hK1 _ (by walk_at "fr")
    rintro ρ ⟨f, _⟩
    walk_at "fro"
    refine seq_cut (fun ρ => Fr 18 [kd (.scr ns), kd (.ml 0), none, none, none, none, none, none, none, none, none, none, kd (.str v), kd (.int s), none, kd (ansB v s)] ρ) ?_ fun K1 hK1 => ?_; rotate_left
    · unfold ansB wNo told wUnfit at hK1
      cases z : backB v s with
      | true =>
        rw [z] at hK1
        rw [if_pos rfl] at hK1 ⊢
        walk_at "zb"
        exact hK1 _ (by walk_at "fr")
      | false =>
        rw [z] at hK1
        rw [if_neg Bool.false_ne_true] at hK1 ⊢
        walk_at "zb"
        exact hK1 _ (by walk_at "fr")
    rintro ρ ⟨f, _⟩
    walk_at "fro"
    refine seq_cut (fun ρ => Fr 18 [kd (.scr ns), kd (.ml 0), none, none, none, none, none, none, none, none, none, none, kd (.str v), kd (.int s), none, kd (ansB v s), some (.ol [ansB v s])] ρ) ?_ fun K1 hK1 => ?_; rotate_left
    · walk_at "zb"
      refine hear_tf hvl hv hs ?_
      walk_at "zb"
      exact hK1 _ (by walk_at "fr")
    rintro ρ ⟨f, _⟩
    walk_at "fro"
    refine seq_cut (fun ρ => Fr 18 [kd (.scr ns), kd (.ml 0), none, none, none, none, none, none, none, none, none, none, kd (.str v), kd (.int s), none, kd (ansB v s), some (.ol [ansB v s, ansB v s])] ρ) ?_ fun K1 hK1 => ?_; rotate_left
    · walk_at "zb"
      refine hear_tf hvl hv hs ?_
      walk_at "zb"
      exact ⟨by rw [sizeLine_eq]; decide, hK1 _ (by walk_at "fr")⟩
    rintro ρ ⟨f, _⟩
    walk_at "fro"
    walk_at "zb"
    refine ⟨v, rfl, hvl, hv.okS, ?_⟩
    walk_at "zb"
    refine ⟨v, rfl, hvl, hv.okS, ?_⟩
    walk_at "zb"
    refine same_yes rfl (fin_x hv hvl) ?_
    walk_at "zb"
    exact hn2 _ (by walk_at "fr")
theorem all_mk {l : PySem.W.OpenLaw} {w : World} {K : PySem.W.Frag} {h : Heap} {mg : Str → Option Value} {fa : Addr} (X : K.In h) (G : h.Ns mainGlobals mg) (hfa : mg "law" = some (.ref fa))
    {f__law_take f__law_heard f__law_mill f__law_grown f__law_one f__law_word f__law_same f_turning f_turning_order f_last_row f__law_last_row f_row_place f__law_place f_steps_of f__law_steps f_turned_from f__law_back f__law_some_row f_law : Addr} {od__law_take an__law_take od__law_heard an__law_heard od__law_mill an__law_mill od__law_grown an__law_grown od__law_one an__law_one od__law_word an__law_word od__law_same an__law_same od_turning an_turning od_turning_order an_turning_order od_last_row an_last_row od__law_last_row an__law_last_row od_row_place an_row_place od__law_place an__law_place od_steps_of an_steps_of od__law_steps an__law_steps od_turned_from an_turned_from od__law_back an__law_back od__law_some_row an__law_some_row od_law an_law : Option Addr} {sl__law_take sl__law_heard sl__law_mill sl__law_grown sl__law_one sl__law_word sl__law_same sl_turning sl_turning_order sl_last_row sl__law_last_row sl_row_place sl__law_place sl_steps_of sl__law_steps sl_turned_from sl__law_back sl__law_some_row sl_law : Array (Option Value)} {oc__law_take kv__law_take dc__law_take pm__law_take cd__law_take ct__law_take oc__law_heard kv__law_heard dc__law_heard pm__law_heard cd__law_heard ct__law_heard oc__law_mill kv__law_mill dc__law_mill pm__law_mill cd__law_mill ct__law_mill oc__law_grown kv__law_grown dc__law_grown pm__law_grown cd__law_grown ct__law_grown oc__law_one kv__law_one dc__law_one pm__law_one cd__law_one ct__law_one oc__law_word kv__law_word dc__law_word pm__law_word cd__law_word ct__law_word oc__law_same kv__law_same dc__law_same pm__law_same cd__law_same ct__law_same oc_turning kv_turning dc_turning pm_turning cd_turning ct_turning oc_turning_order kv_turning_order dc_turning_order pm_turning_order cd_turning_order ct_turning_order oc_last_row kv_last_row dc_last_row pm_last_row cd_last_row ct_last_row oc__law_last_row kv__law_last_row dc__law_last_row pm__law_last_row cd__law_last_row ct__law_last_row oc_row_place kv_row_place dc_row_place pm_row_place cd_row_place ct_row_place oc__law_place kv__law_place dc__law_place pm__law_place cd__law_place ct__law_place oc_steps_of kv_steps_of dc_steps_of pm_steps_of cd_steps_of ct_steps_of oc__law_steps kv__law_steps dc__law_steps pm__law_steps cd__law_steps ct__law_steps oc_turned_from kv_turned_from dc_turned_from pm_turned_from cd_turned_from ct_turned_from oc__law_back kv__law_back dc__law_back pm__law_back cd__law_back ct__law_back oc__law_some_row kv__law_some_row dc__law_some_row pm__law_some_row cd__law_some_row ct__law_some_row oc_law kv_law dc_law pm_law ct_law : Value}
    {cc_law pt_law : Addr} {ye : Value} {yd : Option Addr} {yv : Array Value} {ys : Array (Option Value)}
    (a__law_take : PySem.W.nsIn K mainGlobals "_law_take" = some (some (.ref f__law_take)))
    (l__law_take : K.lookup f__law_take = some ⟨oc__law_take, od__law_take, .func (PySem.W.fnOf "_law_take" "_law_take" (defArgs s__law_take) (defBody s__law_take) (defScope s__law_take) .none kv__law_take dc__law_take pm__law_take an__law_take cd__law_take ct__law_take), sl__law_take⟩)
    (c__law_take : PySem.W.codeIn K cd__law_take "_law_take" = true) (k__law_take : PySem.W.keepIn K (.ref f__law_take) = true)
    (a__law_heard : PySem.W.nsIn K mainGlobals "_law_heard" = some (some (.ref f__law_heard)))
    (l__law_heard : K.lookup f__law_heard = some ⟨oc__law_heard, od__law_heard, .func (PySem.W.fnOf "_law_heard" "_law_heard" (defArgs s__law_heard) (defBody s__law_heard) (defScope s__law_heard) .none kv__law_heard dc__law_heard pm__law_heard an__law_heard cd__law_heard ct__law_heard), sl__law_heard⟩)
    (c__law_heard : PySem.W.codeIn K cd__law_heard "_law_heard" = true) (k__law_heard : PySem.W.keepIn K (.ref f__law_heard) = true)
    (a__law_mill : PySem.W.nsIn K mainGlobals "_law_mill" = some (some (.ref f__law_mill)))
    (l__law_mill : K.lookup f__law_mill = some ⟨oc__law_mill, od__law_mill, .func (PySem.W.fnOf "_law_mill" "_law_mill" (defArgs s__law_mill) (defBody s__law_mill) (defScope s__law_mill) .none kv__law_mill dc__law_mill pm__law_mill an__law_mill cd__law_mill ct__law_mill), sl__law_mill⟩)
    (c__law_mill : PySem.W.codeIn K cd__law_mill "_law_mill" = true) (k__law_mill : PySem.W.keepIn K (.ref f__law_mill) = true)
    (a__law_grown : PySem.W.nsIn K mainGlobals "_law_grown" = some (some (.ref f__law_grown)))
    (l__law_grown : K.lookup f__law_grown = some ⟨oc__law_grown, od__law_grown, .func (PySem.W.fnOf "_law_grown" "_law_grown" (defArgs s__law_grown) (defBody s__law_grown) (defScope s__law_grown) .none kv__law_grown dc__law_grown pm__law_grown an__law_grown cd__law_grown ct__law_grown), sl__law_grown⟩)
    (c__law_grown : PySem.W.codeIn K cd__law_grown "_law_grown" = true) (k__law_grown : PySem.W.keepIn K (.ref f__law_grown) = true)
    (a__law_one : PySem.W.nsIn K mainGlobals "_law_one" = some (some (.ref f__law_one)))
    (l__law_one : K.lookup f__law_one = some ⟨oc__law_one, od__law_one, .func (PySem.W.fnOf "_law_one" "_law_one" (defArgs s__law_one) (defBody s__law_one) (defScope s__law_one) .none kv__law_one dc__law_one pm__law_one an__law_one cd__law_one ct__law_one), sl__law_one⟩)
    (c__law_one : PySem.W.codeIn K cd__law_one "_law_one" = true) (k__law_one : PySem.W.keepIn K (.ref f__law_one) = true)
    (a__law_word : PySem.W.nsIn K mainGlobals "_law_word" = some (some (.ref f__law_word)))
    (l__law_word : K.lookup f__law_word = some ⟨oc__law_word, od__law_word, .func (PySem.W.fnOf "_law_word" "_law_word" (defArgs s__law_word) (defBody s__law_word) (defScope s__law_word) .none kv__law_word dc__law_word pm__law_word an__law_word cd__law_word ct__law_word), sl__law_word⟩)
    (c__law_word : PySem.W.codeIn K cd__law_word "_law_word" = true) (k__law_word : PySem.W.keepIn K (.ref f__law_word) = true)
    (a__law_same : PySem.W.nsIn K mainGlobals "_law_same" = some (some (.ref f__law_same)))
    (l__law_same : K.lookup f__law_same = some ⟨oc__law_same, od__law_same, .func (PySem.W.fnOf "_law_same" "_law_same" (defArgs s__law_same) (defBody s__law_same) (defScope s__law_same) .none kv__law_same dc__law_same pm__law_same an__law_same cd__law_same ct__law_same), sl__law_same⟩)
    (c__law_same : PySem.W.codeIn K cd__law_same "_law_same" = true) (k__law_same : PySem.W.keepIn K (.ref f__law_same) = true)
    (a_turning : PySem.W.nsIn K mainGlobals "turning" = some (some (.ref f_turning)))
    (l_turning : K.lookup f_turning = some ⟨oc_turning, od_turning, .func (PySem.W.fnOf "turning" "turning" (defArgs s_turning) (defBody s_turning) (defScope s_turning) .none kv_turning dc_turning pm_turning an_turning cd_turning ct_turning), sl_turning⟩)
    (c_turning : PySem.W.codeIn K cd_turning "turning" = true) (k_turning : PySem.W.keepIn K (.ref f_turning) = true)
    (a_turning_order : PySem.W.nsIn K mainGlobals "turning_order" = some (some (.ref f_turning_order)))
    (l_turning_order : K.lookup f_turning_order = some ⟨oc_turning_order, od_turning_order, .func (PySem.W.fnOf "turning_order" "turning_order" (defArgs s_turning_order) (defBody s_turning_order) (defScope s_turning_order) .none kv_turning_order dc_turning_order pm_turning_order an_turning_order cd_turning_order ct_turning_order), sl_turning_order⟩)
    (c_turning_order : PySem.W.codeIn K cd_turning_order "turning_order" = true) (k_turning_order : PySem.W.keepIn K (.ref f_turning_order) = true)
    (a_last_row : PySem.W.nsIn K mainGlobals "last_row" = some (some (.ref f_last_row)))
    (l_last_row : K.lookup f_last_row = some ⟨oc_last_row, od_last_row, .func (PySem.W.fnOf "last_row" "last_row" (defArgs s_last_row) (defBody s_last_row) (defScope s_last_row) .none kv_last_row dc_last_row pm_last_row an_last_row cd_last_row ct_last_row), sl_last_row⟩)
    (c_last_row : PySem.W.codeIn K cd_last_row "last_row" = true) (k_last_row : PySem.W.keepIn K (.ref f_last_row) = true)
    (a__law_last_row : PySem.W.nsIn K mainGlobals "_law_last_row" = some (some (.ref f__law_last_row)))
    (l__law_last_row : K.lookup f__law_last_row = some ⟨oc__law_last_row, od__law_last_row, .func (PySem.W.fnOf "_law_last_row" "_law_last_row" (defArgs s__law_last_row) (defBody s__law_last_row) (defScope s__law_last_row) .none kv__law_last_row dc__law_last_row pm__law_last_row an__law_last_row cd__law_last_row ct__law_last_row), sl__law_last_row⟩)
    (c__law_last_row : PySem.W.codeIn K cd__law_last_row "_law_last_row" = true) (k__law_last_row : PySem.W.keepIn K (.ref f__law_last_row) = true)
    (a_row_place : PySem.W.nsIn K mainGlobals "row_place" = some (some (.ref f_row_place)))
    (l_row_place : K.lookup f_row_place = some ⟨oc_row_place, od_row_place, .func (PySem.W.fnOf "row_place" "row_place" (defArgs s_row_place) (defBody s_row_place) (defScope s_row_place) .none kv_row_place dc_row_place pm_row_place an_row_place cd_row_place ct_row_place), sl_row_place⟩)
    (c_row_place : PySem.W.codeIn K cd_row_place "row_place" = true) (k_row_place : PySem.W.keepIn K (.ref f_row_place) = true)
    (a__law_place : PySem.W.nsIn K mainGlobals "_law_place" = some (some (.ref f__law_place)))
    (l__law_place : K.lookup f__law_place = some ⟨oc__law_place, od__law_place, .func (PySem.W.fnOf "_law_place" "_law_place" (defArgs s__law_place) (defBody s__law_place) (defScope s__law_place) .none kv__law_place dc__law_place pm__law_place an__law_place cd__law_place ct__law_place), sl__law_place⟩)
    (c__law_place : PySem.W.codeIn K cd__law_place "_law_place" = true) (k__law_place : PySem.W.keepIn K (.ref f__law_place) = true)
    (a_steps_of : PySem.W.nsIn K mainGlobals "steps_of" = some (some (.ref f_steps_of)))
    (l_steps_of : K.lookup f_steps_of = some ⟨oc_steps_of, od_steps_of, .func (PySem.W.fnOf "steps_of" "steps_of" (defArgs s_steps_of) (defBody s_steps_of) (defScope s_steps_of) .none kv_steps_of dc_steps_of pm_steps_of an_steps_of cd_steps_of ct_steps_of), sl_steps_of⟩)
    (c_steps_of : PySem.W.codeIn K cd_steps_of "steps_of" = true) (k_steps_of : PySem.W.keepIn K (.ref f_steps_of) = true)
    (a__law_steps : PySem.W.nsIn K mainGlobals "_law_steps" = some (some (.ref f__law_steps)))
    (l__law_steps : K.lookup f__law_steps = some ⟨oc__law_steps, od__law_steps, .func (PySem.W.fnOf "_law_steps" "_law_steps" (defArgs s__law_steps) (defBody s__law_steps) (defScope s__law_steps) .none kv__law_steps dc__law_steps pm__law_steps an__law_steps cd__law_steps ct__law_steps), sl__law_steps⟩)
    (c__law_steps : PySem.W.codeIn K cd__law_steps "_law_steps" = true) (k__law_steps : PySem.W.keepIn K (.ref f__law_steps) = true)
    (a_turned_from : PySem.W.nsIn K mainGlobals "turned_from" = some (some (.ref f_turned_from)))
    (l_turned_from : K.lookup f_turned_from = some ⟨oc_turned_from, od_turned_from, .func (PySem.W.fnOf "turned_from" "turned_from" (defArgs s_turned_from) (defBody s_turned_from) (defScope s_turned_from) .none kv_turned_from dc_turned_from pm_turned_from an_turned_from cd_turned_from ct_turned_from), sl_turned_from⟩)
    (c_turned_from : PySem.W.codeIn K cd_turned_from "turned_from" = true) (k_turned_from : PySem.W.keepIn K (.ref f_turned_from) = true)
    (a__law_back : PySem.W.nsIn K mainGlobals "_law_back" = some (some (.ref f__law_back)))
    (l__law_back : K.lookup f__law_back = some ⟨oc__law_back, od__law_back, .func (PySem.W.fnOf "_law_back" "_law_back" (defArgs s__law_back) (defBody s__law_back) (defScope s__law_back) .none kv__law_back dc__law_back pm__law_back an__law_back cd__law_back ct__law_back), sl__law_back⟩)
    (c__law_back : PySem.W.codeIn K cd__law_back "_law_back" = true) (k__law_back : PySem.W.keepIn K (.ref f__law_back) = true)
    (a__law_some_row : PySem.W.nsIn K mainGlobals "_law_some_row" = some (some (.ref f__law_some_row)))
    (l__law_some_row : K.lookup f__law_some_row = some ⟨oc__law_some_row, od__law_some_row, .func (PySem.W.fnOf "_law_some_row" "_law_some_row" (defArgs s__law_some_row) (defBody s__law_some_row) (defScope s__law_some_row) .none kv__law_some_row dc__law_some_row pm__law_some_row an__law_some_row cd__law_some_row ct__law_some_row), sl__law_some_row⟩)
    (c__law_some_row : PySem.W.codeIn K cd__law_some_row "_law_some_row" = true) (k__law_some_row : PySem.W.keepIn K (.ref f__law_some_row) = true)
    (a_law : PySem.W.nsIn K mainGlobals "law" = some (some (.ref f_law)))
    (l_law : K.lookup f_law = some ⟨oc_law, od_law, .func (PySem.W.fnOf "law" "law" (defArgs s_law) (defBody s_law) (defScope s_law) .none kv_law dc_law pm_law an_law (.ref cc_law) ct_law), sl_law⟩)
    (c_law : PySem.W.codeIn K (.ref cc_law) "law" = true) (k_law : PySem.W.keepIn K (.ref f_law) = true)
    (y_cl : K.lookup cc_law = some ⟨ye, yd, .fields yv, ys⟩) (y_11 : yv[11]? = some (.ref pt_law)) (y_hd : PySem.W.codeHdIn K cc_law pt_law = true) (y_no : K.lookup pt_law = none) (own : ∀ fe, mg "law" = some (.ref fe) → LamX.OwnTab K fe h)
    (z_abs : PySem.W.nsIn K mainGlobals "abs" = some none)
    (z_enumerate : PySem.W.nsIn K mainGlobals "enumerate" = some none)
    (z_int : PySem.W.nsIn K mainGlobals "int" = some none)
    (z_isinstance : PySem.W.nsIn K mainGlobals "isinstance" = some none)
    (z_len : PySem.W.nsIn K mainGlobals "len" = some none)
    (z_max : PySem.W.nsIn K mainGlobals "max" = some none)
    (z_range : PySem.W.nsIn K mainGlobals "range" = some none)
    (z_repr : PySem.W.nsIn K mainGlobals "repr" = some none)
    (z_sorted : PySem.W.nsIn K mainGlobals "sorted" = some none)
    (z_tuple : PySem.W.nsIn K mainGlobals "tuple" = some none)
    {C_Unfit fI_Unfit cx_Unfit cc_Unfit : Addr} {nm_Unfit q_Unfit fl_Unfit : Str} {tf_Unfit : Tok} {N_Unfit : Addr} {bs_Unfit bm_Unfit : List Value} {sn_Unfit : List Str} {sub_Unfit : List Value} {ab_Unfit : Bool} {col_Unfit : Option Bool} {dd_Unfit : Option Addr} {k0_Unfit k1_Unfit k2_Unfit k3_Unfit k5_Unfit : Option Value} {od_Unfit ccd_Unfit cld_Unfit : Option Addr} {sl_Unfit ccs_Unfit csl_Unfit : Array (Option Value)} {doc_Unfit pm_Unfit ctv_Unfit ccl_Unfit cl_Unfit : Value} {vs_Unfit : Array Value}
    (ra_Unfit : PySem.W.nsIn K mainGlobals "Unfit" = some (some (.ref C_Unfit)))
    (rlk_Unfit : K.lookup C_Unfit = some (PySem.excClassObj nm_Unfit q_Unfit C_Unfit N_Unfit bs_Unfit bm_Unfit true sn_Unfit sub_Unfit ab_Unfit col_Unfit dd_Unfit k0_Unfit k1_Unfit k2_Unfit k3_Unfit k5_Unfit "ValueError.__new__"))
    (rve_Unfit : PySem.HandSPX.refsVE bm_Unfit = true)
    (rsa_Unfit : PySem.W.findIn K (.ref C_Unfit) "__setattr__" = some (some (.builtin "object.__setattr__")))
    (rex_Unfit : PySem.W.subIn K (.ref C_Unfit) (.type "BaseException") = some true)
    (rty_Unfit : PySem.W.typeIn K (.ref C_Unfit) = some (.type "type"))
    (rkC_Unfit : PySem.W.keepIn K (.ref C_Unfit) = true)
    (riC_Unfit : PySem.W.findIn K (.ref C_Unfit) "__init__" = some (some (.ref fI_Unfit)))
    (rtI_Unfit : PySem.W.typeIn K (.ref fI_Unfit) = some (.type "function"))
    (rlf_Unfit : K.lookup fI_Unfit = some (⟨.type "function", od_Unfit, .func (NdefX.NF.fd ⟨"__init__", "Unfit.__init__", defArgs i_Unfit, defBody i_Unfit, defScope i_Unfit, [(("__class__" : Str), cc_Unfit)], cx_Unfit⟩ doc_Unfit pm_Unfit ctv_Unfit), sl_Unfit⟩ : Obj))
    (rco_Unfit : PySem.W.codeIn K (.ref cx_Unfit) "Unfit.__init__" = true)
    (rfi_Unfit : K.lookup cx_Unfit = some (⟨ccl_Unfit, ccd_Unfit, .fields vs_Unfit, ccs_Unfit⟩ : Obj))
    (rfs_Unfit : vs_Unfit[2]? = some (.str fl_Unfit tf_Unfit))
    (rfq_Unfit : ((l.prog.main.file : Str) == fl_Unfit) = true)
    (rce_Unfit : K.lookup cc_Unfit = some (⟨cl_Unfit, cld_Unfit, .cell (some (.ref C_Unfit)), csl_Unfit⟩ : Obj))
    (rse_Unfit : PySem.W.mroIn K C_Unfit (.ref C_Unfit) = some true)
    (rsu_Unfit : PySem.W.ks_superIn K C_Unfit C_Unfit "__init__" = some (some (.builtin "ValueError.__init__")))
    (rsV_Unfit : PySem.W.subIn K (.ref C_Unfit) (.type "ValueError") = some true)
    (rxf_Unfit : xfB K C_Unfit = true)
    (rcl_Unfit : (PySem.W.clsIn K C_Unfit).isSome = true)
    (rca_Unfit : PySem.W.findIn K (.ref C_Unfit) "__class__" = some (some (.builtin "object.__class__")))
    (rmo_Unfit : PySem.W.mroIn K C_Unfit (.type "object") = some true)
    {C_TooMany fI_TooMany cx_TooMany cc_TooMany : Addr} {nm_TooMany q_TooMany fl_TooMany : Str} {tf_TooMany : Tok} {N_TooMany : Addr} {bs_TooMany bm_TooMany : List Value} {sn_TooMany : List Str} {sub_TooMany : List Value} {ab_TooMany : Bool} {col_TooMany : Option Bool} {dd_TooMany : Option Addr} {k0_TooMany k1_TooMany k2_TooMany k3_TooMany k5_TooMany : Option Value} {od_TooMany ccd_TooMany cld_TooMany : Option Addr} {sl_TooMany ccs_TooMany csl_TooMany : Array (Option Value)} {doc_TooMany pm_TooMany ctv_TooMany ccl_TooMany cl_TooMany : Value} {vs_TooMany : Array Value}
    (ra_TooMany : PySem.W.nsIn K mainGlobals "TooMany" = some (some (.ref C_TooMany)))
    (rlk_TooMany : K.lookup C_TooMany = some (PySem.excClassObj nm_TooMany q_TooMany C_TooMany N_TooMany bs_TooMany bm_TooMany true sn_TooMany sub_TooMany ab_TooMany col_TooMany dd_TooMany k0_TooMany k1_TooMany k2_TooMany k3_TooMany k5_TooMany "ValueError.__new__"))
    (rve_TooMany : PySem.HandSPX.refsVE bm_TooMany = true)
    (rsa_TooMany : PySem.W.findIn K (.ref C_TooMany) "__setattr__" = some (some (.builtin "object.__setattr__")))
    (rex_TooMany : PySem.W.subIn K (.ref C_TooMany) (.type "BaseException") = some true)
    (rty_TooMany : PySem.W.typeIn K (.ref C_TooMany) = some (.type "type"))
    (rkC_TooMany : PySem.W.keepIn K (.ref C_TooMany) = true)
    (riC_TooMany : PySem.W.findIn K (.ref C_TooMany) "__init__" = some (some (.ref fI_TooMany)))
    (rtI_TooMany : PySem.W.typeIn K (.ref fI_TooMany) = some (.type "function"))
    (rlf_TooMany : K.lookup fI_TooMany = some (⟨.type "function", od_TooMany, .func (NdefX.NF.fd ⟨"__init__", "TooMany.__init__", defArgs i_TooMany, defBody i_TooMany, defScope i_TooMany, [(("__class__" : Str), cc_TooMany)], cx_TooMany⟩ doc_TooMany pm_TooMany ctv_TooMany), sl_TooMany⟩ : Obj))
    (rco_TooMany : PySem.W.codeIn K (.ref cx_TooMany) "TooMany.__init__" = true)
    (rfi_TooMany : K.lookup cx_TooMany = some (⟨ccl_TooMany, ccd_TooMany, .fields vs_TooMany, ccs_TooMany⟩ : Obj))
    (rfs_TooMany : vs_TooMany[2]? = some (.str fl_TooMany tf_TooMany))
    (rfq_TooMany : ((l.prog.main.file : Str) == fl_TooMany) = true)
    (rce_TooMany : K.lookup cc_TooMany = some (⟨cl_TooMany, cld_TooMany, .cell (some (.ref C_TooMany)), csl_TooMany⟩ : Obj))
    (rse_TooMany : PySem.W.mroIn K C_TooMany (.ref C_TooMany) = some true)
    (rsu_TooMany : PySem.W.ks_superIn K C_TooMany C_TooMany "__init__" = some (some (.builtin "ValueError.__init__")))
    (rsV_TooMany : PySem.W.subIn K (.ref C_TooMany) (.type "ValueError") = some true)
    (rxf_TooMany : xfB K C_TooMany = true)
    (rcl_TooMany : (PySem.W.clsIn K C_TooMany).isSome = true)
    (rca_TooMany : PySem.W.findIn K (.ref C_TooMany) "__class__" = some (some (.builtin "object.__class__")))
    (rmo_TooMany : PySem.W.mroIn K C_TooMany (.type "object") = some true)
    (rno_TooMany : PySem.W.findIn K (.ref C_TooMany) "limit" = some none)
    {C_WordError : Addr}
    (ra_WordError : PySem.W.nsIn K mainGlobals "WordError" = some (some (.ref C_WordError)))
    (r_sp : PySem.W.specialIn K (.builtin "object.__class__") "__get__" = some (some (.builtin "getset_descriptor.__get__")))
    (r_tk : PySem.W.takesIn K (.builtin "object.__class__") = some true)
    (r_st : PySem.W.nsIn K PySem.cStatics "thirdparty.any" = some none)
    (r_su : PySem.W.nsIn K mainGlobals "super" = some none)
    (r_tp : (l.prog.main.scope.names.lookup ("super" : Str)).isSome = false)
    (rk_Unfit_Unfit : PySem.W.kitOne K (.ref C_Unfit) (.ref C_Unfit) = some true)
    (re_Unfit_Unfit : PySem.W.exmOne K (.ref C_Unfit) (.ref C_Unfit) = some true)
    (rk_Unfit_TooMany : PySem.W.kitOne K (.ref C_Unfit) (.ref C_TooMany) = some false)
    (re_Unfit_TooMany : PySem.W.exmOne K (.ref C_Unfit) (.ref C_TooMany) = some false)
    (rk_Unfit_WordError : PySem.W.kitOne K (.ref C_Unfit) (.ref C_WordError) = some true)
    (re_Unfit_WordError : PySem.W.exmOne K (.ref C_Unfit) (.ref C_WordError) = some true)
    (rk_TooMany_Unfit : PySem.W.kitOne K (.ref C_TooMany) (.ref C_Unfit) = some false)
    (re_TooMany_Unfit : PySem.W.exmOne K (.ref C_TooMany) (.ref C_Unfit) = some false)
    (rk_TooMany_TooMany : PySem.W.kitOne K (.ref C_TooMany) (.ref C_TooMany) = some true)
    (re_TooMany_TooMany : PySem.W.exmOne K (.ref C_TooMany) (.ref C_TooMany) = some true)
    (rk_TooMany_WordError : PySem.W.kitOne K (.ref C_TooMany) (.ref C_WordError) = some true)
    (re_TooMany_WordError : PySem.W.exmOne K (.ref C_TooMany) (.ref C_WordError) = some true)
    : ∃ (fd : FuncData) (cs : List (Addr × Addr)) (tb : List (Addr × Str)), (∀ (s : Shared) (u : Value), BindsTo s fd ⟨[u], []⟩ [("script", u)]) ∧ (∀ p ∈ cs, h.get? p.2 = some { cls := .none, data := .fields #[] }) ∧ (∀ p ∈ cs, K.lookup p.2 = none) ∧ (∀ p ∈ cs, PySem.W.codeHdIn K p.1 p.2 = true) ∧ (∀ p ∈ tb, ∃ q ∈ cs, q.2 = p.1) ∧ ∀ base : Heap, K.In base → base.Ns mainGlobals mg → (∀ p ∈ cs, LamX.TabB base mg p.1 p.2) → Sys base → FnS l.prog w K mg base 8 fa fd ["script"] (SpLawT K tb) := by
  have e := hfa.symm.trans (PySem.W.mg_of X G a_law)
  cases e
  have D__law_take : Df K mg "_law_take" s__law_take f__law_take _ := ⟨fun_mk l__law_take c__law_take k__law_take, PySem.W.mg_of X G a__law_take⟩
  have D__law_heard : Df K mg "_law_heard" s__law_heard f__law_heard _ := ⟨fun_mk l__law_heard c__law_heard k__law_heard, PySem.W.mg_of X G a__law_heard⟩
  have D__law_mill : Df K mg "_law_mill" s__law_mill f__law_mill _ := ⟨fun_mk l__law_mill c__law_mill k__law_mill, PySem.W.mg_of X G a__law_mill⟩
  have D__law_grown : Df K mg "_law_grown" s__law_grown f__law_grown _ := ⟨fun_mk l__law_grown c__law_grown k__law_grown, PySem.W.mg_of X G a__law_grown⟩
  have D__law_one : Df K mg "_law_one" s__law_one f__law_one _ := ⟨fun_mk l__law_one c__law_one k__law_one, PySem.W.mg_of X G a__law_one⟩
  have D__law_word : Df K mg "_law_word" s__law_word f__law_word _ := ⟨fun_mk l__law_word c__law_word k__law_word, PySem.W.mg_of X G a__law_word⟩
  have D__law_same : Df K mg "_law_same" s__law_same f__law_same _ := ⟨fun_mk l__law_same c__law_same k__law_same, PySem.W.mg_of X G a__law_same⟩
  have D_turning : Df K mg "turning" s_turning f_turning _ := ⟨fun_mk l_turning c_turning k_turning, PySem.W.mg_of X G a_turning⟩
  have D_turning_order : Df K mg "turning_order" s_turning_order f_turning_order _ := ⟨fun_mk l_turning_order c_turning_order k_turning_order, PySem.W.mg_of X G a_turning_order⟩
  have D_last_row : Df K mg "last_row" s_last_row f_last_row _ := ⟨fun_mk l_last_row c_last_row k_last_row, PySem.W.mg_of X G a_last_row⟩
  have D__law_last_row : Df K mg "_law_last_row" s__law_last_row f__law_last_row _ := ⟨fun_mk l__law_last_row c__law_last_row k__law_last_row, PySem.W.mg_of X G a__law_last_row⟩
  have D_row_place : Df K mg "row_place" s_row_place f_row_place _ := ⟨fun_mk l_row_place c_row_place k_row_place, PySem.W.mg_of X G a_row_place⟩
  have D__law_place : Df K mg "_law_place" s__law_place f__law_place _ := ⟨fun_mk l__law_place c__law_place k__law_place, PySem.W.mg_of X G a__law_place⟩
  have D_steps_of : Df K mg "steps_of" s_steps_of f_steps_of _ := ⟨fun_mk l_steps_of c_steps_of k_steps_of, PySem.W.mg_of X G a_steps_of⟩
  have D__law_steps : Df K mg "_law_steps" s__law_steps f__law_steps _ := ⟨fun_mk l__law_steps c__law_steps k__law_steps, PySem.W.mg_of X G a__law_steps⟩
  have D_turned_from : Df K mg "turned_from" s_turned_from f_turned_from _ := ⟨fun_mk l_turned_from c_turned_from k_turned_from, PySem.W.mg_of X G a_turned_from⟩
  have D__law_back : Df K mg "_law_back" s__law_back f__law_back _ := ⟨fun_mk l__law_back c__law_back k__law_back, PySem.W.mg_of X G a__law_back⟩
  have D__law_some_row : Df K mg "_law_some_row" s__law_some_row f__law_some_row _ := ⟨fun_mk l__law_some_row c__law_some_row k__law_some_row, PySem.W.mg_of X G a__law_some_row⟩
  refine ⟨PySem.W.fnOf "law" "law" (defArgs s_law) (defBody s_law) (defScope s_law) .none kv_law dc_law pm_law an_law (.ref cc_law) ct_law, [(cc_law, pt_law)], [(pt_law, ("law" : Str) ++ ".<locals>." ++ "<lambda>")], fun s v => .of_eq rfl, fun p hp => ?_, fun p hp => ?_, fun p hp => ?_, fun p hp => ?_, fun base _ _ tbs B => ?_⟩
  · cases List.mem_singleton.mp hp; exact own _ (PySem.W.mg_of X G a_law) cc_law pt_law _ _ _ _ _ _ l_law rfl rfl y_cl y_11
  · cases List.mem_singleton.mp hp; exact y_no
  · cases List.mem_singleton.mp hp; exact y_hd
  · cases List.mem_singleton.mp hp; exact ⟨_, List.mem_singleton.mpr rfl, rfl⟩
  have TB := tbs (cc_law, pt_law) (List.mem_singleton.mpr rfl)
  have T : Tx K mg base := ⟨B, PySem.W.mg_none_of X G z_abs, PySem.W.mg_none_of X G z_enumerate, PySem.W.mg_none_of X G z_int, PySem.W.mg_none_of X G z_isinstance, PySem.W.mg_none_of X G z_len, PySem.W.mg_none_of X G z_max, PySem.W.mg_none_of X G z_range, PySem.W.mg_none_of X G z_repr, PySem.W.mg_none_of X G z_sorted, PySem.W.mg_none_of X G z_tuple⟩
  have X_Unfit : XRow l.prog w K C_Unfit fI_Unfit cc_Unfit _ od_Unfit doc_Unfit pm_Unfit ctv_Unfit sl_Unfit := ⟨⟨⟨⟨_, _, _, _, _, _, _, _, _, _, _, _, _, _, _, rlk_Unfit, rve_Unfit⟩, rsa_Unfit, rex_Unfit, rty_Unfit, rkC_Unfit⟩, ⟨_, _, _, _, _, rlf_Unfit⟩, rco_Unfit, ⟨_, _, _, _, _, _, rfi_Unfit, rfs_Unfit, rfq_Unfit⟩, rfl, ⟨_, _, _, rce_Unfit⟩, rse_Unfit, rsu_Unfit, rsV_Unfit, r_st, r_tp⟩, rlf_Unfit, riC_Unfit, rtI_Unfit⟩
  have Z_Unfit := xcls_none (x := "Unfit") (mg := mg) (base := base) X_Unfit (PySem.W.mg_of X G ra_Unfit) (PySem.W.mg_none_of X G r_su) ns_Unfit rfl rfl rfl rfl (fun _ => rfl) (fun _ => rfl) (fun _ => rfl) (Binds.all fun us hl => match us, hl with | [_], _ => rfl)
  have Y_Unfit : XHot K C_Unfit := ⟨xfB_ok rxf_Unfit, rcl_Unfit, rca_Unfit, r_sp, r_tk, rmo_Unfit⟩
  have X_TooMany : XRow l.prog w K C_TooMany fI_TooMany cc_TooMany _ od_TooMany doc_TooMany pm_TooMany ctv_TooMany sl_TooMany := ⟨⟨⟨⟨_, _, _, _, _, _, _, _, _, _, _, _, _, _, _, rlk_TooMany, rve_TooMany⟩, rsa_TooMany, rex_TooMany, rty_TooMany, rkC_TooMany⟩, ⟨_, _, _, _, _, rlf_TooMany⟩, rco_TooMany, ⟨_, _, _, _, _, _, rfi_TooMany, rfs_TooMany, rfq_TooMany⟩, rfl, ⟨_, _, _, rce_TooMany⟩, rse_TooMany, rsu_TooMany, rsV_TooMany, r_st, r_tp⟩, rlf_TooMany, riC_TooMany, rtI_TooMany⟩
  have Z_TooMany := xcls_one (x := "TooMany") (mg := mg) (base := base) (fl := "limit") X_TooMany (PySem.W.mg_of X G ra_TooMany) (PySem.W.mg_none_of X G r_su) rno_TooMany ns_TooMany rfl rfl rfl rfl (fun _ => rfl) (fun _ => rfl) (fun _ => rfl) (fun _ => ⟨rfl, rfl⟩) (fun _ => rfl) (Binds.all fun us hl => match us, hl with | [_, _], _ => rfl)
  have Y_TooMany : XHot K C_TooMany := ⟨xfB_ok rxf_TooMany, rcl_TooMany, rca_TooMany, r_sp, r_tk, rmo_TooMany⟩
  have EX : Ex l.prog w K mg base C_Unfit fI_Unfit _ C_TooMany fI_TooMany _ C_WordError := ⟨Z_Unfit, Y_Unfit, Z_TooMany, Y_TooMany, rno_TooMany, PySem.W.mg_of X G ra_WordError, rk_Unfit_Unfit, re_Unfit_Unfit, rk_Unfit_TooMany, re_Unfit_TooMany, rk_Unfit_WordError, re_Unfit_WordError, rk_TooMany_Unfit, re_TooMany_Unfit, rk_TooMany_TooMany, re_TooMany_TooMany, rk_TooMany_WordError, re_TooMany_WordError⟩
  have G__law_take := ok__law_take (P := l.prog) (w := w) (mg := mg) (base := base) D__law_take.fn T
  have G__law_heard := ok__law_heard (P := l.prog) (w := w) (mg := mg) (base := base) (k := 6) (f := f__law_heard) T EX
  have G__law_mill := ok__law_mill (P := l.prog) (w := w) (mg := mg) (base := base) D__law_mill.fn T
  have G__law_grown := ok__law_grown (P := l.prog) (w := w) (mg := mg) (base := base) D__law_grown.fn T
  have G__law_one := ok__law_one (P := l.prog) (w := w) (mg := mg) (base := base) D__law_one.fn T D__law_take G__law_take
  have G__law_word := ok__law_word (P := l.prog) (w := w) (mg := mg) (base := base) D__law_word.fn T D__law_take G__law_take D__law_one G__law_one D__law_grown G__law_grown
  have G__law_same := ok__law_same (P := l.prog) (w := w) (mg := mg) (base := base) D__law_same.fn T
  have G_turning := ok_turning (P := l.prog) (w := w) (mg := mg) (base := base) D_turning.fn
  have G_turning_order := ok_turning_order (P := l.prog) (w := w) (mg := mg) (base := base) D_turning_order.fn T D_turning G_turning
  have G_last_row := ok_last_row (P := l.prog) (w := w) (mg := mg) (base := base) D_last_row.fn D_turning_order G_turning_order
  have G__law_last_row := ok__law_last_row (P := l.prog) (w := w) (mg := mg) (base := base) D__law_last_row.fn T
  have G_row_place := ok_row_place (P := l.prog) (w := w) (mg := mg) (base := base) D_row_place.fn T D_turning G_turning
  have G__law_place := ok__law_place (P := l.prog) (w := w) (mg := mg) (base := base) D__law_place.fn T
  have G_steps_of := ok_steps_of (P := l.prog) (w := w) (mg := mg) (base := base) D_steps_of.fn T
  have G__law_steps := ok__law_steps (P := l.prog) (w := w) (mg := mg) (base := base) D__law_steps.fn T
  have G_turned_from := ok_turned_from (P := l.prog) (w := w) (mg := mg) (base := base) D_turned_from.fn T EX D_last_row G_last_row D_row_place G_row_place D_steps_of G_steps_of
  have G__law_back := ok__law_back (P := l.prog) (w := w) (mg := mg) (base := base) D__law_back.fn T D__law_last_row G__law_last_row D__law_steps G__law_steps D__law_place G__law_place
  have G__law_some_row := ok__law_some_row (P := l.prog) (w := w) (mg := mg) (base := base) D__law_some_row.fn D__law_take G__law_take D__law_word G__law_word D__law_last_row G__law_last_row
  exact ok_law (P := l.prog) (w := w) (mg := mg) (base := base) (f := fa) ⟨_, _, _, _, _, _, _, _, rfl, l_law, c_law⟩ TB T D_turning_order G_turning_order D_last_row G_last_row D_row_place G_row_place D_steps_of G_steps_of D_turned_from G_turned_from D__law_mill G__law_mill D__law_take G__law_take D__law_one G__law_one D__law_same G__law_same D__law_word G__law_word D__law_heard G__law_heard D__law_last_row G__law_last_row D__law_steps G__law_steps D__law_some_row G__law_some_row D__law_place G__law_place D__law_back G__law_back
end
end K62
end Pl
open PySem PySem.W PyProof.Rows in
set_option maxRecDepth 100000 in
set_option maxHeartbeats 0 in
theorem PySem.Challenge.cw_wordstems_k62_whole_sorted_turnings_holds : PySem.Challenge.rw_wordstems_k62_whole_sorted_turnings.Holds := by
  w_on; o_law; k_head; (case hw => w_witness2)
  k_fill
  refine Pl.walk_ofL (by decide +kernel) (l := PySem.Challenge.rw_wordstems_k62_whole_sorted_turnings) (x := "script") (k := 8) rfl rfl ⟨rfl, by decide, by decide⟩ (fun w h Y => PySem.W.km_in_of Y) "law" (by first | kernel_rfl | rfl | decide +kernel) ?F
  case F =>
    intro w mg fa h KX G hmg own
    refine' Pl.K62.all_mk KX G hmg ?a__law_take ?l__law_take ?c__law_take ?k__law_take ?a__law_heard ?l__law_heard ?c__law_heard ?k__law_heard ?a__law_mill ?l__law_mill ?c__law_mill ?k__law_mill ?a__law_grown ?l__law_grown ?c__law_grown ?k__law_grown ?a__law_one ?l__law_one ?c__law_one ?k__law_one ?a__law_word ?l__law_word ?c__law_word ?k__law_word ?a__law_same ?l__law_same ?c__law_same ?k__law_same ?a_turning ?l_turning ?c_turning ?k_turning ?a_turning_order ?l_turning_order ?c_turning_order ?k_turning_order ?a_last_row ?l_last_row ?c_last_row ?k_last_row ?a__law_last_row ?l__law_last_row ?c__law_last_row ?k__law_last_row ?a_row_place ?l_row_place ?c_row_place ?k_row_place ?a__law_place ?l__law_place ?c__law_place ?k__law_place ?a_steps_of ?l_steps_of ?c_steps_of ?k_steps_of ?a__law_steps ?l__law_steps ?c__law_steps ?k__law_steps ?a_turned_from ?l_turned_from ?c_turned_from ?k_turned_from ?a__law_back ?l__law_back ?c__law_back ?k__law_back ?a__law_some_row ?l__law_some_row ?c__law_some_row ?k__law_some_row ?a_law ?l_law ?c_law ?k_law ?y_cl ?y_11 ?y_hd ?y_no ?own ?z_abs ?z_enumerate ?z_int ?z_isinstance ?z_len ?z_max ?z_range ?z_repr ?z_sorted ?z_tuple ?ra_Unfit ?rlk_Unfit ?rve_Unfit ?rsa_Unfit ?rex_Unfit ?rty_Unfit ?rkC_Unfit ?riC_Unfit ?rtI_Unfit ?rlf_Unfit ?rco_Unfit ?rfi_Unfit ?rfs_Unfit ?rfq_Unfit ?rce_Unfit ?rse_Unfit ?rsu_Unfit ?rsV_Unfit ?rxf_Unfit ?rcl_Unfit ?rca_Unfit ?rmo_Unfit ?ra_TooMany ?rlk_TooMany ?rve_TooMany ?rsa_TooMany ?rex_TooMany ?rty_TooMany ?rkC_TooMany ?riC_TooMany ?rtI_TooMany ?rlf_TooMany ?rco_TooMany ?rfi_TooMany ?rfs_TooMany ?rfq_TooMany ?rce_TooMany ?rse_TooMany ?rsu_TooMany ?rsV_TooMany ?rxf_TooMany ?rcl_TooMany ?rca_TooMany ?rmo_TooMany ?rno_TooMany ?ra_WordError ?r_sp ?r_tk ?r_st ?r_su ?r_tp ?rk_Unfit_Unfit ?re_Unfit_Unfit ?rk_Unfit_TooMany ?re_Unfit_TooMany ?rk_Unfit_WordError ?re_Unfit_WordError ?rk_TooMany_Unfit ?re_TooMany_Unfit ?rk_TooMany_TooMany ?re_TooMany_TooMany ?rk_TooMany_WordError ?re_TooMany_WordError
    (case a__law_take => k_is)
    (case l__law_take => k_is)
    (case c__law_take => k_is)
    (case k__law_take => k_is)
    (case a__law_heard => k_is)
    (case l__law_heard => k_is)
    (case c__law_heard => k_is)
    (case k__law_heard => k_is)
    (case a__law_mill => k_is)
    (case l__law_mill => k_is)
    (case c__law_mill => k_is)
    (case k__law_mill => k_is)
    (case a__law_grown => k_is)
    (case l__law_grown => k_is)
    (case c__law_grown => k_is)
    (case k__law_grown => k_is)
    (case a__law_one => k_is)
    (case l__law_one => k_is)
    (case c__law_one => k_is)
    (case k__law_one => k_is)
    (case a__law_word => k_is)
    (case l__law_word => k_is)
    (case c__law_word => k_is)
    (case k__law_word => k_is)
    (case a__law_same => k_is)
    (case l__law_same => k_is)
    (case c__law_same => k_is)
    (case k__law_same => k_is)
    (case a_turning => k_is)
    (case l_turning => k_is)
    (case c_turning => k_is)
    (case k_turning => k_is)
    (case a_turning_order => k_is)
    (case l_turning_order => k_is)
    (case c_turning_order => k_is)
    (case k_turning_order => k_is)
    (case a_last_row => k_is)
    (case l_last_row => k_is)
    (case c_last_row => k_is)
    (case k_last_row => k_is)
    (case a__law_last_row => k_is)
    (case l__law_last_row => k_is)
    (case c__law_last_row => k_is)
    (case k__law_last_row => k_is)
    (case a_row_place => k_is)
    (case l_row_place => k_is)
    (case c_row_place => k_is)
    (case k_row_place => k_is)
    (case a__law_place => k_is)
    (case l__law_place => k_is)
    (case c__law_place => k_is)
    (case k__law_place => k_is)
    (case a_steps_of => k_is)
    (case l_steps_of => k_is)
    (case c_steps_of => k_is)
    (case k_steps_of => k_is)
    (case a__law_steps => k_is)
    (case l__law_steps => k_is)
    (case c__law_steps => k_is)
    (case k__law_steps => k_is)
    (case a_turned_from => k_is)
    (case l_turned_from => k_is)
    (case c_turned_from => k_is)
    (case k_turned_from => k_is)
    (case a__law_back => k_is)
    (case l__law_back => k_is)
    (case c__law_back => k_is)
    (case k__law_back => k_is)
    (case a__law_some_row => k_is)
    (case l__law_some_row => k_is)
    (case c__law_some_row => k_is)
    (case k__law_some_row => k_is)
    (case a_law => k_is)
    (case l_law => k_is)
    (case c_law => k_is)
    (case k_law => k_is)
    (case y_cl => first | k_is | rfl | decide +kernel | kernel_rfl)
    (case y_11 => first | k_is | rfl | decide +kernel | kernel_rfl)
    (case y_hd => first | k_is | rfl | decide +kernel | kernel_rfl)
    (case y_no => first | k_is | rfl | decide +kernel | kernel_rfl)
    (case own => exact own)
    (case z_abs => k_is)
    (case z_enumerate => k_is)
    (case z_int => k_is)
    (case z_isinstance => k_is)
    (case z_len => k_is)
    (case z_max => k_is)
    (case z_range => k_is)
    (case z_repr => k_is)
    (case z_sorted => k_is)
    (case z_tuple => k_is)
    (case ra_Unfit => first | k_is | rfl | decide +kernel | kernel_rfl)
    (case rlk_Unfit => first | k_is | rfl | decide +kernel | kernel_rfl)
    (case rve_Unfit => first | k_is | rfl | decide +kernel | kernel_rfl)
    (case rsa_Unfit => first | k_is | rfl | decide +kernel | kernel_rfl)
    (case rex_Unfit => first | k_is | rfl | decide +kernel | kernel_rfl)
    (case rty_Unfit => first | k_is | rfl | decide +kernel | kernel_rfl)
    (case rkC_Unfit => first | k_is | rfl | decide +kernel | kernel_rfl)
    (case riC_Unfit => first | k_is | rfl | decide +kernel | kernel_rfl)
    (case rtI_Unfit => first | k_is | rfl | decide +kernel | kernel_rfl)
    (case rlf_Unfit => first | k_is | rfl | decide +kernel | kernel_rfl)
    (case rco_Unfit => first | k_is | rfl | decide +kernel | kernel_rfl)
    (case rfi_Unfit => first | k_is | rfl | decide +kernel | kernel_rfl)
    (case rfs_Unfit => first | k_is | rfl | decide +kernel | kernel_rfl)
    (case rfq_Unfit => first | k_is | rfl | decide +kernel | kernel_rfl)
    (case rce_Unfit => first | k_is | rfl | decide +kernel | kernel_rfl)
    (case rse_Unfit => first | k_is | rfl | decide +kernel | kernel_rfl)
    (case rsu_Unfit => first | k_is | rfl | decide +kernel | kernel_rfl)
    (case rsV_Unfit => first | k_is | rfl | decide +kernel | kernel_rfl)
    (case rxf_Unfit => first | k_is | rfl | decide +kernel | kernel_rfl)
    (case rcl_Unfit => first | k_is | rfl | decide +kernel | kernel_rfl)
    (case rca_Unfit => first | k_is | rfl | decide +kernel | kernel_rfl)
    (case rmo_Unfit => first | k_is | rfl | decide +kernel | kernel_rfl)
    (case ra_TooMany => first | k_is | rfl | decide +kernel | kernel_rfl)
    (case rlk_TooMany => first | k_is | rfl | decide +kernel | kernel_rfl)
    (case rve_TooMany => first | k_is | rfl | decide +kernel | kernel_rfl)
    (case rsa_TooMany => first | k_is | rfl | decide +kernel | kernel_rfl)
    (case rex_TooMany => first | k_is | rfl | decide +kernel | kernel_rfl)
    (case rty_TooMany => first | k_is | rfl | decide +kernel | kernel_rfl)
    (case rkC_TooMany => first | k_is | rfl | decide +kernel | kernel_rfl)
    (case riC_TooMany => first | k_is | rfl | decide +kernel | kernel_rfl)
    (case rtI_TooMany => first | k_is | rfl | decide +kernel | kernel_rfl)
    (case rlf_TooMany => first | k_is | rfl | decide +kernel | kernel_rfl)
    (case rco_TooMany => first | k_is | rfl | decide +kernel | kernel_rfl)
    (case rfi_TooMany => first | k_is | rfl | decide +kernel | kernel_rfl)
    (case rfs_TooMany => first | k_is | rfl | decide +kernel | kernel_rfl)
    (case rfq_TooMany => first | k_is | rfl | decide +kernel | kernel_rfl)
    (case rce_TooMany => first | k_is | rfl | decide +kernel | kernel_rfl)
    (case rse_TooMany => first | k_is | rfl | decide +kernel | kernel_rfl)
    (case rsu_TooMany => first | k_is | rfl | decide +kernel | kernel_rfl)
    (case rsV_TooMany => first | k_is | rfl | decide +kernel | kernel_rfl)
    (case rxf_TooMany => first | k_is | rfl | decide +kernel | kernel_rfl)
    (case rcl_TooMany => first | k_is | rfl | decide +kernel | kernel_rfl)
    (case rca_TooMany => first | k_is | rfl | decide +kernel | kernel_rfl)
    (case rmo_TooMany => first | k_is | rfl | decide +kernel | kernel_rfl)
    (case rno_TooMany => first | k_is | rfl | decide +kernel | kernel_rfl)
    (case ra_WordError => first | k_is | rfl | decide +kernel | kernel_rfl)
    (case r_sp => first | k_is | rfl | decide +kernel | kernel_rfl)
    (case r_tk => first | k_is | rfl | decide +kernel | kernel_rfl)
    (case r_st => first | k_is | rfl | decide +kernel | kernel_rfl)
    (case r_su => first | k_is | rfl | decide +kernel | kernel_rfl)
    (case r_tp => first | k_is | rfl | decide +kernel | kernel_rfl)
    (case rk_Unfit_Unfit => first | k_is | rfl | decide +kernel | kernel_rfl)
    (case re_Unfit_Unfit => first | k_is | rfl | decide +kernel | kernel_rfl)
    (case rk_Unfit_TooMany => first | k_is | rfl | decide +kernel | kernel_rfl)
    (case re_Unfit_TooMany => first | k_is | rfl | decide +kernel | kernel_rfl)
    (case rk_Unfit_WordError => first | k_is | rfl | decide +kernel | kernel_rfl)
    (case re_Unfit_WordError => first | k_is | rfl | decide +kernel | kernel_rfl)
    (case rk_TooMany_Unfit => first | k_is | rfl | decide +kernel | kernel_rfl)
    (case re_TooMany_Unfit => first | k_is | rfl | decide +kernel | kernel_rfl)
    (case rk_TooMany_TooMany => first | k_is | rfl | decide +kernel | kernel_rfl)
    (case re_TooMany_TooMany => first | k_is | rfl | decide +kernel | kernel_rfl)
    (case rk_TooMany_WordError => first | k_is | rfl | decide +kernel | kernel_rfl)
    (case re_TooMany_WordError => first | k_is | rfl | decide +kernel | kernel_rfl)
