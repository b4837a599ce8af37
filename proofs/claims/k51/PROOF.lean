import PyProof.Rows.All
import Wide.All
import OpenK.AllK
import Wide.FinOn
import HandS.ForMost
import HandS.ForExc
import HandS.Wide
import HandS.Gcd
import HandS.IsInst
import HandS.ExcIs
import HandS.TupLe
import HandS.TupMul
import HandS.TupAny
import HandS.Style
import HandS.NoneIn
import HandS.Deep
import HandS.Zip
import HandS.Flt
import HandS.SortInts
import HandS.Conv
import HandS.Dict
import HandS.Small
import PySem.Challenge.RW_coneroom_k51_orders_of_tables
set_option Elab.async false
set_option linter.all false
set_option maxRecDepth 100000
set_option maxHeartbeats 4000000

namespace PF
open PySem PySem.Spec PyProof.Rows L2

/-! ## data -/
inductive D where
  | non | bl (b : Bool) | int (i : Int) | str (x : Str)
  | tup (xs : List D) | lst (xs : List D) | klst (xs : List D)
  | obj (C : Str) (fs : List (Str × D))

mutual
inductive Rep (K : PySem.W.Frag) (cl : Str → Option Addr) (F : Hp) : V → D → Prop
  | non : Rep K cl F .non .non
  | bl (b : Bool) : Rep K cl F (.bl b) (.bl b)
  | int (i : Int) : Rep K cl F (.int i) (.int i)
  | str (x : Str) : Rep K cl F (.str x) (.str x)
  | tup {a : Addr} {vs : List V} {ds : List D} : SqT K F a vs → RepL K cl F vs ds → Rep K cl F (.ref a) (.tup ds)
  | lst {a : Addr} {vs : List V} {ds : List D} : Rd F a (.lst vs) → RepL K cl F vs ds → Rep K cl F (.ref a) (.lst ds)
  | klst {a : Addr} {vs : List V} {ds : List D} : SqL K F a vs → RepL K cl F vs ds → Rep K cl F (.ref a) (.klst ds)
  | obj {a C dx : Addr} {n : Str} {vs : List (Str × V)} {ds : List (Str × D)} : cl n = some C → F a = some (.ins C dx vs) → RepF K cl F vs ds → Rep K cl F (.ref a) (.obj n ds)
inductive RepL (K : PySem.W.Frag) (cl : Str → Option Addr) (F : Hp) : List V → List D → Prop
  | nil : RepL K cl F [] []
  | cons {v : V} {vs : List V} {d : D} {ds : List D} : Rep K cl F v d → RepL K cl F vs ds → RepL K cl F (v :: vs) (d :: ds)
inductive RepF (K : PySem.W.Frag) (cl : Str → Option Addr) (F : Hp) : List (Str × V) → List (Str × D) → Prop
  | nil : RepF K cl F [] []
  | cons {x : Str} {v : V} {vs : List (Str × V)} {d : D} {ds : List (Str × D)} : Rep K cl F v d → RepF K cl F vs ds → RepF K cl F ((x, v) :: vs) ((x, d) :: ds)
end

section
variable {K : PySem.W.Frag} {cl : Str → Option Addr} {F F' H : Hp}

theorem sqT_mono (h : ∀ a o, F a = some o → F' a = some o) {a : Addr} {xs : List V} (q : SqT K F a xs) : SqT K F' a xs := by
  rcases q with (q | ⟨o, q⟩) | q
  · exact .inl (.inl (h _ _ q))
  · exact .inl (.inr ⟨o, h _ _ q⟩)
  · exact .inr q
theorem sqL_mono (h : ∀ a o, F a = some o → F' a = some o) {a : Addr} {xs : List V} (q : SqL K F a xs) : SqL K F' a xs := by
  rcases q with (q | ⟨o, q⟩) | q
  · exact .inl (.inl (h _ _ q))
  · exact .inl (.inr ⟨o, h _ _ q⟩)
  · exact .inr q

theorem rd_mono (h : ∀ a o, F a = some o → F' a = some o) {a : Addr} {u : HO} (q : Rd F a u) : Rd F' a u := by
  rcases q with q | ⟨o, q⟩
  · exact .inl (h _ _ q)
  · exact .inr ⟨o, h _ _ q⟩
mutual
theorem Rep.mono (h : ∀ a o, F a = some o → F' a = some o) : ∀ {v : V} {d : D}, Rep K cl F v d → Rep K cl F' v d
  | _, _, .non => .non
  | _, _, .bl b => .bl b
  | _, _, .int i => .int i
  | _, _, .str x => .str x
  | _, _, .tup q r => .tup (sqT_mono h q) (RepL.mono h r)
  | _, _, .lst q r => .lst (rd_mono h q) (RepL.mono h r)
  | _, _, .klst q r => .klst (sqL_mono h q) (RepL.mono h r)
  | _, _, .obj e q r => .obj e (h _ _ q) (RepF.mono h r)
theorem RepL.mono (h : ∀ a o, F a = some o → F' a = some o) : ∀ {vs : List V} {ds : List D}, RepL K cl F vs ds → RepL K cl F' vs ds
  | _, _, .nil => .nil
  | _, _, .cons r t => .cons (Rep.mono h r) (RepL.mono h t)
theorem RepF.mono (h : ∀ a o, F a = some o → F' a = some o) : ∀ {vs : List (Str × V)} {ds : List (Str × D)}, RepF K cl F vs ds → RepF K cl F' vs ds
  | _, _, .nil => .nil
  | _, _, .cons r t => .cons (Rep.mono h r) (RepF.mono h t)
end
theorem RepL.length : ∀ {vs : List V} {ds : List D}, RepL K cl F vs ds → vs.length = ds.length
  | _, _, .nil => rfl
  | _, _, .cons _ t => by simp [RepL.length t]
theorem RepL.get : ∀ {vs : List V} {ds : List D} {i : Nat} {d : D}, RepL K cl F vs ds → ds[i]? = some d → ∃ v, vs[i]? = some v ∧ Rep K cl F v d
  | _, _, _, _, .nil, e => by simp at e
  | _, _, 0, _, .cons r _, e => by simp at e; subst e; exact ⟨_, rfl, r⟩
  | _, _, i + 1, _, .cons _ t, e => by
    obtain ⟨v, h1, h2⟩ := RepL.get (i := i) t (by simpa using e)
    exact ⟨v, by simpa using h1, h2⟩
theorem RepL.get' : ∀ {vs : List V} {ds : List D} {i : Nat} {v : V}, RepL K cl F vs ds → vs[i]? = some v → ∃ d, ds[i]? = some d ∧ Rep K cl F v d
  | _, _, _, _, .nil, e => by simp at e
  | _, _, 0, _, .cons r _, e => by simp at e; subst e; exact ⟨_, rfl, r⟩
  | _, _, i + 1, _, .cons _ t, e => by
    obtain ⟨v, h1, h2⟩ := RepL.get' (i := i) t (by simpa using e)
    exact ⟨v, by simpa using h1, h2⟩
theorem RepL.append : ∀ {vs ws : List V} {ds es : List D}, RepL K cl F vs ds → RepL K cl F ws es → RepL K cl F (vs ++ ws) (ds ++ es)
  | _, _, _, _, .nil, s => s
  | _, _, _, _, .cons r t, s => .cons r (RepL.append t s)
theorem RepL.set : ∀ {vs : List V} {ds : List D} {v : V} {d : D} (i : Nat), RepL K cl F vs ds → Rep K cl F v d → RepL K cl F (vs.set i v) (ds.set i d)
  | _, _, _, _, _, .nil, _ => .nil
  | _, _, _, _, 0, .cons _ t, r => .cons r t
  | _, _, _, _, i + 1, .cons q t, r => .cons q (RepL.set i t r)
theorem RepL.take : ∀ {vs : List V} {ds : List D} (n : Nat), RepL K cl F vs ds → RepL K cl F (vs.take n) (ds.take n)
  | _, _, 0, _ => by simp; exact .nil
  | _, _, _ + 1, .nil => .nil
  | _, _, n + 1, .cons r t => .cons r (RepL.take n t)
theorem RepL.drop : ∀ {vs : List V} {ds : List D} (n : Nat), RepL K cl F vs ds → RepL K cl F (vs.drop n) (ds.drop n)
  | _, _, 0, r => r
  | _, _, _ + 1, .nil => .nil
  | _, _, n + 1, .cons _ t => RepL.drop n t
theorem RepL.dropLast {vs : List V} {ds : List D} (r : RepL K cl F vs ds) : RepL K cl F vs.dropLast ds.dropLast := by
  rw [List.dropLast_eq_take, List.dropLast_eq_take, r.length]
  exact r.take _
theorem RepF.lookup : ∀ {vs : List (Str × V)} {ds : List (Str × D)} {x : Str} {d : D}, RepF K cl F vs ds → ds.lookup x = some d → ∃ v, vs.lookup x = some v ∧ Rep K cl F v d
  | _, _, _, _, .nil, e => by simp at e
  | (y, v) :: vs, _, x, d, .cons r t, e => by
    rw [List.lookup_cons] at e ⊢
    cases hb : x == y with
    | true => rw [hb] at e; simp at e; subst e; exact ⟨_, rfl, r⟩
    | false => rw [hb] at e; exact RepF.lookup t e
theorem RepF.lookup_none : ∀ {vs : List (Str × V)} {ds : List (Str × D)} {x : Str}, RepF K cl F vs ds → ds.lookup x = none → vs.lookup x = none
  | _, _, _, .nil, e => by simp
  | (y, v) :: vs, _, x, .cons r t, e => by
    rw [List.lookup_cons] at e ⊢
    cases hb : x == y with
    | true => rw [hb] at e; simp at e
    | false => rw [hb] at e; exact RepF.lookup_none t e
theorem RepL.map_int : ∀ {vs : List V} {ns : List Int}, RepL K cl F vs (ns.map D.int) → vs = ns.map V.int
  | _, [], .nil => rfl
  | _, _ :: _, .cons (.int _) t => by rw [List.map_cons, RepL.map_int t]
theorem RepL.map_bl : ∀ {vs : List V} {ns : List Bool}, RepL K cl F vs (ns.map D.bl) → vs = ns.map V.bl
  | _, [], .nil => rfl
  | _, _ :: _, .cons (.bl _) t => by rw [List.map_cons, RepL.map_bl t]
theorem RepL.of_ints : ∀ (ns : List Int), RepL K cl F (ns.map V.int) (ns.map D.int)
  | [] => .nil
  | n :: ns => .cons (.int n) (RepL.of_ints ns)
end

/-! ## tables: keys ints, values that stay -/
inductive RepK (K : PySem.W.Frag) (cl : Str → Option Addr) (F : Hp) : List (Key × V) → List (Int × D) → Prop
  | nil : RepK K cl F [] []
  | cons {i : Int} {v : V} {d : D} {ks : List (Key × V)} {kvs : List (Int × D)} : Rep K cl F v d → RepK K cl F ks kvs → RepK K cl F ((.inl i, v) :: ks) ((i, d) :: kvs)
section
variable {K : PySem.W.Frag} {cl : Str → Option Addr} {F F' H : Hp}
theorem RepK.mono (h : ∀ a o, F a = some o → F' a = some o) : ∀ {ks : List (Key × V)} {kvs : List (Int × D)}, RepK K cl F ks kvs → RepK K cl F' ks kvs
  | _, _, .nil => .nil
  | _, _, .cons r t => .cons (r.mono h) (RepK.mono h t)
theorem RepK.length : ∀ {ks : List (Key × V)} {kvs : List (Int × D)}, RepK K cl F ks kvs → ks.length = kvs.length
  | _, _, .nil => rfl
  | _, _, .cons _ t => by simp [RepK.length t]
theorem RepK.miss : ∀ {ks : List (Key × V)} {kvs : List (Int × D)} {n : Int}, RepK K cl F ks kvs → kvs.lookup n = none → valV ks (.inl n) = none
  | _, _, _, .nil, _ => rfl
  | (_, v) :: ks, (i, d) :: kvs, n, .cons r t, e => by
    rw [List.lookup_cons] at e
    by_cases h : i = n
    · subst h; simp at e
    · have hb : (n == i) = false := beq_eq_false_iff_ne.mpr (Ne.symm h)
      rw [hb] at e
      rw [valV_neg (fun z => h (Sum.inl.inj z))]
      exact RepK.miss t e
theorem RepK.hit : ∀ {ks : List (Key × V)} {kvs : List (Int × D)} {n : Int} {d : D}, RepK K cl F ks kvs → kvs.lookup n = some d → ∃ v, valV ks (.inl n) = some v ∧ Rep K cl F v d
  | _, _, _, _, .nil, e => by simp at e
  | (_, v) :: ks, (i, d) :: kvs, n, d', .cons r t, e => by
    rw [List.lookup_cons] at e
    by_cases h : i = n
    · subst h; simp at e; subst e; exact ⟨v, valV_pos rfl, r⟩
    · have hb : (n == i) = false := beq_eq_false_iff_ne.mpr (Ne.symm h)
      rw [hb] at e
      rw [valV_neg (fun z => h (Sum.inl.inj z))]
      exact RepK.hit t e
theorem RepK.snoc {i : Int} {v : V} {d : D} (r : Rep K cl F v d) : ∀ {ks : List (Key × V)} {kvs : List (Int × D)}, RepK K cl F ks kvs → RepK K cl F (ks ++ [(.inl i, v)]) (kvs ++ [(i, d)])
  | _, _, .nil => .cons r .nil
  | _, _, .cons q t => .cons q (RepK.snoc r t)
theorem RepK.get : ∀ {ks : List (Key × V)} {kvs : List (Int × D)} {j : Nat} {k : Key} {v : V}, RepK K cl F ks kvs → ks[j]? = some (k, v) → ∃ i d, kvs[j]? = some (i, d) ∧ k = .inl i
  | _, _, _, _, _, .nil, e => by simp at e
  | _, _, 0, _, _, .cons r t, e => by simp at e; obtain ⟨e1, e2⟩ := e; subst e1 e2; exact ⟨_, _, rfl, rfl⟩
  | _, _, j + 1, _, _, .cons r t, e => by
    obtain ⟨i, d, h1, h2⟩ := RepK.get (j := j) t (by simpa using e)
    exact ⟨i, d, by simpa using h1, h2⟩
/-- what is read stays, locked or not -/
structure RdLe (F F' : Hp) : Prop where
  rd : ∀ a u, (∀ o x, u ≠ .frz o x) → Rd F a u → Rd F' a u
  ins : ∀ a C dx fs, F a = some (.ins C dx fs) → F' a = some (.ins C dx fs)
theorem RdLe.ls (h : RdLe F F') {a : Addr} {vs : List V} (q : Rd F a (.lst vs)) : Rd F' a (.lst vs) := h.rd _ _ (fun _ _ z => nomatch z) q
theorem RdLe.tp (h : RdLe F F') {a : Addr} {vs : List V} (q : SqT K F a vs) : SqT K F' a vs := q.elim (fun q => .inl (h.rd _ _ (fun _ _ z => nomatch z) q)) .inr
theorem RdLe.kl (h : RdLe F F') {a : Addr} {vs : List V} (q : SqL K F a vs) : SqL K F' a vs := q.elim (fun q => .inl (h.rd _ _ (fun _ _ z => nomatch z) q)) .inr
mutual
theorem Rep.le (h : RdLe F F') : ∀ {v : V} {d : D}, Rep K cl F v d → Rep K cl F' v d
  | _, _, .non => .non
  | _, _, .bl b => .bl b
  | _, _, .int i => .int i
  | _, _, .str x => .str x
  | _, _, .tup q r => .tup (h.tp q) (RepL.le h r)
  | _, _, .lst q r => .lst (h.ls q) (RepL.le h r)
  | _, _, .klst q r => .klst (h.kl q) (RepL.le h r)
  | _, _, .obj e q r => .obj e (h.ins _ _ _ _ q) (RepF.le h r)
theorem RepL.le (h : RdLe F F') : ∀ {vs : List V} {ds : List D}, RepL K cl F vs ds → RepL K cl F' vs ds
  | _, _, .nil => .nil
  | _, _, .cons r t => .cons (Rep.le h r) (RepL.le h t)
theorem RepF.le (h : RdLe F F') : ∀ {vs : List (Str × V)} {ds : List (Str × D)}, RepF K cl F vs ds → RepF K cl F' vs ds
  | _, _, .nil => .nil
  | _, _, .cons r t => .cons (Rep.le h r) (RepF.le h t)
end
theorem RepK.le (h : RdLe F F') : ∀ {ks : List (Key × V)} {kvs : List (Int × D)}, RepK K cl F ks kvs → RepK K cl F' ks kvs
  | _, _, .nil => .nil
  | _, _, .cons r t => .cons (r.le h) (RepK.le h t)
end

/-! ## slots -/
inductive Sl where
  | no | fz (d : D) | own (k : Nat) (ds : List D) | own2 (dss : List (List D)) | ob (C : Str) (fs : List (Str × D)) | dic (kvs : List (Int × D)) | dicF (kvs : List (Int × D))
abbrev En := List Sl

section
variable (K : PySem.W.Frag) (cl : Str → Option Addr) (B : List Addr)
inductive Rows2 (F H : Hp) : List Addr → List (List D) → Prop
  | nil : Rows2 F H [] []
  | cons {b : Addr} {bs : List Addr} {ds : List D} {dss : List (List D)} {vs : List V} : F b = none → H b = some (.lst vs) → RepL K cl F vs ds → Rows2 F H bs dss → Rows2 F H (b :: bs) (ds :: dss)
def RepS (F H : Hp) (v : Option V) (as : List Addr) : Sl → Prop
  | .no => as = []
  | .fz d => as = [] ∧ ∃ x, v = some x ∧ Rep K cl F x d
  | .own k ds => ∃ a vs, v = some (.ref a) ∧ as = [a] ∧ F a = none ∧ H a = some (.lst vs) ∧ RepL K cl F vs ds ∧ (∀ j, k = j + 1 → B[j]? = some a)
  | .own2 dss => ∃ a bs, v = some (.ref a) ∧ as = a :: bs ∧ F a = none ∧ H a = some (.lst (bs.map V.ref)) ∧ Rows2 K cl F H bs dss
  | .ob C fs => ∃ a Ca dx vs, v = some (.ref a) ∧ as = [a] ∧ F a = none ∧ cl C = some Ca ∧ H a = some (.ins Ca dx vs) ∧ RepF K cl F vs fs ∧ B[0]? = some a
  | .dic kvs => ∃ a ks, v = some (.ref a) ∧ as = [a] ∧ F a = none ∧ H a = some (.dK ks) ∧ RepK K cl F ks kvs
  | .dicF kvs => as = [] ∧ ∃ a ks, v = some (.ref a) ∧ Rd F a (.dK ks) ∧ RepK K cl F ks kvs
structure SOk (F H : Hp) (σ : L2.St) (env : En) (A : List (List Addr)) : Prop where
  sub : ∀ a o, F a = some o → H a = some o
  len : env.length = σ.length
  lenA : A.length = σ.length
  slot : ∀ (i : Nat) (sl : Sl) (v : Option V) (as : List Addr), env[i]? = some sl → σ[i]? = some v → A[i]? = some as → RepS K cl B F H v as sl
  nd : A.flatten.Nodup
  fr : ∀ a ∈ A.flatten, F a = none
  tr : ∀ a ∈ A.flatten, H a ≠ none
end
structure Gr (F H : Hp) (A : List (List Addr)) (F' H' : Hp) (A' : List (List Addr)) : Prop where
  fr : ∀ a o, F a = some o → F' a = some o
  keep : ∀ a o, H a = some o → a ∉ A.flatten → H' a = some o
  new : ∀ a, F' a ≠ none → F a ≠ none ∨ H a = none ∨ a ∈ A.flatten
  own : ∀ a ∈ A'.flatten, a ∈ A.flatten ∨ H a = none
  stay : ∀ a, H a ≠ none → H' a ≠ none
  nf : ∀ a o u, F' a = some (.frz o u) → F a ≠ none
theorem Gr.refl (F H : Hp) (A : List (List Addr)) : Gr F H A F H A := ⟨fun _ _ h => h, fun _ _ h _ => h, fun _ h => .inl h, fun _ h => .inl h, fun _ h => h, fun _ _ _ h => by rw [h]; exact fun z => nomatch z⟩
theorem Gr.trans {F H A F1 H1 A1 F2 H2 A2} (a : Gr F H A F1 H1 A1) (b : Gr F1 H1 A1 F2 H2 A2) : Gr F H A F2 H2 A2 where
  fr := fun x o h => b.fr x o (a.fr x o h)
  keep := fun x o h n => b.keep x o (a.keep x o h n) fun m => by
    rcases a.own x m with q | q
    · exact n q
    · rw [h] at q; cases q
  new := fun x h => by
    rcases b.new x h with q | q | q
    · exact a.new x q
    · refine .inr (.inl ?_)
      cases e : H x with
      | none => rfl
      | some o => exact absurd q (a.stay x (by rw [e]; exact fun z => nomatch z))
    · rcases a.own x q with q | q
      · exact .inr (.inr q)
      · exact .inr (.inl q)
  own := fun x h => by
    rcases b.own x h with q | q
    · exact a.own x q
    · refine .inr ?_
      cases e : H x with
      | none => rfl
      | some o => exact absurd q (a.stay x (by rw [e]; exact fun z => nomatch z))
  stay := fun x h => b.stay x (a.stay x h)
  nf := fun x o u h => by
    have h1 := b.nf x o u h
    cases e : F1 x with
    | none => exact absurd e h1
    | some o' =>
      have h2 := b.fr x o' e
      rw [h] at h2
      cases h2
      exact a.nf x o u e

/-! ## what an expression gives -/
inductive Ev where
  | d (d : D) | vw (i : Nat) | nw (ds : List D) | nw2 (dss : List (List D))
section
variable (K : PySem.W.Frag) (cl : Str → Option Addr) (B : List Addr)
/-- Hb: the heap at the expression's start -/
def RepE (Hb F H : Hp) (σ : L2.St) (env : En) (A : List (List Addr)) (v : V) : Ev → Prop
  | .d d => Rep K cl F v d
  | .vw i => σ[i]? = some (some v)
  | .nw ds => ∃ a vs, v = .ref a ∧ F a = none ∧ H a = some (.lst vs) ∧ RepL K cl F vs ds ∧ a ∉ A.flatten ∧ Hb a = none
  | .nw2 dss => ∃ a bs, v = .ref a ∧ F a = none ∧ H a = some (.lst (bs.map V.ref)) ∧ a ∉ A.flatten ∧ (a :: bs).Nodup ∧ (∀ b ∈ bs, b ∉ A.flatten) ∧ Rows2 K cl F H bs dss ∧ (∀ b ∈ a :: bs, Hb b = none)
end
def peek (env : En) : Ev → Option D
  | .d d => some d
  | .vw i => match env[i]? with
    | some (.fz d) => some d
    | some (.own _ ds) => some (.lst ds)
    | _ => none
  | .nw ds => some (.lst ds)
  | .nw2 _ => none
/-- a value that may be looked at: frozen, or a list that stands now -/
def RepP (K : PySem.W.Frag) (cl : Str → Option Addr) (F H : Hp) (v : V) (d : D) : Prop :=
  Rep K cl F v d ∨ ∃ a vs ds, v = .ref a ∧ d = .lst ds ∧ H a = some (.lst vs) ∧ RepL K cl F vs ds

section
variable {K : PySem.W.Frag} {cl : Str → Option Addr} {B : List Addr} {Hb F H F' H' : Hp} {σ : L2.St} {env env' : En} {A A' : List (List Addr)} {v : V} {e : Ev} {d : D}
theorem SOk.at (ok : SOk K cl B F H σ env A) {i : Nat} {sl : Sl} (he : env[i]? = some sl) : ∃ v as, σ[i]? = some v ∧ A[i]? = some as ∧ RepS K cl B F H v as sl := by
  have hi : i < env.length := (List.getElem?_eq_some_iff.mp he).1
  have h1 : i < σ.length := by rw [← ok.len]; exact hi
  have h2 : i < A.length := by rw [ok.lenA]; exact h1
  exact ⟨σ[i], A[i], List.getElem?_eq_getElem h1, List.getElem?_eq_getElem h2, ok.slot i _ _ _ he (List.getElem?_eq_getElem h1) (List.getElem?_eq_getElem h2)⟩
theorem peek_ok (ok : SOk K cl B F H σ env A) (r : RepE K cl Hb F H σ env A v e) (p : peek env e = some d) : RepP K cl F H v d := by
  cases e with
  | d x => simp only [peek, Option.some.injEq] at p; subst p; exact .inl r
  | vw i =>
    simp only [peek] at p
    have hs : σ[i]? = some (some v) := r
    split at p
    · rename_i x he
      simp only [Option.some.injEq] at p; subst p
      obtain ⟨w, as, h1, h2, e1, y, e2, e3⟩ := ok.at he
      rw [hs] at h1
      simp only [Option.some.injEq] at h1
      subst h1
      simp only [Option.some.injEq] at e2
      subst e2
      exact .inl e3
    · rename_i k ds he
      simp only [Option.some.injEq] at p; subst p
      obtain ⟨w, as, h1, h2, a, vs, e1, _, _, e4, e5, _⟩ := ok.at he
      rw [hs] at h1
      simp only [Option.some.injEq] at h1
      subst h1
      simp only [Option.some.injEq] at e1
      exact .inr ⟨a, vs, ds, e1, rfl, e4, e5⟩
    · cases p
  | nw ds =>
    simp only [peek, Option.some.injEq] at p; subst p
    obtain ⟨a, vs, e1, _, e3, e4, _, _⟩ := r
    exact .inr ⟨a, vs, ds, e1, rfl, e3, e4⟩
  | nw2 dss => simp [peek] at p
/-- what has been reckoned stays while more is reckoned -/
theorem Rows2.mono {bs : List Addr} {dss : List (List D)} (h1 : ∀ a o, F a = some o → F' a = some o) (h2 : ∀ b ∈ bs, F b = none → F' b = none) (h3 : ∀ b ∈ bs, ∀ o, H b = some o → H' b = some o) : Rows2 K cl F H bs dss → Rows2 K cl F' H' bs dss := by
  intro r
  induction r with
  | nil => exact .nil
  | cons a b c t ih => exact .cons (h2 _ List.mem_cons_self a) (h3 _ List.mem_cons_self _ b) (c.mono h1) (ih (fun x m => h2 x (List.mem_cons_of_mem _ m)) fun x m => h3 x (List.mem_cons_of_mem _ m))
theorem Rows2.there {bs : List Addr} {dss : List (List D)} (r : Rows2 K cl F H bs dss) : ∀ b ∈ bs, F b = none ∧ H b ≠ none := by
  induction r with
  | nil => intro b m; cases m
  | cons a b c t ih =>
    intro x m
    rcases List.mem_cons.mp m with e | m
    · subst e; exact ⟨a, by rw [b]; exact fun z => nomatch z⟩
    · exact ih x m
theorem Gr.fresh (g : Gr F H A F' H' A') {a : Addr} (h1 : F a = none) (h2 : H a ≠ none) (h3 : a ∉ A.flatten) : F' a = none ∧ a ∉ A'.flatten := by
  refine ⟨?_, fun m => ?_⟩
  · cases e : F' a with
    | none => rfl
    | some o =>
      rcases g.new a (by rw [e]; exact fun z => nomatch z) with q | q | q
      · exact absurd h1 q
      · exact absurd q h2
      · exact absurd q h3
  · rcases g.own a m with q | q
    · exact h3 q
    · exact h2 q
theorem RepE.keep (g : Gr F H A F' H' A') (r : RepE K cl Hb F H σ env A v e) : RepE K cl Hb F' H' σ env' A' v e := by
  cases e with
  | d x => exact Rep.mono g.fr r
  | vw i => exact r
  | nw ds =>
    obtain ⟨a, vs, e1, e2, e3, e4, e5, e6⟩ := r
    obtain ⟨q1, q2⟩ := g.fresh e2 (by rw [e3]; exact fun z => nomatch z) e5
    exact ⟨a, vs, e1, q1, g.keep a _ e3 e5, e4.mono g.fr, q2, e6⟩
  | nw2 dss =>
    obtain ⟨a, bs, e1, e2, e3, e5, e6, e7, e8, e9⟩ := r
    obtain ⟨q1, q2⟩ := g.fresh e2 (by rw [e3]; exact fun z => nomatch z) e5
    have th := e8.there
    exact ⟨a, bs, e1, q1, g.keep a _ e3 e5, q2, e6, fun b m => (g.fresh (th b m).1 (th b m).2 (e7 b m)).2, e8.mono g.fr (fun b m h => (g.fresh h (th b m).2 (e7 b m)).1) fun b m o h => g.keep b o h (e7 b m), e9⟩
theorem RepE.base {Hc : Hp} (h : ∀ a, Hb a ≠ none → Hc a ≠ none) (r : RepE K cl Hc F H σ env A v e) : RepE K cl Hb F H σ env A v e := by
  have k : ∀ a, Hc a = none → Hb a = none := fun a q => by
    cases z : Hb a with
    | none => rfl
    | some o => exact absurd q (h a (by rw [z]; exact fun z => nomatch z))
  cases e with
  | d x => exact r
  | vw i => exact r
  | nw ds =>
    obtain ⟨a, vs, e1, e2, e3, e4, e5, e6⟩ := r
    exact ⟨a, vs, e1, e2, e3, e4, e5, k _ e6⟩
  | nw2 dss =>
    obtain ⟨a, bs, e1, e2, e3, e5, e6, e7, e8, e9⟩ := r
    exact ⟨a, bs, e1, e2, e3, e5, e6, e7, e8, fun b m => k _ (e9 b m)⟩
end
end PF

set_option Elab.async false
set_option linter.all false
set_option maxRecDepth 100000
set_option maxHeartbeats 1000000
namespace SrtT
open PySem PySem.Spec PyProof.Rows L2 SrtO
abbrev I3 := Int × Int × Int
def lex3 (p q : I3) : Bool := if p.1 = q.1 then (if p.2.1 = q.2.1 then decide (p.2.2 < q.2.2) else decide (p.2.1 < q.2.1)) else decide (p.1 < q.1)
theorem lex3_iff {p q : I3} : lex3 p q = true ↔ p.1 < q.1 ∨ (p.1 = q.1 ∧ (p.2.1 < q.2.1 ∨ (p.2.1 = q.2.1 ∧ p.2.2 < q.2.2))) := by
  unfold lex3
  by_cases e : p.1 = q.1
  · rw [if_pos e]
    by_cases e2 : p.2.1 = q.2.1
    · rw [if_pos e2, decide_eq_true_eq]; omega
    · rw [if_neg e2, decide_eq_true_eq]; omega
  · rw [if_neg e, decide_eq_true_eq]; omega
theorem lex3_no {p q : I3} : lex3 p q = false ↔ ¬ (p.1 < q.1 ∨ (p.1 = q.1 ∧ (p.2.1 < q.2.1 ∨ (p.2.1 = q.2.1 ∧ p.2.2 < q.2.2)))) := by
  rw [← lex3_iff]
  cases lex3 p q <;> simp
theorem swo_lex3 (k : Value → I3) : Swo fun v u => lex3 (k v) (k u) := by
  refine ⟨fun x y h => ?_, fun x y z h1 h2 => ?_⟩
  · have a := lex3_iff.mp h
    refine lex3_no.mpr ?_
    omega
  · have a := lex3_no.mp h1
    have b := lex3_no.mp h2
    refine lex3_no.mpr ?_
    omega
def IsTrip (h : Heap) (v : Value) (x : I3) : Prop := ∃ a o t u w n, v = .ref a ∧ h.get? a = some o ∧ o.cls = .type "tuple" ∧ o.data = .seq #[.int x.1 t, .int x.2.1 u, .int x.2.2 w] n
theorem IsTrip.keeps {h h' : Heap} {v : Value} {x : I3} (p : IsTrip h v x) (k : ∀ b o, h.get? b = some o → o.cls = .type "tuple" → h'.get? b = some o) : IsTrip h' v x := by
  obtain ⟨a, o, t, u, w, n, e, ho, hc, hd⟩ := p
  exact ⟨a, o, t, u, w, n, e, k _ _ ho hc, hc, hd⟩
theorem firsts3 {h : Heap} : ∀ {vs : List Value}, (∀ v ∈ vs, ∃ x, IsTrip h v x) → ∃ fs : List Value, PySem.W.KatTups h vs fs ∧ fs.length = vs.length ∧ ∀ f ∈ fs, ∃ x t, f = Value.int x t
  | [], _ => ⟨[], PySem.W.KatTups.nil, rfl, fun _ hm => by simp at hm⟩
  | v :: vs, hp => by
    obtain ⟨fs, h1, h2, h3⟩ := firsts3 (vs := vs) fun v' hm => hp v' (List.mem_cons_of_mem _ hm)
    obtain ⟨x, a, o, t, u, w, n, e, ho, hc, hd⟩ := hp v (List.mem_cons_self ..)
    subst e
    refine ⟨.int x.1 t :: fs, PySem.W.KatTups.cons ho hc hd rfl h1, by rw [List.length_cons, List.length_cons, h2], fun f hm => ?_⟩
    rcases List.mem_cons.mp hm with rfl | hm
    · exact ⟨x.1, t, rfl⟩
    · exact h3 f hm
section
variable {prog : Program} {w : World} {A : Around} {s : Shared} {E : Value → Shared → Prop}
theorem trip_cmp {vs : List Value} {k : Value → I3} (hp : ∀ v ∈ vs, IsTrip s.heap v (k v)) : Cmp prog w A s (tuples' true) (fun p => p.1 ∈ vs) (lt2 fun v u => lex3 (k v) (k u)) := by
  intro p q hm hm'
  have h1 := hp _ hm
  have h2 := hp _ hm'
  show wpAny (model prog w) A (keyLt' (tuples' true) p.1 q.1) (fun r s' => s' = s ∧ r = lex3 (k p.1) (k q.1)) (fun _ _ => False) s
  generalize k p.1 = x at h1 ⊢
  generalize k q.1 = x' at h2 ⊢
  obtain ⟨x, y, z⟩ := x
  obtain ⟨x', y', z'⟩ := x'
  obtain ⟨a, o, t, u, r, n, e, ho, hc, hd⟩ := h1
  obtain ⟨a', o', t', u', r', n', e', ho', hc', hd'⟩ := h2
  rw [e, e']
  refine PySem.W.kat_lt ho hd ho' hd' ?_
  show PySem.W.KatLex prog w A true (decide (3 < 3)) _ [(.int x t, .int x' t'), (.int y u, .int y' u'), (.int z r, .int z' r')] 0 s
  unfold lex3
  dsimp only
  refine PySem.W.kat_cons (SeqAt.EqAt.int_int x t x' t' prog w _ _ ?_)
  refine PySem.W.kat_go (fun e1 => ?_) (fun e1 => ?_)
  · have ex : x = x' := by simpa using e1
    rw [if_pos ex]
    refine PySem.W.kat_yes (PySem.W.kat_cons (SeqAt.EqAt.int_int y u y' u' prog w _ _ ?_))
    refine PySem.W.kat_go (fun e2 => ?_) (fun e2 => ?_)
    · have ey : y = y' := by simpa using e2
      rw [if_pos ey]
      refine PySem.W.kat_yes (PySem.W.kat_cons (SeqAt.EqAt.int_int z r z' r' prog w _ _ ?_))
      refine PySem.W.kat_go (fun e3 => ?_) (fun e3 => ?_)
      · have ez : z = z' := by simpa using e3
        have e4 : decide (z < z') = false := by rw [ez]; exact decide_eq_false (Int.lt_irrefl _)
        exact PySem.W.kat_yes (PySem.W.kat_nil ⟨rfl, e4.symm⟩)
      · refine PySem.W.kat_no (PySem.W.kat_one _ _ (PyProof.Rows.lt_int ?_))
        exact (show s = s ∧ decide (z < z') = decide (z < z') from ⟨rfl, rfl⟩)
    · have ey : ¬ y = y' := by simpa using e2
      rw [if_neg ey]
      refine PySem.W.kat_no (PySem.W.kat_one _ _ (PyProof.Rows.lt_int ?_))
      exact (show s = s ∧ decide (y < y') = decide (y < y') from ⟨rfl, rfl⟩)
  · have ex : ¬ x = x' := by simpa using e1
    rw [if_neg ex]
    exact PySem.W.kat_no (oneLt_int ⟨rfl, rfl⟩)
theorem trips_sortable {a : Addr} {vs : List Value} {k : Value → I3} (h0 : 0 < vs.length) (hp : ∀ v ∈ vs, IsTrip s.heap v (k v)) (ha : ∀ o, s.heap.get? a = some o → o.cls ≠ .type "tuple") : SortableO prog w A s a vs fun v u => lex3 (k v) (k u) := by
  intro h' keep
  have hp' : ∀ v ∈ vs, IsTrip h' v (k v) := fun v hm => (hp v hm).keeps fun b o e c => keep b o (fun z => by subst z; exact ha o e c) e
  obtain ⟨fs, h1, h2, h3⟩ := firsts3 fun v hm => ⟨_, hp' v hm⟩
  refine ⟨tuples' true, fun Q E hq => ?_, trip_cmp hp'⟩
  refine PySem.W.kat_kind (T := .type "int") h1 (by omega) (fun f hm => ?_) (by rfl) ?_
  · obtain ⟨x, t, rfl⟩ := h3 f hm
    exact PySem.W.Looks.now
  · have e : (Value.type "int" != Value.type "tuple") = true := by first | decide +kernel | rfl | decide
    rw [e]
    exact hq
end

/-! ### the sorted list of rows -/
def ins3 (x : I3) : List I3 → List I3
  | [] => [x]
  | y :: l => if lex3 y x = true then y :: ins3 x l else x :: y :: l
def sort3 : List I3 → List I3
  | [] => []
  | x :: l => ins3 x (sort3 l)
abbrev Le3 (x y : I3) : Prop := lex3 y x = false
theorem le3_tr {x y z : I3} (h1 : Le3 x y) (h2 : Le3 y z) : Le3 x z := by
  have a := lex3_no.mp h1
  have b := lex3_no.mp h2
  refine lex3_no.mpr ?_
  omega
theorem le3_of {x y : I3} (h : lex3 x y = true) : Le3 x y := by
  have a := lex3_iff.mp h
  refine lex3_no.mpr ?_
  omega
theorem le3_anti {x y : I3} (h1 : Le3 x y) (h2 : Le3 y x) : x = y := by
  have a := lex3_no.mp h1
  have b := lex3_no.mp h2
  obtain ⟨x1, x2, x3⟩ := x
  obtain ⟨y1, y2, y3⟩ := y
  dsimp only at a b
  rw [show x1 = y1 by omega, show x2 = y2 by omega, show x3 = y3 by omega]
theorem ins3_perm (x : I3) : ∀ l : List I3, (ins3 x l).Perm (x :: l)
  | [] => .refl _
  | y :: l => by
    unfold ins3
    split
    · exact ((ins3_perm x l).cons y).trans (.swap x y l)
    · exact .refl _
theorem sort3_perm : ∀ l : List I3, (sort3 l).Perm l
  | [] => .refl _
  | x :: l => (ins3_perm x (sort3 l)).trans ((sort3_perm l).cons x)
theorem ins3_srt (x : I3) : ∀ {l : List I3}, l.Pairwise Le3 → (ins3 x l).Pairwise Le3
  | [], _ => List.pairwise_singleton _ _
  | y :: l, h => by
    unfold ins3
    split
    · rename_i e
      refine List.pairwise_cons.mpr ⟨fun z hz => ?_, ins3_srt x (List.pairwise_cons.mp h).2⟩
      rcases List.mem_cons.mp ((ins3_perm x l).mem_iff.mp hz) with q | q
      · rw [q]; exact le3_of e
      · exact (List.pairwise_cons.mp h).1 z q
    · rename_i e
      have e' : Le3 x y := by
        show lex3 y x = false
        cases hb : lex3 y x with
        | true => exact absurd hb e
        | false => rfl
      refine List.pairwise_cons.mpr ⟨fun z hz => ?_, h⟩
      rcases List.mem_cons.mp hz with q | q
      · rw [q]; exact e'
      · exact le3_tr e' ((List.pairwise_cons.mp h).1 z q)
theorem sort3_srt : ∀ l : List I3, (sort3 l).Pairwise Le3
  | [] => .nil
  | x :: l => ins3_srt x (sort3_srt l)
theorem srt_eq : ∀ {l m : List I3}, l.Perm m → l.Pairwise Le3 → m.Pairwise Le3 → l = m
  | [], m, h, _, _ => h.nil_eq
  | a :: l, [], h, _, _ => absurd h.symm.nil_eq (by simp)
  | a :: l, b :: m, h, h1, h2 => by
    have e : a = b := by
      rcases List.mem_cons.mp (h.mem_iff.mp List.mem_cons_self) with e | ma
      · exact e
      · rcases List.mem_cons.mp (h.mem_iff.mpr List.mem_cons_self) with e | mb
        · exact e.symm
        · exact le3_anti ((List.pairwise_cons.mp h1).1 b mb) ((List.pairwise_cons.mp h2).1 a ma)
    subst e
    rw [srt_eq (h.cons_inv) (List.pairwise_cons.mp h1).2 (List.pairwise_cons.mp h2).2]
end SrtT
namespace L2
open PySem PySem.Spec PyProof.Rows SrtO SrtT
def IsRow3 (K : PySem.W.Frag) (H : Hp) (v : V) (t : I3) : Prop := ∃ p, v = .ref p ∧ SqT K H p [.int t.1, .int t.2.1, .int t.2.2]
inductive Rows3 (K : PySem.W.Frag) (H : Hp) : List V → List I3 → Prop
  | nil : Rows3 K H [] []
  | cons {v : V} {vs : List V} {t : I3} {ts : List I3} : IsRow3 K H v t → Rows3 K H vs ts → Rows3 K H (v :: vs) (t :: ts)
theorem rows3_all {K : PySem.W.Frag} {H : Hp} {k : V → I3} : ∀ {vs : List V}, (∀ v ∈ vs, IsRow3 K H v (k v)) → Rows3 K H vs (vs.map k)
  | [], _ => .nil
  | v :: vs, h => .cons (h v List.mem_cons_self) (rows3_all fun u hu => h u (List.mem_cons_of_mem _ hu))
theorem rows3_mem {K : PySem.W.Frag} {H : Hp} {k : V → I3} {vs : List V} {ts : List I3} (r : Rows3 K H vs ts) : ts = vs.map k → ∀ v ∈ vs, IsRow3 K H v (k v) := by
  induction r with
  | nil => intro _ v h; cases h
  | cons a b ih =>
    intro e v h
    rw [List.map_cons] at e
    obtain ⟨e1, e2⟩ := List.cons_eq_cons.mp e
    rcases List.mem_cons.mp h with q | q
    · rw [q, ← e1]; exact a
    · exact ih e2 v q
theorem rows3_map {K : PySem.W.Frag} {H : Hp} {k : V → I3} {vs : List V} {ts : List I3} (r : Rows3 K H vs ts) : (∀ v t, IsRow3 K H v t → k v = t) → ts = vs.map k := by
  intro hk
  induction r with
  | nil => rfl
  | cons a b ih => rw [List.map_cons, hk _ _ a, ← ih]
/-- sorted(rows of three ints) -/
def rSortedT (K : PySem.W.Frag) : List V → Hp → VK → Prop := fun vs H Q => ∃ (a : Addr) (ys : List V) (ts : List I3), vs = [V.ref a] ∧ SqL K H a ys ∧ Rows3 K H ys ts ∧
  ∀ (zs : List V) (p : Addr), (∀ F : Hp, Rows3 K F ys ts → Rows3 K F zs (sort3 ts)) → H p = none → Q (.ref p) (upd H p (.lst zs))
section
variable {X : Cx}
theorem row3_inj {pins s σ H} (I : Inv X pins σ H s) {v : V} {t t' : I3} (h : IsRow3 X.K H v t) (h' : IsRow3 X.K H v t') : t = t' := by
  obtain ⟨p, e, q⟩ := h
  obtain ⟨p', e', q'⟩ := h'
  subst e
  cases e'
  have := I.tuple_inj q q'
  obtain ⟨x1, x2, x3⟩ := t
  obtain ⟨y1, y2, y3⟩ := t'
  injection this with a b
  injection b with b c
  injection c with c d
  injection a with a
  injection b with b
  injection c with c
  dsimp only at a b c
  rw [a, b, c]
theorem row3_trip {pins s σ H} (I : Inv X pins σ H s) {p : Addr} {t : I3} (h : IsRow3 X.K H (.ref p) t) : IsTrip s.heap (.ref p) t := by
  obtain ⟨p', e, q⟩ := h
  cases e
  obtain ⟨its, r, ⟨o, ho, hc, n, hd⟩, _⟩ := I.tuple q
  obtain ⟨u1, u2, u3, rfl, r1, r2, r3⟩ := vals3 r
  obtain ⟨t1, rfl⟩ := r1
  obtain ⟨t2, rfl⟩ := r2
  obtain ⟨t3, rfl⟩ := r3
  exact ⟨p, o, t1, t2, t3, n, rfl, ho, hc, hd⟩
open Classical in
noncomputable def keyOf (K : PySem.W.Frag) (H : Hp) (v : V) : I3 := if h : ∃ t, IsRow3 K H v t then Classical.choose h else (0, 0, 0)
theorem keyOf_eq {pins s σ H} (I : Inv X pins σ H s) {v : V} {t : I3} (h : IsRow3 X.K H v t) : keyOf X.K H v = t := by
  have e : ∃ t, IsRow3 X.K H v t := ⟨t, h⟩
  unfold keyOf
  rw [dif_pos e]
  exact row3_inj I (Classical.choose_spec e) h
theorem cr_sortedT : CallR X (.builtin "sorted") (rSortedT X.K) := by
  intro pins s σ H vs us Q I r h
  obtain ⟨a, ys, ts, rfl, hs, hr, q⟩ := h
  obtain ⟨its, rv, hl, hz⟩ := I.list hs
  rw [Vals.ref1 r]
  have hk : ts = ys.map (keyOf X.K H) := rows3_map hr fun v t ht => keyOf_eq I ht
  have hrow := rows3_mem hr hk
  obtain ⟨e1, e2⟩ := refs_back rv fun x m => by
    obtain ⟨t, e, _⟩ := hrow x m
    exact ⟨t, e⟩
  have hT : ∀ v ∈ its, IsTrip s.heap v (keyOf X.K H (backV v)) := fun v hv => by
    obtain ⟨t, rfl⟩ := e2 v hv
    have hm : V.ref t ∈ ys := by rw [e1]; exact List.mem_map.mpr ⟨_, hv, rfl⟩
    exact row3_trip I (hrow _ hm)
  refine SrtO.sorted_ord (swo_lex3 fun v => keyOf X.K H (backV v)) hl.isList (by rw [← rv.length]; exact hz) (fun h2 h₁ a' hg hkp => trips_sortable (by omega) (fun v hv => (hT v hv).keeps fun b o e _ => (hkp b o e).2) fun o e c => ?_) fun out h1 h2 => ?_
  · have e' : some o = some (seqObj "list" its.toArray 0) := e.symm.trans hg
    cases e'
    exact absurd (Value.type.inj c) (by decide)
  obtain ⟨ep, he'⟩ := PyProof.Rows.sortedAll_at s.heap its out.toArray
  have h3 : ∀ u ∈ out, ∃ a, u = Value.ref a := fun u hu => e2 u (h2.perm.mem_iff.mp hu)
  have hp : (out.map backV).Perm ys := by rw [e1]; exact h2.perm.map backV
  have hlen : (out.map backV).length ≤ sizeLine := by rw [hp.length_eq]; exact hz
  have hsrt : (out.map backV).map (keyOf X.K H) = sort3 ts := by
    refine srt_eq ((hp.map _).trans ?_) ?_ (sort3_srt ts)
    · rw [← hk]; exact (sort3_perm ts).symm
    · rw [List.map_map]
      exact List.pairwise_map.mpr h1
  refine ⟨.ref _, upd H (s.heap.objs.size + 1) (.lst (out.map backV)), I.laid (t' := s.toks) (fun _ _ => PyProof.Rows.sortedAll_old) (Nat.le_succ _) ⟨hlen, out, ep, vals_back h3, he'⟩, rfl, q _ _ (fun F hF => ?_) (I.hok.fresh (Nat.le_succ _))⟩
  rw [← hsrt]
  have hm := rows3_mem hF hk
  exact rows3_all fun v hv => hm v (hp.mem_iff.mp hv)
end
end L2

set_option Elab.async false
set_option linter.all false
set_option maxRecDepth 100000
set_option maxHeartbeats 4000000

namespace PF
open PySem PySem.Spec PyProof.Rows L2

/-! ## the small language -/
inductive Cst where | non | bl (b : Bool) | int (i : Int) | str (x : Str)
def Cst.dt : Cst → D | .non => .non | .bl b => .bl b | .int i => .int i | .str x => .str x
inductive Bop where | add | sub | mul | fdiv | mod | pow
inductive Cop where | eq | ne | lt | le | gt | ge | isN | notN | inn | nin
inductive Bi where | len | tuple | list | abs | int | sum | all | any | max | min | gcd | isqrt | sorted | str
inductive Tg where | name (i : Nat) | tup (is : List Nat)

mutual
inductive E where
  | cst (c : Cst) | var (i : Nat) | glob (x : Str)
  | bin (op : Bop) (a b : E) | neg (a : E)
  | cmp (op : Cop) (a b : E) | chain (o1 o2 : Cop) (a b c : E)
  | band (l : EL) | bor (l : EL) | bnot (a : E) | ife (c a b : E)
  | call (f : Str) (l : EL) | mk (C : Str) (l : EL) | meth (m : Str) (o : E) (l : EL)
  | bi (f : Bi) (l : EL) | isi (a : E) (ty : Str)
  | attr (o : E) (f : Str) | ix (a b : E) | sl (a : E) (lo hi : EO)
  | tup (l : EL) | lst (l : EL) | lst2 (l : EL)
  | lc (tg : Tg) (it : It) (cnd : EL) (elt : E) | lrng (it : It) | callN (f : Str) (l : EL)
  | dnin (a : E) (i : Nat) | dget (i : Nat) (a : E)
inductive EL where | nil | cons (e : E) (l : EL)
inductive EO where | none | some (e : E)
inductive It where | of (e : E) | rng1 (a : E) | rng2 (a b : E) | enum (e : E) | zip (a b : E)
end

/-- suites of except clauses -/
inductive XE where | cst (c : Cst) | isE (C : Str) | band (a b : XE) | bnot (a : XE) | tup2 (a b : XE) | lst2 (a b : XE) | lst3 (a b c : XE)
/-- a suite: return, or if .. : return .. -/
inductive XU where | ret (x : XE) | ifr (k x : XE)

mutual
inductive S where
  | asg (i : Nat) (e : E) | asgT (is : List Nat) (e : E)
  | par2 (i j : Nat) (a b : E) | par3 (i j k : Nat) (a b c : E)
  | aug (i : Nat) (op : Bop) (e : E)
  | setIx (i : Nat) (a e : E) | setIx2 (i : Nat) (a b e : E) | swap2 (i : Nat) (a b : E) | setA (f : Str) (e : E)
  | app (i : Nat) (e : E) | ext (i : Nat) (e : E) | popA (j i : Nat)
  | expr (e : E)
  | ite (c : E) (a b : SL)
  | forS (tg : Tg) (it : It) (b : SL) | whl (c : E) (b : SL)
  | ret (e : E) | retN | rai (C : Str)
  | tryX (b : SL) (C : Str) (nm : Option Nat) (su : XU)
  | pas
  | newD (i j : Nat) (e : E) | setK (i : Nat) (a e : E) | forK (k i : Nat) (b : SL)
inductive SL where | nil | cons (s : S) (l : SL)
end

/-! ## its meaning -/
abbrev KE0 := Str → En → Prop
abbrev SemE := En → (Ev → En → Prop) → KE0 → Prop
abbrev SemT := En → (Bool → En → Prop) → KE0 → Prop
abbrev SemL := En → (List Ev → En → Prop) → KE0 → Prop
abbrev SemI := En → (List D → En → Prop) → KE0 → Prop

structure Fn where
  run : List Sl → (D → List (List D) → Prop) → (Str → List (List D) → Prop) → Prop
  mono : ∀ {args Q Q' E E'}, run args Q E → (∀ d o, Q d o → Q' d o) → (∀ c o, E c o → E' c o) → run args Q' E'
structure Tb where
  fns : Str → Option (List Bool × Fn)
  cst : Str → Option D
  mks : Str → Option (Nat × Fn)
  mth : Str → Option (Str × Nat × Fn)
  fld : Str → Str → Bool
  exc : Str → Bool
  sub : Str → Str → Bool
  gcd : Bool
  own : Str → Bool
  isq : Bool := false

/-- None, bools, ints, texts, tuples and lists as the library's data -/
def D.pd : D → PyData
  | .non => .none | .bl b => .bool b | .int i => .int i | .str x => .str x
  | .tup xs => .tuple (pds xs) | .lst xs => .list (pds xs) | .klst _ => .none | .obj _ _ => .none
where pds : List D → List PyData
  | [] => []
  | x :: xs => x.pd :: pds xs
def D.noObj : D → Bool
  | .tup xs => nos xs | .lst xs => nos xs | .klst _ => false | .obj _ _ => false | _ => true
where nos : List D → Bool
  | [] => true
  | x :: xs => x.noObj && nos xs
/-- data with no lists in it -/
def D.noL : D → Bool
  | .lst _ => false | .klst _ => false
  | .tup xs => nls xs | .obj _ fs => nlf fs | _ => true
where
  nls : List D → Bool
    | [] => true
    | x :: xs => x.noL && nls xs
  nlf : List (Str × D) → Bool
    | [] => true
    | (_, x) :: xs => x.noL && nlf xs
def eqD (x y : D) : Bool := PyData.eqv x.pd y.pd
def shp (x : D) : Bool := x.noObj && SeqAt.shaped x.pd

def settle (env : En) (e : Ev) (Q : D → En → Prop) : Prop := match e with
  | .d d => Q d env
  | .vw i => match env[i]? with
    | some (.fz d) => Q d env
    | some (.own 0 ds) => Q (.lst ds) (env.set i (.fz (.lst ds)))
    | some (.own2 dss) => Q (.lst (dss.map .lst)) (env.set i (.fz (.lst (dss.map .lst))))
    | _ => False
  | .nw ds => Q (.lst ds) env
  | .nw2 dss => Q (.lst (dss.map .lst)) env
def peekW (env : En) (e : Ev) (Q : D → Prop) : Prop := match e with
  | .d d => Q d
  | .vw i => match env[i]? with
    | some (.fz d) => Q d
    | some (.own _ ds) => Q (.lst ds)
    | _ => False
  | .nw ds => Q (.lst ds)
  | .nw2 _ => False

def opBin (op : Bop) (x y : D) (Q : Ev → Prop) : Prop := match op, x, y with
  | .add, .int i, .int j => Q (.d (.int (i + j)))
  | .add, .tup xs, .tup ys => xs.length + ys.length ≤ sizeLine ∧ Q (.d (.tup (xs ++ ys)))
  | .add, .str x, .str y => x.length + y.length ≤ sizeLine ∧ Q (.d (.str (x ++ y)))
  | .add, .lst xs, .lst ys => xs.length + ys.length ≤ sizeLine ∧ Q (.nw (xs ++ ys))
  | .sub, .int i, .int j => Q (.d (.int (i - j)))
  | .mul, .int i, .int j => CMulW i j ∧ Q (.d (.int (i * j)))
  | .mul, .tup xs, .int k => xs ≠ [] ∧ 2 ≤ k ∧ k ≤ 1000 ∧ xs.length ≤ 1000 ∧ Q (.d (.tup (List.replicate k.toNat xs).flatten))
  | .fdiv, .int i, .int j => if 0 < j then j.natAbs.log2 < 9000 ∧ Q (.d (.int (i / j))) else (j ≠ 0 ∧ j.natAbs < 1073741824 ∧ Q (.d (.int (i.fdiv j))))
  | .mod, .int i, .int j => if 0 < j then Q (.d (.int (i % j))) else (j ≠ 0 ∧ Q (.d (.int (i.fmod j))))
  | .pow, .int i, .int j => CPow i j ∧ Q (.d (.int (i ^ j.toNat)))
  | _, _, _ => False
def isNon : D → Bool | .non => true | _ => false
/-- t > u of tuples of ints -/
def leI (ns ms : List Int) : Bool := Ob.lexAt (fun j => decide (ns.getD j 0 = ms.getD j 0)) (fun j => decide (ns.getD j 0 ≤ ms.getD j 0)) (decide (ns.length ≤ ms.length)) 0 (min ns.length ms.length)
def gtI (ns ms : List Int) : Bool := Ob.lexAt (fun j => decide (ns.getD j 0 = ms.getD j 0)) (fun j => decide (ms.getD j 0 < ns.getD j 0)) (decide (ms.length < ns.length)) 0 (min ns.length ms.length)
def mx2 (i j : Int) : Int := if i < j then j else i
def opCmp (op : Cop) (x y : D) (Q : Bool → Prop) : Prop := match op, x, y with
  | .eq, .int i, .int j => Q (decide (i = j))
  | .ne, .int i, .int j => Q (!decide (i = j))
  | .eq, x, y => shp x = true ∧ shp y = true ∧ Q (eqD x y)
  | .ne, x, y => shp x = true ∧ shp y = true ∧ Q (!eqD x y)
  | .lt, .int i, .int j => Q (decide (i < j))
  | .le, .int i, .int j => Q (decide (i ≤ j))
  | .gt, .int i, .int j => Q (decide (j < i))
  | .ge, .int i, .int j => Q (decide (j ≤ i))
  | .lt, .tup xs, .tup ys => ∃ ns ms : List Int, xs = ns.map D.int ∧ ys = ms.map D.int ∧ Q (HT.lexLt ns ms)
  | .gt, .tup xs, .tup ys => ∃ ns ms : List Int, xs = ns.map D.int ∧ ys = ms.map D.int ∧ Q (gtI ns ms)
  | .le, .tup xs, .tup ys => ∃ ns ms : List Int, xs = ns.map D.int ∧ ys = ms.map D.int ∧ Q (leI ns ms)
  | .isN, x, .non => Q (isNon x)
  | .notN, x, .non => Q (!isNon x)
  | .isN, .bl a, .bl b => Q (decide (a = b))
  | .notN, .bl a, .bl b => Q (!decide (a = b))
  | .inn, x, .lst ys => shp x = true ∧ shp (.lst ys) = true ∧ Q (ys.any fun z => eqD z x)
  | .nin, x, .lst ys => shp x = true ∧ shp (.lst ys) = true ∧ Q (!ys.any fun z => eqD z x)
  | .inn, .int i, .tup ys => ∃ ns : List Int, ys = ns.map D.int ∧ Q (ns.any fun z => z == i)
  | .nin, .int i, .tup ys => ∃ ns : List Int, ys = ns.map D.int ∧ Q (!ns.any fun z => z == i)
  | .inn, .non, .tup ys => ∃ ns : List Int, ys = ns.map D.int ∧ Q false
  | .nin, .non, .tup ys => ∃ ns : List Int, ys = ns.map D.int ∧ Q true
  | _, _, _ => False
def opTru (x : D) (Q : Bool → Prop) : Prop := match x with
  | .non => Q false
  | .bl b => Q b
  | .int i => Q (i != 0)
  | .str x => x.length ≤ sizeLine ∧ Q ((x.length : Int) != 0)
  | .lst ds => Q (!ds.isEmpty)
  | .tup ds => Q (!ds.isEmpty)
  | .klst _ => False
  | .obj _ _ => False
def opIx (x y : D) (Q : D → Prop) : Prop := match x, y with
  | .lst xs, .int i => ∃ v, atI xs i = some v ∧ Q v
  | .tup xs, .int i => ∃ v, atI xs i = some v ∧ Q v
  | .klst xs, .int i => ∃ v, atI xs i = some v ∧ Q v
  | _, _ => False
def cutD (xs : List D) (lo hi : Option Int) : List D := (xs.drop (HT.sIx xs.length 0 lo)).take (HT.sIx xs.length xs.length hi - HT.sIx xs.length 0 lo)
def opSl (x : D) (lo hi : Option Int) (Q : Ev → Prop) : Prop := match x with
  | .lst xs => Q (.nw (cutD xs lo hi))
  | .tup xs => Q (.d (.tup (cutD xs lo hi)))
  | .klst xs => Q (.nw (cutD xs lo hi))
  | _ => False
/-- the greatest, the least item -/
def maxL : List Int → Int
  | [] => 0
  | [a] => a
  | a :: b :: r => max a (maxL (b :: r))
def minL : List Int → Int
  | [] => 0
  | [a] => a
  | a :: b :: r => min a (minL (b :: r))
def row3 (t : SrtT.I3) : D := .tup [.int t.1, .int t.2.1, .int t.2.2]
def opBi (f : Bi) (xs : List D) (Q : Ev → Prop) : Prop := match f, xs with
  | .len, [.lst ds] => Q (.d (.int ds.length))
  | .len, [.tup ds] => Q (.d (.int ds.length))
  | .len, [.klst ds] => Q (.d (.int ds.length))
  | .tuple, [.lst ds] => Q (.d (.tup ds))
  | .tuple, [.tup ds] => Q (.d (.tup ds))
  | .list, [.lst ds] => Q (.nw ds)
  | .list, [.tup ds] => Q (.nw ds)
  | .abs, [.int i] => Q (.d (.int (if i < 0 then -i else i)))
  | .int, [.int i] => Q (.d (.int i))
  | .int, [.bl b] => Q (.d (.int (if b then 1 else 0)))
  | .sum, [.lst ds] => ∃ ns : List Int, ds = ns.map D.int ∧ Q (.d (.int ns.sum))
  | .all, [.lst ds] => ∃ bs : List Bool, ds = bs.map D.bl ∧ Q (.d (.bl (bs.all id)))
  | .any, [.lst ds] => ∃ bs : List Bool, ds = bs.map D.bl ∧ Q (.d (.bl (bs.any id)))
  | .max, [.int i, .int j] => Q (.d (.int (if j > i then j else i)))
  | .min, [.int i, .int j] => Q (.d (.int (if j < i then j else i)))
  | .max, [.int i, .int j, .int k] => Q (.d (.int (mx2 (mx2 i j) k)))
  | .max, [.lst ds] => ∃ ns : List Int, (ds = ns.map D.int ∧ ns ≠ []) ∧ Q (.d (.int (maxL ns)))
  | .min, [.lst ds] => ∃ ns : List Int, (ds = ns.map D.int ∧ ns ≠ []) ∧ Q (.d (.int (minL ns)))
  | .gcd, [.int a, .int b] => Q (.d (.int ((Nat.gcd a.natAbs b.natAbs : Nat) : Int)))
  | .isqrt, [.int a] => 0 ≤ a ∧ a.toNat.log2 < 9000 ∧ Q (.d (.int ((Float64.isqrt a.toNat : Nat) : Int)))
  | .str, [.int i] => i.natAbs.log2 < 1920 ∧ Q (.d (.str (toString i)))
  | .sorted, [.lst ds] => ∃ ts : List SrtT.I3, ds = ts.map row3 ∧ Q (.nw ((SrtT.sort3 ts).map row3))
  | _, _ => False
def kindD : D → Option String
  | .non => some "NoneType" | .bl _ => some "bool" | .int _ => some "int" | .str _ => some "str" | .tup _ => some "tuple" | .lst _ => some "list" | .klst _ => none | .obj _ _ => none
def clsV (ty : Str) : Option String := if ty = "int" then some "int" else if ty = "bool" then some "bool" else if ty = "tuple" then some "tuple" else if ty = "str" then some "str" else if ty = "list" then some "list" else none
def isiB (x : D) (ty : Str) : Option Bool := match kindD x, clsV ty with
  | some T', some T => kitB T' T
  | _, _ => none
def opIsi (x : D) (ty : Str) (Q : Bool → Prop) : Prop := ∃ b, isiB x ty = some b ∧ Q b
def slsOf (env : En) : Nat → List (D ⊕ Nat) → Option (List Sl)
  | _, [] => some []
  | n, .inl d :: r => (slsOf env n r).map (.fz d :: ·)
  | n, .inr i :: r => match env[i]? with
    | some (.own _ ds) => (slsOf env (n + 1) r).map (.own (n + 1) ds :: ·)
    | _ => none
def refs : List (D ⊕ Nat) → List Nat
  | [] => []
  | .inl _ :: r => refs r
  | .inr i :: r => i :: refs r
def putOuts (env : En) : List Nat → List (List D) → Option En
  | [], [] => some env
  | i :: is, ds :: r => match env[i]? with
    | some (.own k _) => putOuts (env.set i (.own k ds)) is r
    | _ => none
  | _, _ => none
def callR (n : Nat) (fn : Fn) (ds : List (D ⊕ Nat)) (env1 : En) (Q : Ev → En → Prop) (Er : KE0) : Prop :=
  ds.length = n ∧ ∃ sls, slsOf env1 0 ds = some sls ∧ (refs ds).Nodup ∧
    fn.run sls (fun d outs => ∃ env2, putOuts env1 (refs ds) outs = some env2 ∧ Q (.d d) env2) (fun c outs => ∃ env2, putOuts env1 (refs ds) outs = some env2 ∧ Er c env2)

def peeks (env : En) : List Ev → (List D → Prop) → Prop
  | [], Q => Q []
  | e :: es, Q => peekW env e fun d => peeks env es fun ds => Q (d :: ds)
def nws : List Ev → Option (List (List D))
  | [] => some []
  | .nw ds :: es => (nws es).map (ds :: ·)
  | _ => none

def intsFrom (lo : Int) : Nat → List D
  | 0 => []
  | n + 1 => .int lo :: intsFrom (lo + 1) n
def enumD : Nat → List D → List D
  | _, [] => []
  | n, d :: ds => .tup [.int n, d] :: enumD (n + 1) ds
def zipD : List D → List D → List D
  | d :: ds, e :: es => .tup [d, e] :: zipD ds es
  | _, _ => []
def putIs (env : En) : List Nat → List D → Option En
  | [], [] => some env
  | i :: is, d :: ds => putIs (env.set i (.fz d)) is ds
  | _, _ => none
def putTg (tg : Tg) (d : D) (env : En) : Option En := match tg with
  | .name i => some (env.set i (.fz d))
  | .tup is => match d with
    | .tup ds => putIs env is ds
    | _ => none
def Tg.is : Tg → List Nat | .name i => [i] | .tup is => is
/-- the comprehension's own names are forgotten in the block, and come back behind it -/
def wipeE (env : En) : List Nat → En
  | [] => env
  | i :: is => (wipeE env is).set i .no
def backE (env0 env : En) : List Nat → En
  | [] => env
  | i :: is => (backE env0 env is).set i (env0[i]?.getD .no)
def noOwn (env : En) (is : List Nat) : Prop := ∀ i ∈ is, match env[i]? with
  | some (.own _ _) => False
  | some (.own2 _) => False
  | some (.ob _ _) => False
  | some (.dic _) => False
  | _ => True
/-- the table in a slot -/
def dicAt (env : En) (i : Nat) : Option (List (Int × D)) := match env[i]? with
  | some (.dic kvs) => some kvs
  | some (.dicF kvs) => some kvs
  | _ => none
/-- the loop of a comprehension: what is kept so far -/
def lcL (is : List Nat) (tg : Tg) (cnd : SemT) (elt : SemE) : List D → En → List D → (List D → En → Prop) → Prop
  | [], env, acc, Q => Q acc env
  | d :: ds, env, acc, Q => ∃ env1, putTg tg d (wipeE env is) = some env1 ∧ cnd env1 (fun b env2 =>
      if b = true then elt env2 (fun e env3 => settle env3 e fun x env4 => acc.length < sizeLine ∧ lcL is tg cnd elt ds env4 (acc ++ [x]) Q) (fun _ _ => False)
      else lcL is tg cnd elt ds env2 acc Q) (fun _ _ => False)

def truS (v : SemE) : SemT := fun env Q Er => v env (fun e env1 => peekW env1 e fun d => opTru d fun b => Q b env1) Er

section
variable (G : Tb)
mutual
def ev : E → SemE × SemT
  | .cst c => let v : SemE := fun env Q _ => Q (.d c.dt) env; (v, truS v)
  | .var i => let v : SemE := fun env Q _ => match env[i]? with
    | some (.fz d) => Q (.d d) env
    | some (.own _ _) => Q (.vw i) env
    | some (.own2 _) => Q (.vw i) env
    | _ => False; (v, truS v)
  | .glob x => let v : SemE := fun env Q _ => ∃ d, G.cst x = some d ∧ Q (.d d) env; (v, truS v)
  | .bin op a b => let v : SemE := fun env Q Er => (ev a).1 env (fun ea env1 => (ev b).1 env1 (fun eb env2 => peekW env2 ea fun x => peekW env2 eb fun y => opBin op x y fun e => Q e env2) Er) Er; (v, truS v)
  | .neg a => let v : SemE := fun env Q Er => (ev a).1 env (fun ea env1 => ∃ i, ea = .d (.int i) ∧ Q (.d (.int (-i))) env1) Er; (v, truS v)
  | .cmp op a b => let v : SemE := fun env Q Er => (ev a).1 env (fun ea env1 => (ev b).1 env1 (fun eb env2 => peekW env2 ea fun x => peekW env2 eb fun y => opCmp op x y fun b => Q (.d (.bl b)) env2) Er) Er; (v, truS v)
  | .chain o1 o2 a b c => let v : SemE := fun env Q Er => (ev a).1 env (fun ea env1 => (ev b).1 env1 (fun eb env2 => peekW env2 ea fun x => peekW env2 eb fun y => opCmp o1 x y fun r =>
      if r = true then (ev c).1 env2 (fun ec env3 => peekW env3 eb fun y => peekW env3 ec fun z => opCmp o2 y z fun r' => Q (.d (.bl r')) env3) Er else Q (.d (.bl false)) env2) Er) Er; (v, truS v)
  | .band l => (evAndV l, evAndT l)
  | .bor l => (evOrV l, evOrT l)
  | .bnot a => let t : SemT := fun env Q Er => (ev a).2 env (fun b env1 => Q (!b) env1) Er
    (fun env Q Er => (ev a).1 env (fun ea env1 => ∃ b, ea = .d (.bl b) ∧ Q (.d (.bl (!b))) env1) Er, t)
  | .ife c a b => let v : SemE := fun env Q Er => (ev c).2 env (fun k env1 => if k = true then (ev a).1 env1 Q Er else (ev b).1 env1 Q Er) Er; (v, fun _ _ _ => False)
  | .call f l => let v : SemE := fun env Q Er => ∃ ms fn, G.fns f = some (ms, fn) ∧ evA l ms env (fun ds env1 => callR ms.length fn ds env1 Q Er) Er; (v, truS v)
  | .mk C l => let v : SemE := fun env Q Er => ∃ n fn, G.mks C = some (n, fn) ∧ evM l env (fun ds env2 => ds.length = n ∧ ds ≠ [] ∧ fn.run (ds.map .fz) (fun d _ => Q (.d d) env2) (fun c _ => Er c env2)) Er; (v, truS v)
  | .meth m o l => let v : SemE := fun env Q Er => ∃ C n fn, G.mth m = some (C, n, fn) ∧ (ev o).1 env (fun eo env0 => settle env0 eo fun d0 env1 => (∃ fs, d0 = .obj C fs ∧ fs.lookup m = none) ∧ evM l env1 (fun ds env2 => ds.length + 1 = n ∧ fn.run (.fz d0 :: ds.map .fz) (fun d _ => Q (.d d) env2) (fun c _ => Er c env2)) Er) Er; (v, truS v)
  | .bi f l => let v : SemE := fun env Q Er => (f = .isqrt → G.isq = true) ∧ evL l env (fun es env1 => peeks env1 es fun ds => opBi f ds fun e => Q e env1) Er; (v, truS v)
  | .isi a ty => let v : SemE := fun env Q Er => (ev a).1 env (fun ea env1 => peekW env1 ea fun x => (opIsi x ty fun b => Q (.d (.bl b)) env1) ∨ (∃ C fs, x = .obj C fs ∧ G.own C = true ∧ Q (.d (.bl false)) env1)) Er; (v, truS v)
  | .attr o f => let v : SemE := fun env Q Er => (ev o).1 env (fun eo env1 => peekW env1 eo fun x => ∃ C fs d, x = .obj C fs ∧ G.fld C f = true ∧ fs.lookup f = some d ∧ Q (.d d) env1) Er; (v, truS v)
  | .ix a b => let v : SemE := fun env Q Er => (ev a).1 env (fun ea env1 => (ev b).1 env1 (fun eb env2 => peekW env2 ea fun x => peekW env2 eb fun y => opIx x y fun d => Q (.d d) env2) Er) Er; (v, truS v)
  | .sl a lo hi => let v : SemE := fun env Q Er => (ev a).1 env (fun ea env1 => evO lo env1 (fun l env2 => evO hi env2 (fun h env3 => peekW env3 ea fun x => opSl x l h fun e => Q e env3) Er) Er) Er; (v, truS v)
  | .tup l => let v : SemE := fun env Q Er => evM l env (fun ds env2 => ds.length ≤ sizeLine ∧ Q (.d (.tup ds)) env2) Er; (v, truS v)
  | .lst l => let v : SemE := fun env Q Er => evM l env (fun ds env2 => ds.length ≤ sizeLine ∧ Q (.nw ds) env2) Er; (v, truS v)
  | .lst2 l => let v : SemE := fun env Q Er => evL l env (fun es env1 => es.length ≤ sizeLine ∧ ∃ dss, nws es = some dss ∧ Q (.nw2 dss) env1) Er; (v, fun _ _ _ => False)
  | .lc tg it cnd elt => let v : SemE := fun env Q Er => evI it env (fun ds env1 => noOwn env1 tg.is ∧ lcL tg.is tg (evC cnd) (ev elt).1 ds env1 [] fun acc env2 => Q (.nw acc) (backE env1 env2 tg.is)) Er; (v, truS v)
  | .callN f l => let v : SemE := fun env Q Er => ∃ ms fn, G.fns f = some (ms, fn) ∧ evM l env (fun ds env2 => ds.length = ms.length ∧ D.noL.nls ds = true ∧ fn.run (ds.map .fz) (fun d _ => ∃ ns : List Int, d = .lst (ns.map D.int) ∧ Q (.nw (ns.map D.int)) env2) (fun c _ => Er c env2)) Er; (v, truS v)
  | .dnin a i => let v : SemE := fun env Q Er => (ev a).1 env (fun ea env1 => ∃ n kvs, ea = .d (.int n) ∧ dicAt env1 i = some kvs ∧ Q (.d (.bl (kvs.lookup n).isNone)) env1) Er; (v, truS v)
  | .dget i a => let v : SemE := fun env Q Er => (∃ kvs, dicAt env i = some kvs) ∧ (ev a).1 env (fun ea env1 => ∃ n kvs d, ea = .d (.int n) ∧ dicAt env1 i = some kvs ∧ kvs.lookup n = some d ∧ Q (.d d) env1) Er; (v, truS v)
  | .lrng it => let v : SemE := fun env Q Er => evI it env (fun ds env1 => ds.length ≤ 100000 ∧ Q (.nw ds) env1) Er; (v, truS v)
def evL : EL → SemL
  | .nil => fun env Q _ => Q [] env
  | .cons e l => fun env Q Er => (ev e).1 env (fun x env1 => evL l env1 (fun xs env2 => Q (x :: xs) env2) Er) Er
/-- items that stay, one after another -/
def evM : EL → En → (List D → En → Prop) → KE0 → Prop
  | .nil => fun env Q _ => Q [] env
  | .cons e l => fun env Q Er => (ev e).1 env (fun x env1 => settle env1 x fun d env2 => evM l env2 (fun ds env3 => Q (d :: ds) env3) Er) Er
/-- arguments by their modes: values that stay, or places of lists handed on -/
def evA : EL → List Bool → En → (List (D ⊕ Nat) → En → Prop) → KE0 → Prop
  | .nil => fun ms env Q _ => ms = [] ∧ Q [] env
  | .cons e l => fun ms env Q Er => match ms with
    | false :: ms => (ev e).1 env (fun x env1 => settle env1 x fun d env2 => evA l ms env2 (fun ds env3 => Q (.inl d :: ds) env3) Er) Er
    | true :: ms => (ev e).1 env (fun x env1 => ∃ i, x = .vw i ∧ evA l ms env1 (fun ds env3 => Q (.inr i :: ds) env3) Er) Er
    | [] => False
def evO : EO → En → (Option Int → En → Prop) → KE0 → Prop
  | .none => fun env Q _ => Q Option.none env
  | .some e => fun env Q Er => (ev e).1 env (fun x env1 => ∃ i, x = .d (.int i) ∧ Q (Option.some i) env1) Er
def evI : It → SemI
  | .of e => fun env Q Er => (ev e).1 env (fun x env1 => settle env1 x fun d env2 => match d with
    | .lst ds => Q ds env2
    | .tup ds => Q ds env2
    | .klst ds => Q ds env2
    | _ => False) Er
  | .rng1 a => fun env Q Er => (ev a).1 env (fun x env1 => ∃ j : Int, x = .d (.int j) ∧ -(2 ^ 62) ≤ j ∧ j < 2 ^ 62 ∧ Q (intsFrom 0 j.toNat) env1) Er
  | .rng2 a b => fun env Q Er => (ev a).1 env (fun x env1 => (ev b).1 env1 (fun y env2 => ∃ i j : Int, x = .d (.int i) ∧ y = .d (.int j) ∧ (-(2 ^ 62) ≤ i ∧ i < 2 ^ 62 ∧ -(2 ^ 62) ≤ j ∧ j < 2 ^ 62) ∧ Q (intsFrom i (j - i).toNat) env2) Er) Er
  | .enum e => fun env Q Er => (ev e).1 env (fun x env1 => settle env1 x fun d env2 => ∃ ds, d = .lst ds ∧ Q (enumD 0 ds) env2) Er
  | .zip a b => fun env Q Er => (ev a).1 env (fun x env1 => settle env1 x fun d env2 => (ev b).1 env2 (fun y env3 => settle env3 y fun d' env4 => ∃ ds es, d = .lst ds ∧ d' = .lst es ∧ Q (zipD ds es) env4) Er) Er
def evAndV : EL → SemE
  | .nil => fun _ _ _ => False
  | .cons a .nil => (ev a).1
  | .cons a l => fun env Q Er => (ev a).1 env (fun x env1 => ∃ c, x = .d (.bl c) ∧ if c = true then evAndV l env1 Q Er else Q (.d (.bl false)) env1) Er
def evOrV : EL → SemE
  | .nil => fun _ _ _ => False
  | .cons a .nil => (ev a).1
  | .cons a l => fun env Q Er => (ev a).1 env (fun x env1 => ∃ c, x = .d (.bl c) ∧ if c = true then Q (.d (.bl true)) env1 else evOrV l env1 Q Er) Er
def evAndT : EL → SemT
  | .nil => fun _ _ _ => False
  | .cons a .nil => (ev a).2
  | .cons a l => fun env Q Er => (ev a).2 env (fun c env1 => if c = true then evAndT l env1 Q Er else Q false env1) Er
def evOrT : EL → SemT
  | .nil => fun _ _ _ => False
  | .cons a .nil => (ev a).2
  | .cons a l => fun env Q Er => (ev a).2 env (fun c env1 => if c = true then Q true env1 else evOrT l env1 Q Er) Er
/-- a comprehension's tests: none or one -/
def evC : EL → SemT
  | .nil => fun env Q _ => Q true env
  | .cons a .nil => (ev a).2
  | .cons _ _ => fun _ _ _ => False
end

structure Po where
  nx : En → Prop
  rt : D → En → Prop
  bk : En → Prop
  ct : En → Prop
  er : Str → En → Prop
abbrev SemS := En → Po → Prop

/-- an index that is read off a slot, or written -/
def pureIx (env : En) : E → Option Int
  | .cst (.int i) => some i
  | .var i => match env[i]? with
    | some (.fz (.int n)) => some n
    | _ => none
  | _ => none
def putD (f : Str) (d : D) : List (Str × D) → List (Str × D)
  | [] => [(f, d)]
  | (g, e) :: r => if g = f then (f, d) :: r else (g, e) :: putD f d r
/-- lists that nobody writes to from here on -/
def frz1 (env : En) (i : Nat) : En := match env[i]? with
  | some (.own 0 ds) => env.set i (.fz (.lst ds))
  | some (.own2 dss) => env.set i (.fz (.lst (dss.map .lst)))
  | some (.dic kvs) => env.set i (.dicF kvs)
  | _ => env
def frzs : En → List Nat → En
  | env, [] => env
  | env, i :: is => frzs (frz1 env i) is
def storeE (i : Nat) (e : Ev) (env : En) (Q : En → Prop) : Prop := match e with
  | .d d => Q (env.set i (.fz d))
  | .nw ds => Q (env.set i (.own 0 ds))
  | .nw2 dss => Q (env.set i (.own2 dss))
  | .vw _ => settle env e fun d env1 => Q (env1.set i (.fz d))
/-- values into slots: what stays, and new lists -/
def putEs (env : En) : List Nat → List Ev → Option En
  | [], [] => some env
  | i :: is, .d d :: es => putEs (env.set i (.fz d)) is es
  | i :: is, .nw ds :: es => putEs (env.set i (.own 0 ds)) is es
  | _, _ => none
def forL (tg : Tg) (body : SemS) : List D → En → Po → Prop
  | [], env, P => P.nx env
  | d :: ds, env, P => ∃ env1, putTg tg d env = some env1 ∧ body env1 { nx := fun env2 => forL tg body ds env2 P, rt := P.rt, bk := P.nx, ct := fun env2 => forL tg body ds env2 P, er := P.er }
def evX (c : Str) : XE → D → Prop
  | .cst k => fun d => d = k.dt
  | .isE C => fun d => if C = "ValueError" then d = .bl true else (G.exc C = true ∧ d = .bl (G.sub c C))
  | .band a b => fun d => ∃ x y, evX c a (.bl x) ∧ evX c b (.bl y) ∧ d = .bl (x && y)
  | .bnot a => fun d => ∃ x, evX c a (.bl x) ∧ d = .bl (!x)
  | .tup2 a b => fun d => ∃ x y, evX c a x ∧ evX c b y ∧ d = .tup [x, y]
  | .lst2 a b => fun d => ∃ x y, evX c a x ∧ evX c b y ∧ d = .lst [x, y]
  | .lst3 a b z => fun d => ∃ x y w, evX c a x ∧ evX c b y ∧ evX c z w ∧ d = .lst [x, y, w]
def clrN (nm : Option Nat) (env : En) : En := match nm with | some i => env.set i .no | none => env
def evU (c : Str) : XU → En → Po → Prop
  | .ret x => fun env P => ∃ d, evX G c x d ∧ P.rt d env
  | .ifr k x => fun env P => ∃ b, evX G c k (.bl b) ∧ if b = true then ∃ d, evX G c x d ∧ P.rt d env else P.nx env
mutual
def evS : S → SemS
  | .asg i e => fun env P => (ev G e).1 env (fun v env1 => storeE i v env1 P.nx) P.er
  | .asgT is e => fun env P => (ev G e).1 env (fun v env1 => settle env1 v fun d env2 => ∃ ds env3, d = .tup ds ∧ putIs env2 is ds = some env3 ∧ P.nx env3) P.er
  | .par2 i j a b => fun env P => evL G (.cons a (.cons b .nil)) env (fun es env1 => ∃ env2, putEs env1 [i, j] es = some env2 ∧ P.nx env2) P.er
  | .par3 i j k a b c => fun env P => evL G (.cons a (.cons b (.cons c .nil))) env (fun es env1 => ∃ env2, putEs env1 [i, j, k] es = some env2 ∧ P.nx env2) P.er
  | .aug i op e => fun env P => ∃ n, env[i]? = some (.fz (.int n)) ∧ (ev G e).1 env (fun y env1 => ∃ m, y = .d (.int m) ∧ match op with
    | .add => P.nx (env1.set i (.fz (.int (n + m))))
    | .sub => P.nx (env1.set i (.fz (.int (n - m))))
    | _ => False) P.er
  | .setIx i a e => fun env P => (ev G e).1 env (fun v env1 => settle env1 v fun d env2 => (∃ k ds, env2[i]? = some (.own k ds)) ∧ (ev G a).1 env2 (fun ia env3 => ∃ k ds n j, env3[i]? = some (.own k ds) ∧ ia = .d (.int n) ∧ ixN ds.length n = some j ∧ P.nx (env3.set i (.own k (ds.set j d)))) P.er) P.er
  | .setIx2 i a b e => fun env P => (ev G e).1 env (fun v env1 => settle env1 v fun d env2 => ∃ dss n j row m l, env2[i]? = some (.own2 dss) ∧ pureIx env2 a = some n ∧ ixN dss.length n = some j ∧ dss[j]? = some row ∧
      pureIx env2 b = some m ∧ ixN row.length m = some l ∧ P.nx (env2.set i (.own2 (dss.set j (row.set l d))))) P.er
  | .swap2 i a b => fun env P => ∃ dss n j m l x y, env[i]? = some (.own2 dss) ∧ pureIx env a = some n ∧ ixN dss.length n = some j ∧ pureIx env b = some m ∧ ixN dss.length m = some l ∧ dss[j]? = some x ∧ dss[l]? = some y ∧ P.nx (env.set i (.own2 ((dss.set j y).set l x)))
  | .setA f e => fun env P => (ev G e).1 env (fun v env1 => settle env1 v fun d env2 => ∃ C fs, env2[0]? = some (.ob C fs) ∧ G.fld C f = true ∧ fs.length < 1000 ∧ P.nx (env2.set 0 (.ob C (putD f d fs)))) P.er
  | .app i e => fun env P => (∃ k ds, env[i]? = some (.own k ds)) ∧ (ev G e).1 env (fun v env1 => settle env1 v fun d env2 => ∃ k ds, env2[i]? = some (.own k ds) ∧ ds.length < sizeLine ∧ P.nx (env2.set i (.own k (ds ++ [d])))) P.er
  | .ext i e => fun env P => (∃ k ds, env[i]? = some (.own k ds)) ∧ (ev G e).1 env (fun v env1 => settle env1 v fun d env2 => ∃ k ds es, env2[i]? = some (.own k ds) ∧ d = .lst es ∧ ds.length + es.length ≤ sizeLine ∧ P.nx (env2.set i (.own k (ds ++ es)))) P.er
  | .popA j i => fun env P => ∃ k ds d, env[i]? = some (.own k ds) ∧ i ≠ j ∧ ds[ds.length - 1]? = some d ∧ P.nx ((env.set i (.own k ds.dropLast)).set j (.fz d))
  | .expr e => fun env P => (ev G e).1 env (fun _ env1 => P.nx env1) P.er
  | .ite c a b => fun env P => (ev G c).2 env (fun k env1 => if k = true then evSs a env1 P else evSs b env1 P) P.er
  | .forS tg it b => fun env P => evI G it env (fun ds env1 => forL tg (evSs b) ds env1 P) P.er
  | .whl c b => fun env P => ∃ (I : En → Prop) (μ : En → Nat), I env ∧ ∀ env, I env → (ev G c).2 env (fun k env1 =>
      if k = true then evSs b env1 { nx := fun env2 => I env2 ∧ μ env2 < μ env, rt := P.rt, bk := P.nx, ct := fun env2 => I env2 ∧ μ env2 < μ env, er := P.er } else P.nx env1) P.er
  | .ret e => fun env P => (ev G e).1 env (fun v env1 => settle env1 v P.rt) P.er
  | .retN => fun env P => P.rt .non env
  | .rai C => fun env P => G.exc C = true ∧ P.er C env
  | .tryX b C nm su => fun env P => G.exc C = true ∧ evSs b env { P with er := fun c env1 => G.exc c = true ∧ (∀ i, nm = some i → i < env1.length) ∧ if G.sub c C = true then evU G c su (clrN nm env1) P else P.er c env1 }
  | .pas => fun env P => P.nx env
  | .newD i j e => fun env P => (ev G e).1 env (fun v env1 => settle env1 v fun d env2 => P.nx ((env2.set i (.dic [])).set j (.fz d))) P.er
  | .setK i a e => fun env P => (ev G e).1 env (fun v env1 => settle env1 v fun d env2 => (∃ kvs, env2[i]? = some (.dic kvs)) ∧ (ev G a).1 env2 (fun ia env3 => ∃ kvs n, env3[i]? = some (.dic kvs) ∧ ia = .d (.int n) ∧ kvs.lookup n = none ∧ kvs.length < sizeLine ∧ P.nx (env3.set i (.dic (kvs ++ [(n, d)])))) P.er) P.er
  | .forK k i b => fun env P => ∃ kvs, env[i]? = some (.dicF kvs) ∧ forL (.name k) (evSs b) (kvs.map fun p => .int p.1) env { P with er := fun _ _ => False }
def evSs : SL → SemS
  | .nil => fun env P => P.nx env
  | .cons s l => fun env P => ∃ is : List Nat, evS s (frzs env is) { P with nx := fun env1 => evSs l env1 P }
end
end
end PF

set_option Elab.async false
set_option linter.all false
set_option maxRecDepth 100000
set_option maxHeartbeats 4000000

namespace PF
open PySem PySem.Spec PyProof.Rows L2

section
theorem settle_mono {env e} {Q Q' : D → En → Prop} (h : settle env e Q) (q : ∀ d env', Q d env' → Q' d env') : settle env e Q' := by
  cases e with
  | d d => exact q _ _ h
  | vw i => simp only [settle] at h ⊢; split at h <;> first | exact q _ _ h | exact h.elim
  | nw ds => exact q _ _ h
  | nw2 dss => exact q _ _ h
theorem peekW_mono {env e} {Q Q' : D → Prop} (h : peekW env e Q) (q : ∀ d, Q d → Q' d) : peekW env e Q' := by
  cases e with
  | d d => exact q _ h
  | vw i => simp only [peekW] at h ⊢; split at h <;> first | exact q _ h | exact h.elim
  | nw ds => exact q _ h
  | nw2 dss => exact h.elim
theorem peekW_iff {env e} {Q : D → Prop} (h : peekW env e Q) : ∃ d, peek env e = some d ∧ Q d := by
  cases e with
  | d d => exact ⟨d, rfl, h⟩
  | vw i =>
    simp only [peekW] at h
    simp only [peek]
    split at h
    · rename_i e; first | (rw [e]; exact ⟨_, rfl, h⟩) | exact ⟨_, rfl, h⟩
    · rename_i e; first | (rw [e]; exact ⟨_, rfl, h⟩) | exact ⟨_, rfl, h⟩
    · exact h.elim
  | nw ds => exact ⟨_, rfl, h⟩
  | nw2 dss => exact h.elim
theorem opBin_mono {op x y} {Q Q' : Ev → Prop} (h : opBin op x y Q) (q : ∀ e, Q e → Q' e) : opBin op x y Q' := by
  unfold opBin at h ⊢
  split at h <;> first | exact q _ h | exact ⟨h.1, q _ h.2⟩ | exact ⟨h.1, h.2.1, h.2.2.1, h.2.2.2.1, q _ h.2.2.2.2⟩ | exact h.elim | skip
  · split at h
    · rename_i c; simp only [c, if_true]; exact ⟨h.1, q _ h.2⟩
    · rename_i c; simp only [c, if_false]; exact ⟨h.1, h.2.1, q _ h.2.2⟩
  · split at h
    · rename_i c; simp only [c, if_true]; exact q _ h
    · rename_i c; simp only [c, if_false]; exact ⟨h.1, q _ h.2⟩
theorem opCmp_mono {op x y} {Q Q' : Bool → Prop} (h : opCmp op x y Q) (q : ∀ e, Q e → Q' e) : opCmp op x y Q' := by
  unfold opCmp at h ⊢
  split at h <;> first
    | exact q _ h
    | exact ⟨h.1, h.2.1, q _ h.2.2⟩
    | (obtain ⟨a, b, c, d, z⟩ := h; exact ⟨a, b, c, d, q _ z⟩)
    | (obtain ⟨a, b, z⟩ := h; exact ⟨a, b, q _ z⟩)
    | exact h.elim
theorem opTru_mono {x} {Q Q' : Bool → Prop} (h : opTru x Q) (q : ∀ e, Q e → Q' e) : opTru x Q' := by
  cases x <;> first | exact q _ h | exact ⟨h.1, q _ h.2⟩ | exact h.elim
theorem opIx_mono {x y} {Q Q' : D → Prop} (h : opIx x y Q) (q : ∀ e, Q e → Q' e) : opIx x y Q' := by
  unfold opIx at h ⊢
  split at h <;> first | (obtain ⟨a, b, z⟩ := h; exact ⟨a, b, q _ z⟩) | exact h.elim
theorem opSl_mono {x lo hi} {Q Q' : Ev → Prop} (h : opSl x lo hi Q) (q : ∀ e, Q e → Q' e) : opSl x lo hi Q' := by
  cases x <;> first | exact q _ h | exact h.elim
theorem opBi_mono {f xs} {Q Q' : Ev → Prop} (h : opBi f xs Q) (q : ∀ e, Q e → Q' e) : opBi f xs Q' := by
  unfold opBi at h ⊢
  split at h <;> first
    | exact q _ h
    | (obtain ⟨a, b, z⟩ := h; exact ⟨a, b, q _ z⟩)
    | exact ⟨h.1, q _ h.2⟩
    | exact h.elim
theorem opIsi_mono {x ty} {Q Q' : Bool → Prop} (h : opIsi x ty Q) (q : ∀ e, Q e → Q' e) : opIsi x ty Q' := by
  obtain ⟨b, a, z⟩ := h
  exact ⟨b, a, q _ z⟩
theorem peeks_mono : ∀ {es env} {Q Q' : List D → Prop}, peeks env es Q → (∀ d, Q d → Q' d) → peeks env es Q'
  | [], _, _, _, h, q => q _ h
  | e :: es, env, Q, Q', h, q => peekW_mono h fun d h1 => peeks_mono h1 fun ds h2 => q _ h2
theorem callR_mono {n fn ds env} {Q Q' : Ev → En → Prop} {Er Er' : KE0} (h : callR n fn ds env Q Er) (q : ∀ e env', Q e env' → Q' e env') (r : ∀ c env', Er c env' → Er' c env') : callR n fn ds env Q' Er' :=
  let ⟨h0, sls, h1, h2, h3⟩ := h
  ⟨h0, sls, h1, h2, fn.mono h3 (fun d o ⟨env2, a, b⟩ => ⟨env2, a, q _ _ b⟩) fun c o ⟨env2, a, b⟩ => ⟨env2, a, r _ _ b⟩⟩

def MonoE (f : SemE) : Prop := ∀ env Q Q' Er Er', f env Q Er → (∀ e env', Q e env' → Q' e env') → (∀ c env', Er c env' → Er' c env') → f env Q' Er'
def MonoT (f : SemT) : Prop := ∀ env Q Q' Er Er', f env Q Er → (∀ e env', Q e env' → Q' e env') → (∀ c env', Er c env' → Er' c env') → f env Q' Er'
def MonoL (f : SemL) : Prop := ∀ env Q Q' Er Er', f env Q Er → (∀ e env', Q e env' → Q' e env') → (∀ c env', Er c env' → Er' c env') → f env Q' Er'
def MonoI (f : SemI) : Prop := ∀ env Q Q' Er Er', f env Q Er → (∀ e env', Q e env' → Q' e env') → (∀ c env', Er c env' → Er' c env') → f env Q' Er'
def MonoM (f : En → (List D → En → Prop) → KE0 → Prop) : Prop := ∀ env Q Q' Er Er', f env Q Er → (∀ e env', Q e env' → Q' e env') → (∀ c env', Er c env' → Er' c env') → f env Q' Er'
def MonoA (f : List Bool → En → (List (D ⊕ Nat) → En → Prop) → KE0 → Prop) : Prop := ∀ ms env Q Q' Er Er', f ms env Q Er → (∀ e env', Q e env' → Q' e env') → (∀ c env', Er c env' → Er' c env') → f ms env Q' Er'
def MonoO (f : En → (Option Int → En → Prop) → KE0 → Prop) : Prop := ∀ env Q Q' Er Er', f env Q Er → (∀ e env', Q e env' → Q' e env') → (∀ c env', Er c env' → Er' c env') → f env Q' Er'
theorem MonoE.ap {f} (m : MonoE f) {env Q Q' Er Er'} (h : f env Q Er) (q : ∀ e env', Q e env' → Q' e env') (r : ∀ c env', Er c env' → Er' c env') : f env Q' Er' := m _ _ _ _ _ h q r
theorem MonoT.ap {f} (m : MonoT f) {env Q Q' Er Er'} (h : f env Q Er) (q : ∀ e env', Q e env' → Q' e env') (r : ∀ c env', Er c env' → Er' c env') : f env Q' Er' := m _ _ _ _ _ h q r
theorem MonoL.ap {f} (m : MonoL f) {env Q Q' Er Er'} (h : f env Q Er) (q : ∀ e env', Q e env' → Q' e env') (r : ∀ c env', Er c env' → Er' c env') : f env Q' Er' := m _ _ _ _ _ h q r
theorem MonoI.ap {f} (m : MonoI f) {env Q Q' Er Er'} (h : f env Q Er) (q : ∀ e env', Q e env' → Q' e env') (r : ∀ c env', Er c env' → Er' c env') : f env Q' Er' := m _ _ _ _ _ h q r
theorem MonoM.ap {f} (m : MonoM f) {env Q Q' Er Er'} (h : f env Q Er) (q : ∀ e env', Q e env' → Q' e env') (r : ∀ c env', Er c env' → Er' c env') : f env Q' Er' := m _ _ _ _ _ h q r
theorem MonoA.ap {f} (m : MonoA f) {ms env Q Q' Er Er'} (h : f ms env Q Er) (q : ∀ e env', Q e env' → Q' e env') (r : ∀ c env', Er c env' → Er' c env') : f ms env Q' Er' := m _ _ _ _ _ _ h q r
theorem MonoO.ap {f} (m : MonoO f) {env Q Q' Er Er'} (h : f env Q Er) (q : ∀ e env', Q e env' → Q' e env') (r : ∀ c env', Er c env' → Er' c env') : f env Q' Er' := m _ _ _ _ _ h q r
theorem truS_mono {f} (h : MonoE f) : MonoT (truS f) := fun _ _ _ _ _ a q r => h.ap a (fun e env' x => peekW_mono x fun d y => opTru_mono y fun b z => q b _ z) r
theorem lcL_mono {is tg cnd elt} (hc : MonoT cnd) (he : MonoE elt) : ∀ {ds env acc} {Q Q' : List D → En → Prop}, lcL is tg cnd elt ds env acc Q → (∀ d env', Q d env' → Q' d env') → lcL is tg cnd elt ds env acc Q'
  | [], _, _, _, _, h, q => q _ _ h
  | d :: ds, env, acc, Q, Q', ⟨env1, h1, h2⟩, q => ⟨env1, h1, hc.ap h2 (fun b env2 h3 => by
      cases b with
      | true => simp only [if_true] at h3 ⊢; exact he.ap h3 (fun e env3 h4 => settle_mono h4 fun x env4 h5 => ⟨h5.1, lcL_mono hc he h5.2 q⟩) fun _ _ z => z
      | false => simp only [Bool.false_eq_true, if_false] at h3 ⊢; exact lcL_mono hc he h3 q) fun _ _ z => z⟩
variable {G : Tb}
mutual
theorem ev_mono : ∀ e : E, MonoE (ev G e).1 ∧ MonoT (ev G e).2
  | .cst c => have h : MonoE (ev G (.cst c)).1 := fun _ _ _ _ _ a q _ => q _ _ a; ⟨h, truS_mono h⟩
  | .var i =>
    have h : MonoE (ev G (.var i)).1 := by
      intro env Q Q' Er Er' a q _
      simp only [ev] at a ⊢
      split at a <;> first
        | exact q _ _ a
        | exact a.elim
    ⟨h, truS_mono h⟩
  | .glob x => have h : MonoE (ev G (.glob x)).1 := fun _ _ _ _ _ ⟨d, a, b⟩ q _ => ⟨d, a, q _ _ b⟩; ⟨h, truS_mono h⟩
  | .bin op a b => have h : MonoE (ev G (.bin op a b)).1 := fun _ _ _ _ _ x q r => (ev_mono a).1.ap x (fun ea env1 y => (ev_mono b).1.ap y (fun eb env2 z => peekW_mono z fun _ z => peekW_mono z fun _ z => opBin_mono z fun e => q e _) r) r
    ⟨h, truS_mono h⟩
  | .neg a => have h : MonoE (ev G (.neg a)).1 := fun _ _ _ _ _ x q r => (ev_mono a).1.ap x (fun ea env1 ⟨i, y, z⟩ => ⟨i, y, q _ _ z⟩) r
    ⟨h, truS_mono h⟩
  | .cmp op a b => have h : MonoE (ev G (.cmp op a b)).1 := fun _ _ _ _ _ x q r => (ev_mono a).1.ap x (fun ea env1 y => (ev_mono b).1.ap y (fun eb env2 z => peekW_mono z fun _ z => peekW_mono z fun _ z => opCmp_mono z fun e => q _ _) r) r
    ⟨h, truS_mono h⟩
  | .chain o1 o2 a b c => have h : MonoE (ev G (.chain o1 o2 a b c)).1 := fun _ _ _ _ _ x q r => (ev_mono a).1.ap x (fun ea env1 y => (ev_mono b).1.ap y (fun eb env2 z => peekW_mono z fun _ z => peekW_mono z fun _ z => opCmp_mono z fun e w => by
      cases e with
      | true => simp only [if_true] at w ⊢; exact (ev_mono c).1.ap w (fun ec env3 z => peekW_mono z fun _ z => peekW_mono z fun _ z => opCmp_mono z fun e => q _ _) r
      | false => simp only [Bool.false_eq_true, if_false] at w ⊢; exact q _ _ w) r) r
    ⟨h, truS_mono h⟩
  | .band l => ⟨evAndV_mono l, evAndT_mono l⟩
  | .bor l => ⟨evOrV_mono l, evOrT_mono l⟩
  | .bnot a => ⟨fun _ _ _ _ _ x q r => (ev_mono a).1.ap x (fun ea env1 ⟨i, y, z⟩ => ⟨i, y, q _ _ z⟩) r, fun _ _ _ _ _ x q r => (ev_mono a).2.ap x (fun b env1 z => q _ _ z) r⟩
  | .ife c a b => ⟨fun _ _ _ _ _ x q r => (ev_mono c).2.ap x (fun k env1 z => by
      cases k with
      | true => simp only [if_true] at z ⊢; exact (ev_mono a).1.ap z q r
      | false => simp only [Bool.false_eq_true, if_false] at z ⊢; exact (ev_mono b).1.ap z q r) r, fun _ _ _ _ _ x _ _ => x⟩
  | .call f l => have h : MonoE (ev G (.call f l)).1 := fun _ _ _ _ _ ⟨ms, fn, a, x⟩ q r => ⟨ms, fn, a, (evA_mono l).ap x (fun es env1 z => callR_mono z q r) r⟩
    ⟨h, truS_mono h⟩
  | .mk C l => have h : MonoE (ev G (.mk C l)).1 := fun _ _ _ _ _ ⟨n, fn, a, x⟩ q r => ⟨n, fn, a, (evM_mono l).ap x (fun es env1 ⟨z0, z00, z⟩ => ⟨z0, z00, fn.mono z (fun d _ z => q _ _ z) fun c _ z => r _ _ z⟩) r⟩
    ⟨h, truS_mono h⟩
  | .meth m o l => have h : MonoE (ev G (.meth m o l)).1 := fun _ _ _ _ _ ⟨C, n, fn, a, x⟩ q r => ⟨C, n, fn, a, (ev_mono o).1.ap x (fun eo env0 x => settle_mono x fun d0 env1 ⟨x0, x⟩ => ⟨x0, (evM_mono l).ap x (fun es env1 ⟨z0, z⟩ => ⟨z0, fn.mono z (fun d _ z => q _ _ z) fun c _ z => r _ _ z⟩) r⟩) r⟩
    ⟨h, truS_mono h⟩
  | .bi f l => have h : MonoE (ev G (.bi f l)).1 := fun _ _ _ _ _ x q r => ⟨x.1, (evL_mono l).ap x.2 (fun es env1 z => peeks_mono z fun ds z => opBi_mono z fun e z => q _ _ z) r⟩
    ⟨h, truS_mono h⟩
  | .isi a ty => have h : MonoE (ev G (.isi a ty)).1 := fun _ _ _ _ _ x q r => (ev_mono a).1.ap x (fun ea env1 z => peekW_mono z fun _ z => z.elim (fun z => .inl (opIsi_mono z fun b z => q _ _ z)) (fun ⟨C, fs, e1, e2, z⟩ => .inr ⟨C, fs, e1, e2, q _ _ z⟩)) r
    ⟨h, truS_mono h⟩
  | .attr o f => have h : MonoE (ev G (.attr o f)).1 := fun _ _ _ _ _ x q r => (ev_mono o).1.ap x (fun ea env1 z => peekW_mono z fun _ ⟨C, fs, d, y1, y2, y3, z⟩ => ⟨C, fs, d, y1, y2, y3, q _ _ z⟩) r
    ⟨h, truS_mono h⟩
  | .ix a b => have h : MonoE (ev G (.ix a b)).1 := fun _ _ _ _ _ x q r => (ev_mono a).1.ap x (fun ea env1 y => (ev_mono b).1.ap y (fun eb env2 z => peekW_mono z fun _ z => peekW_mono z fun _ z => opIx_mono z fun e => q _ _) r) r
    ⟨h, truS_mono h⟩
  | .sl a lo hi => have h : MonoE (ev G (.sl a lo hi)).1 := fun _ _ _ _ _ x q r => (ev_mono a).1.ap x (fun ea env1 y => (evO_mono lo).ap y (fun l env2 y => (evO_mono hi).ap y (fun h env3 z => peekW_mono z fun _ z => opSl_mono z fun e => q _ _) r) r) r
    ⟨h, truS_mono h⟩
  | .tup l => have h : MonoE (ev G (.tup l)).1 := fun _ _ _ _ _ x q r => (evM_mono l).ap x (fun es env1 z => ⟨z.1, q _ _ z.2⟩) r
    ⟨h, truS_mono h⟩
  | .lst l => have h : MonoE (ev G (.lst l)).1 := fun _ _ _ _ _ x q r => (evM_mono l).ap x (fun es env1 z => ⟨z.1, q _ _ z.2⟩) r
    ⟨h, truS_mono h⟩
  | .lst2 l => ⟨fun _ _ _ _ _ x q r => (evL_mono l).ap x (fun es env1 ⟨a, dss, b, z⟩ => ⟨a, dss, b, q _ _ z⟩) r, fun _ _ _ _ _ x _ _ => x⟩
  | .lc tg it cnd elt => have h : MonoE (ev G (.lc tg it cnd elt)).1 := fun _ _ _ _ _ x q r => (evI_mono it).ap x (fun ds env1 z => ⟨z.1, lcL_mono (evC_mono cnd) (ev_mono elt).1 z.2 fun acc env2 z => q _ _ z⟩) r
    ⟨h, truS_mono h⟩
  | .callN f l => have h : MonoE (ev G (.callN f l)).1 := fun _ _ _ _ _ ⟨ms, fn, a, x⟩ q r => ⟨ms, fn, a, (evM_mono l).ap x (fun ds env1 ⟨z1, z2, z3⟩ => ⟨z1, z2, fn.mono z3 (fun d _ ⟨ns, e, z⟩ => ⟨ns, e, q _ _ z⟩) fun c _ z => r _ _ z⟩) r⟩
    ⟨h, truS_mono h⟩
  | .dnin a i => have h : MonoE (ev G (.dnin a i)).1 := fun _ _ _ _ _ x q r => (ev_mono a).1.ap x (fun ea env1 ⟨n, kvs, z1, z2, z3⟩ => ⟨n, kvs, z1, z2, q _ _ z3⟩) r
    ⟨h, truS_mono h⟩
  | .dget i a => have h : MonoE (ev G (.dget i a)).1 := fun _ _ _ _ _ x q r => ⟨x.1, (ev_mono a).1.ap x.2 (fun ea env1 ⟨n, kvs, d, z1, z2, z3, z4⟩ => ⟨n, kvs, d, z1, z2, z3, q _ _ z4⟩) r⟩
    ⟨h, truS_mono h⟩
  | .lrng it => have h : MonoE (ev G (.lrng it)).1 := fun _ _ _ _ _ x q r => (evI_mono it).ap x (fun ds env1 z => ⟨z.1, q _ _ z.2⟩) r
    ⟨h, truS_mono h⟩
theorem evL_mono : ∀ l : EL, MonoL (evL G l)
  | .nil => fun _ _ _ _ _ x q _ => q _ _ x
  | .cons e l => fun _ _ _ _ _ x q r => (ev_mono e).1.ap x (fun a env1 y => (evL_mono l).ap y (fun b env2 z => q _ _ z) r) r
theorem evM_mono : ∀ l : EL, MonoM (evM G l)
  | .nil => fun _ _ _ _ _ x q _ => q _ _ x
  | .cons e l => fun _ _ _ _ _ x q r => (ev_mono e).1.ap x (fun a env1 y => settle_mono y fun d env2 y => (evM_mono l).ap y (fun b env2 z => q _ _ z) r) r
theorem evA_mono : ∀ l : EL, MonoA (evA G l)
  | .nil => fun _ _ _ _ _ _ x q _ => ⟨x.1, q _ _ x.2⟩
  | .cons e l => fun ms _ _ _ _ _ x q r => match ms, x with
    | false :: ms, x => (ev_mono e).1.ap x (fun a env1 y => settle_mono y fun d env2 y => (evA_mono l).ap y (fun b env2 z => q _ _ z) r) r
    | true :: ms, x => (ev_mono e).1.ap x (fun a env1 ⟨i, y, z⟩ => ⟨i, y, (evA_mono l).ap z (fun b env2 z => q _ _ z) r⟩) r
    | [], x => x.elim
theorem evO_mono : ∀ l : EO, MonoO (evO G l)
  | .none => fun _ _ _ _ _ x q _ => q _ _ x
  | .some e => fun _ _ _ _ _ x q r => (ev_mono e).1.ap x (fun a env1 ⟨i, y, z⟩ => ⟨i, y, q _ _ z⟩) r
theorem evI_mono : ∀ l : It, MonoI (evI G l)
  | .of e => fun _ _ _ _ _ x q r => (ev_mono e).1.ap x (fun a env1 y => settle_mono y fun d env2 z => by cases d <;> first | exact q _ _ z | exact z.elim) r
  | .rng1 a => fun _ _ _ _ _ x q r => (ev_mono a).1.ap x (fun a env1 ⟨i, y1, y2, y3, z⟩ => ⟨i, y1, y2, y3, q _ _ z⟩) r
  | .rng2 a b => fun _ _ _ _ _ x q r => (ev_mono a).1.ap x (fun a env1 y => (ev_mono b).1.ap y (fun b env2 ⟨i, j, y1, y2, y3, z⟩ => ⟨i, j, y1, y2, y3, q _ _ z⟩) r) r
  | .enum e => fun _ _ _ _ _ x q r => (ev_mono e).1.ap x (fun a env1 y => settle_mono y fun d env2 ⟨ds, a, z⟩ => ⟨ds, a, q _ _ z⟩) r
  | .zip a b => fun _ _ _ _ _ x q r => (ev_mono a).1.ap x (fun a env1 y => settle_mono y fun d env2 y => (ev_mono b).1.ap y (fun b env2 y => settle_mono y fun d env2 ⟨ds, es, a, b, z⟩ => ⟨ds, es, a, b, q _ _ z⟩) r) r
theorem evAndV_mono : ∀ l : EL, MonoE (evAndV G l)
  | .nil => fun _ _ _ _ _ x _ _ => x
  | .cons a .nil => (ev_mono a).1
  | .cons a (.cons b l) => fun _ _ _ _ _ x q r => (ev_mono a).1.ap x (fun e env1 ⟨c, y, z⟩ => ⟨c, y, by
      cases c with
      | true => simp only [if_true] at z ⊢; exact (evAndV_mono (.cons b l)).ap z q r
      | false => simp only [Bool.false_eq_true, if_false] at z ⊢; exact q _ _ z⟩) r
theorem evOrV_mono : ∀ l : EL, MonoE (evOrV G l)
  | .nil => fun _ _ _ _ _ x _ _ => x
  | .cons a .nil => (ev_mono a).1
  | .cons a (.cons b l) => fun _ _ _ _ _ x q r => (ev_mono a).1.ap x (fun e env1 ⟨c, y, z⟩ => ⟨c, y, by
      cases c with
      | true => simp only [if_true] at z ⊢; exact q _ _ z
      | false => simp only [Bool.false_eq_true, if_false] at z ⊢; exact (evOrV_mono (.cons b l)).ap z q r⟩) r
theorem evAndT_mono : ∀ l : EL, MonoT (evAndT G l)
  | .nil => fun _ _ _ _ _ x _ _ => x
  | .cons a .nil => (ev_mono a).2
  | .cons a (.cons b l) => fun _ _ _ _ _ x q r => (ev_mono a).2.ap x (fun c env1 z => by
      cases c with
      | true => simp only [if_true] at z ⊢; exact (evAndT_mono (.cons b l)).ap z q r
      | false => simp only [Bool.false_eq_true, if_false] at z ⊢; exact q _ _ z) r
theorem evOrT_mono : ∀ l : EL, MonoT (evOrT G l)
  | .nil => fun _ _ _ _ _ x _ _ => x
  | .cons a .nil => (ev_mono a).2
  | .cons a (.cons b l) => fun _ _ _ _ _ x q r => (ev_mono a).2.ap x (fun c env1 z => by
      cases c with
      | true => simp only [if_true] at z ⊢; exact q _ _ z
      | false => simp only [Bool.false_eq_true, if_false] at z ⊢; exact (evOrT_mono (.cons b l)).ap z q r) r
theorem evC_mono : ∀ l : EL, MonoT (evC G l)
  | .nil => fun _ _ _ _ _ x q _ => q _ _ x
  | .cons a .nil => (ev_mono a).2
  | .cons _ (.cons _ _) => fun _ _ _ _ _ x _ _ => x
end
end

structure Po.Le (P P' : Po) : Prop where
  nx : ∀ env, P.nx env → P'.nx env
  rt : ∀ d env, P.rt d env → P'.rt d env
  bk : ∀ env, P.bk env → P'.bk env
  ct : ∀ env, P.ct env → P'.ct env
  er : ∀ c env, P.er c env → P'.er c env
def MonoS (f : SemS) : Prop := ∀ env P P', f env P → Po.Le P P' → f env P'
theorem storeE_mono {i e env} {Q Q' : En → Prop} (h : storeE i e env Q) (q : ∀ env, Q env → Q' env) : storeE i e env Q' := by
  cases e with
  | vw j =>
    unfold storeE at h ⊢
    exact settle_mono h fun d env1 => q _
  | d d => exact q _ h
  | nw ds => exact q _ h
  | nw2 ds => exact q _ h
theorem forL_mono {tg body} (hb : MonoS body) : ∀ {ds env P P'}, forL tg body ds env P → Po.Le P P' → forL tg body ds env P'
  | [], _, _, _, h, q => q.nx _ h
  | d :: ds, env, P, P', ⟨env1, h1, h2⟩, q => ⟨env1, h1, hb _ _ _ h2 ⟨fun env2 h => forL_mono hb h q, q.rt, q.nx, fun env2 h => forL_mono hb h q, q.er⟩⟩
section
variable {G : Tb}
theorem evU_mono {c : Str} {u : XU} {env : En} {P P' : Po} (h : evU G c u env P) (q : Po.Le P P') : evU G c u env P' := by
  cases u with
  | ret x => obtain ⟨d, a, b⟩ := h; exact ⟨d, a, q.rt _ _ b⟩
  | ifr k x =>
    obtain ⟨b, a, h⟩ := h
    refine ⟨b, a, ?_⟩
    split at h
    · rename_i z; rw [if_pos z]; obtain ⟨d, a, b⟩ := h; exact ⟨d, a, q.rt _ _ b⟩
    · rename_i z; rw [if_neg z]; exact q.nx _ h
mutual
theorem evS_mono : ∀ s : S, MonoS (evS G s)
  | .asg i e => fun _ _ _ h q => (ev_mono e).1.ap h (fun v env1 h => storeE_mono h q.nx) q.er
  | .asgT is e => fun _ _ _ h q => (ev_mono e).1.ap h (fun v env1 h => settle_mono h fun d env2 ⟨ds, env3, a, b, c⟩ => ⟨ds, env3, a, b, q.nx _ c⟩) q.er
  | .par2 i j a b => fun env P P' h q => by
      have h' : evL G (.cons a (.cons b .nil)) env (fun es env1 => ∃ env2, putEs env1 [i, j] es = some env2 ∧ P.nx env2) P.er := h
      show evL G (.cons a (.cons b .nil)) env (fun es env1 => ∃ env2, putEs env1 [i, j] es = some env2 ∧ P'.nx env2) P'.er
      exact (evL_mono (.cons a (.cons b .nil))).ap h' (fun ds env3 ⟨d, a, c⟩ => ⟨d, a, q.nx _ c⟩) q.er
  | .par3 i j k a b c => fun env P P' h q => by
      have h' : evL G (.cons a (.cons b (.cons c .nil))) env (fun es env1 => ∃ env2, putEs env1 [i, j, k] es = some env2 ∧ P.nx env2) P.er := h
      show evL G (.cons a (.cons b (.cons c .nil))) env (fun es env1 => ∃ env2, putEs env1 [i, j, k] es = some env2 ∧ P'.nx env2) P'.er
      exact (evL_mono (.cons a (.cons b (.cons c .nil)))).ap h' (fun ds env3 ⟨d, a, c⟩ => ⟨d, a, q.nx _ c⟩) q.er
  | .aug i op e => fun _ _ _ ⟨n, h0, h⟩ q => ⟨n, h0, (ev_mono e).1.ap h (fun y env1 ⟨m, a, b⟩ => ⟨m, a, by cases op <;> first | exact q.nx _ b | exact b.elim⟩) q.er⟩
  | .setIx i a e => fun _ _ _ h q => (ev_mono e).1.ap h (fun v env1 h => settle_mono h fun d env2 ⟨h0, h⟩ => ⟨h0, (ev_mono a).1.ap h (fun ia env2 ⟨k, ds, n, j, x1, x2, x3, x4⟩ => ⟨k, ds, n, j, x1, x2, x3, q.nx _ x4⟩) q.er⟩) q.er
  | .setIx2 i a b e => fun _ _ _ h q => (ev_mono e).1.ap h (fun v env1 h => settle_mono h fun d env2 ⟨k, ds, n, j, x0, x00, x1, x2, x3, x4, x5, x6, x7⟩ => ⟨k, ds, n, j, x0, x00, x1, x2, x3, x4, x5, x6, q.nx _ x7⟩) q.er
  | .swap2 i a b => fun _ _ _ ⟨dss, n, j, m, l, x, y, z1, z2, z3, z4, z5, z6, z7, z8⟩ q => ⟨dss, n, j, m, l, x, y, z1, z2, z3, z4, z5, z6, z7, q.nx _ z8⟩
  | .setA f e => fun _ _ _ h q => (ev_mono e).1.ap h (fun v env1 h => settle_mono h fun d env2 ⟨C, fs, x1, x2, x3, x4⟩ => ⟨C, fs, x1, x2, x3, q.nx _ x4⟩) q.er
  | .app i e => fun _ _ _ ⟨h0, h⟩ q => ⟨h0, (ev_mono e).1.ap h (fun v env1 h => settle_mono h fun d env2 ⟨k, ds, x1, x2, x3⟩ => ⟨k, ds, x1, x2, q.nx _ x3⟩) q.er⟩
  | .ext i e => fun _ _ _ ⟨h0, h⟩ q => ⟨h0, (ev_mono e).1.ap h (fun v env1 h => settle_mono h fun d env2 ⟨k, ds, es, x1, x2, x3, x4⟩ => ⟨k, ds, es, x1, x2, x3, q.nx _ x4⟩) q.er⟩
  | .popA j i => fun _ _ _ ⟨k, ds, d, x1, x2, x3, x4⟩ q => ⟨k, ds, d, x1, x2, x3, q.nx _ x4⟩
  | .expr e => fun _ _ _ h q => (ev_mono e).1.ap h (fun v env1 h => q.nx _ h) q.er
  | .ite c a b => fun _ _ _ h q => (ev_mono c).2.ap h (fun k env1 h => by
      cases k with
      | true => simp only [if_true] at h ⊢; exact evSs_mono a _ _ _ h q
      | false => simp only [Bool.false_eq_true, if_false] at h ⊢; exact evSs_mono b _ _ _ h q) q.er
  | .forS tg it b => fun _ _ _ h q => (evI_mono it).ap h (fun ds env1 h => forL_mono (evSs_mono b) h q) q.er
  | .whl c b => fun _ _ _ ⟨I, μ, h0, h⟩ q => ⟨I, μ, h0, fun env hi => (ev_mono c).2.ap (h env hi) (fun k env1 h => by
      cases k with
      | true => simp only [if_true] at h ⊢; exact evSs_mono b _ _ _ h ⟨fun _ z => z, q.rt, q.nx, fun _ z => z, q.er⟩
      | false => simp only [Bool.false_eq_true, if_false] at h ⊢; exact q.nx _ h) q.er⟩
  | .ret e => fun _ _ _ h q => (ev_mono e).1.ap h (fun v env1 h => settle_mono h q.rt) q.er
  | .retN => fun _ _ _ h q => q.rt _ _ h
  | .rai C => fun _ _ _ h q => ⟨h.1, q.er _ _ h.2⟩
  | .tryX b C nm su => fun _ _ _ ⟨h0, h⟩ q => ⟨h0, evSs_mono b _ _ _ h ⟨q.nx, q.rt, q.bk, q.ct, fun c env1 ⟨h1, h3, h⟩ => ⟨h1, h3, by
      split at h
      · rename_i x; rw [if_pos x]; exact evU_mono h q
      · rename_i x; rw [if_neg x]; exact q.er _ _ h⟩⟩⟩
  | .pas => fun _ _ _ h q => q.nx _ h
  | .newD i j e => fun _ _ _ h q => (ev_mono e).1.ap h (fun v env1 h => settle_mono h fun d env2 z => q.nx _ z) q.er
  | .setK i a e => fun _ _ _ h q => (ev_mono e).1.ap h (fun v env1 h => settle_mono h fun d env2 ⟨h0, h⟩ => ⟨h0, (ev_mono a).1.ap h (fun ia env2 ⟨kvs, n, x1, x2, x3, x4, x5⟩ => ⟨kvs, n, x1, x2, x3, x4, q.nx _ x5⟩) q.er⟩) q.er
  | .forK k i b => fun _ _ _ ⟨kvs, h0, h⟩ q => ⟨kvs, h0, forL_mono (evSs_mono b) h ⟨q.nx, q.rt, q.bk, q.ct, fun _ _ z => z⟩⟩
theorem evSs_mono : ∀ l : SL, MonoS (evSs G l)
  | .nil => fun _ _ _ h q => q.nx _ h
  | .cons s l => fun _ _ _ ⟨is, h⟩ q => ⟨is, evS_mono s _ _ _ h ⟨fun env1 h => evSs_mono l _ _ _ h q, q.rt, q.bk, q.ct, q.er⟩⟩
end
end
end PF

set_option Elab.async false
set_option linter.all false
set_option maxRecDepth 100000
set_option maxHeartbeats 4000000

namespace PF
open PySem PySem.Spec PyProof.Rows L2

section
variable {K : PySem.W.Frag} {cl : Str → Option Addr} {B : List Addr} {F H F' H' : Hp} {σ : L2.St} {env env' : En} {A A' : List (List Addr)} {v : V} {e : Ev} {d : D}

theorem mem_fl {A : List (List Addr)} {i : Nat} {as : List Addr} {a : Addr} (h : A[i]? = some as) (m : a ∈ as) : a ∈ A.flatten :=
  List.mem_flatten.mpr ⟨as, List.mem_of_getElem? h, m⟩
theorem RepS.grow {w : Option V} {as : List Addr} {sl : Sl} (hF : ∀ a o, F a = some o → F' a = some o) (hH : ∀ a o, a ∈ as → H a = some o → H' a = some o) (hn : ∀ a ∈ as, F' a = none)
    (r : RepS K cl B F H w as sl) : RepS K cl B F' H' w as sl := by
  cases sl with
  | no => exact r
  | fz d =>
    obtain ⟨e1, x, e2, r⟩ := r
    exact ⟨e1, x, e2, r.mono hF⟩
  | own k ds =>
    obtain ⟨a, vs, e1, e2, e3, e4, r, b⟩ := r
    subst e2
    exact ⟨a, vs, e1, rfl, hn a (by simp), hH a _ (by simp) e4, r.mono hF, b⟩
  | own2 dss =>
    obtain ⟨a, bs, e1, e2, e3, e4, r⟩ := r
    subst e2
    exact ⟨a, bs, e1, rfl, hn a (by simp), hH a _ (by simp) e4, r.mono hF (fun b m _ => hn b (by simp [m])) fun b m o h => hH b o (by simp [m]) h⟩
  | ob C fs =>
    obtain ⟨a, Ca, dx, vs, e1, e2, e3, e4, e5, r, b⟩ := r
    subst e2
    exact ⟨a, Ca, dx, vs, e1, rfl, hn a (by simp), e4, hH a _ (by simp) e5, r.mono hF, b⟩
  | dic kvs =>
    obtain ⟨a, ks, e1, e2, e3, e4, r⟩ := r
    subst e2
    exact ⟨a, ks, e1, rfl, hn a (by simp), hH a _ (by simp) e4, r.mono hF⟩
  | dicF kvs =>
    obtain ⟨e2, a, ks, e1, e4, r⟩ := r
    exact ⟨e2, a, ks, e1, rd_mono hF e4, r.mono hF⟩
theorem SOk.grow (ok : SOk K cl B F H σ env A) (hF : ∀ a o, F a = some o → F' a = some o) (hH : ∀ a o, a ∈ A.flatten → H a = some o → H' a = some o) (hn : ∀ a ∈ A.flatten, F' a = none) (hs : ∀ a o, F' a = some o → H' a = some o) : SOk K cl B F' H' σ env A where
  sub := hs
  len := ok.len
  lenA := ok.lenA
  slot := fun i sl w as h1 h2 h3 => (ok.slot i sl w as h1 h2 h3).grow hF (fun a o m => hH a o (mem_fl h3 m)) fun a m => hn a (mem_fl h3 m)
  nd := ok.nd
  fr := hn
  tr := fun a m => by
    cases q : H a with
    | none => exact absurd q (ok.tr a m)
    | some o => rw [hH a o m q]; exact fun z => nomatch z
/-- a new object that nothing speaks of yet -/
theorem SOk.lay {p : Addr} {o : HO} (ok : SOk K cl B F H σ env A) (hp : H p = none) : SOk K cl B F (upd H p o) σ env A :=
  ok.grow (fun _ _ h => h) (fun a o' _ h => by rw [upd_ne (ne_of_none h hp)]; exact h) ok.fr fun a o' h => by rw [upd_ne (ne_of_none (ok.sub _ _ h) hp)]; exact ok.sub _ _ h
theorem Gr.lay {p : Addr} {o : HO} (hp : H p = none) : Gr F H A F (upd H p o) A where
  fr := fun _ _ h => h
  keep := fun a o' h _ => by rw [upd_ne (ne_of_none h hp)]; exact h
  new := fun _ h => .inl h
  own := fun _ h => .inl h
  stay := fun a h => by
    by_cases e : a = p
    · subst e; exact absurd hp h
    · rw [upd_ne e]; exact h
  nf := fun a o' u h => by rw [h]; exact fun z => nomatch z
/-- a new object that is frozen -/
theorem SOk.layF {p : Addr} {o : HO} (ok : SOk K cl B F H σ env A) (hp : H p = none) : SOk K cl B (upd F p o) (upd H p o) σ env A := by
  have fp : F p = none := by
    cases q : F p with
    | none => rfl
    | some u => rw [ok.sub _ _ q] at hp; cases hp
  refine ok.grow (fun a o' h => by rw [upd_ne (ne_of_none h fp)]; exact h) (fun a o' _ h => by rw [upd_ne (ne_of_none h hp)]; exact h) (fun a m => ?_) fun a o' h => ?_
  · rw [upd_ne (fun e => by subst e; exact ok.tr _ m hp)]; exact ok.fr a m
  · by_cases e : a = p
    · subst e; rw [upd_same] at h ⊢; exact h
    · rw [upd_ne e] at h ⊢; exact ok.sub _ _ h
theorem Gr.layF {p : Addr} {o : HO} (hF : ∀ a o, F a = some o → H a = some o) (hp : H p = none) (hz : ∀ o' u, o ≠ .frz o' u := by intro _ _ h; cases h) : Gr F H A (upd F p o) (upd H p o) A where
  fr := fun a o' h => by rw [upd_ne (ne_of_none (hF _ _ h) hp)]; exact h
  keep := fun a o' h _ => by rw [upd_ne (ne_of_none h hp)]; exact h
  new := fun a h => by
    by_cases e : a = p
    · subst e; exact .inr (.inl hp)
    · rw [upd_ne e] at h; exact .inl h
  own := fun _ h => .inl h
  stay := fun a h => by
    by_cases e : a = p
    · subst e; exact absurd hp h
    · rw [upd_ne e]; exact h
  nf := fun a o' u h => by
    by_cases e : a = p
    · subst e; rw [upd_same] at h; exact absurd (Option.some.inj h) (hz o' u)
    · rw [upd_ne e] at h; rw [h]; exact fun z => nomatch z
/-- something that stands is frozen -/
theorem SOk.freeze {p : Addr} {o : HO} (ok : SOk K cl B F H σ env A) (hp : H p = some o) (fp : F p = none) (hn : p ∉ A.flatten) : SOk K cl B (upd F p o) H σ env A := by
  refine ok.grow (fun a o' h => by rw [upd_ne (ne_of_none h fp)]; exact h) (fun a o' _ h => h) (fun a m => ?_) fun a o' h => ?_
  · rw [upd_ne (fun e => by subst e; exact hn m)]; exact ok.fr a m
  · by_cases e : a = p
    · subst e; rw [upd_same] at h; rw [← h]; exact hp
    · rw [upd_ne e] at h; exact ok.sub _ _ h
theorem Gr.freeze {p : Addr} {o : HO} (hA : ∀ a ∈ A'.flatten, a ∈ A.flatten) (fp : F p = none) (hn : H p = none ∨ p ∈ A.flatten) (hz : ∀ o' u, o ≠ .frz o' u := by intro _ _ h; cases h) : Gr F H A (upd F p o) H A' where
  fr := fun a o' h => by rw [upd_ne (ne_of_none h fp)]; exact h
  keep := fun a o' h _ => h
  new := fun a h => by
    by_cases e : a = p
    · subst e; exact .inr hn
    · rw [upd_ne e] at h; exact .inl h
  own := fun a h => .inl (hA a h)
  stay := fun a h => h
  nf := fun a o' u h => by
    by_cases e : a = p
    · subst e; rw [upd_same] at h; exact absurd (Option.some.inj h) (hz o' u)
    · rw [upd_ne e] at h; rw [h]; exact fun z => nomatch z

theorem fl_set {A : List (List Addr)} {i : Nat} {as : List Addr} {a : Addr} (m : a ∈ (A.set i as).flatten) : a ∈ A.flatten ∨ a ∈ as := by
  obtain ⟨l, h1, h2⟩ := List.mem_flatten.mp m
  rcases List.mem_or_eq_of_mem_set h1 with h | h
  · exact .inl (List.mem_flatten.mpr ⟨l, h, h2⟩)
  · subst h; exact .inr h2
theorem fl_split {A : List (List Addr)} {i : Nat} (h : i < A.length) : A.flatten = (A.take i).flatten ++ (A[i] ++ (A.drop (i + 1)).flatten) := by
  have e : A = A.take i ++ (A[i] :: A.drop (i + 1)) := by rw [List.getElem_cons_drop, List.take_append_drop]
  conv => lhs; rw [e]
  rw [List.flatten_append, List.flatten_cons]
theorem fl_set_split {A : List (List Addr)} {i : Nat} {as : List Addr} (h : i < A.length) : (A.set i as).flatten = (A.take i).flatten ++ (as ++ (A.drop (i + 1)).flatten) := by
  rw [List.set_eq_take_append_cons_drop, if_pos h, List.flatten_append, List.flatten_cons]
/-- the owned places with those of slot i changed -/
theorem nd_set {A : List (List Addr)} {i : Nat} {as : List Addr} (h : i < A.length) (nd : A.flatten.Nodup) (na : as.Nodup) (hd : ∀ a ∈ as, a ∈ A.flatten → a ∈ A[i]) : (A.set i as).flatten.Nodup := by
  rw [fl_split h] at nd
  rw [fl_set_split h]
  have n0 := nd
  rw [List.nodup_append] at nd ⊢
  obtain ⟨n1, n2, n3⟩ := nd
  rw [List.nodup_append] at n2
  obtain ⟨n4, n5, n6⟩ := n2
  refine ⟨n1, ?_, ?_⟩
  · rw [List.nodup_append]
    refine ⟨na, n5, fun a ha b hb e => ?_⟩
    subst e
    have := hd a ha (by rw [fl_split h]; simp [hb])
    exact n6 a this a hb rfl
  · intro a ha b hb e
    subst e
    rcases List.mem_append.mp hb with hb | hb
    · have := hd a hb (by rw [fl_split h]; simp [ha])
      exact n3 a ha a (by simp [this]) rfl
    · exact n3 a ha a (by simp [hb]) rfl
theorem not_fl_set {A : List (List Addr)} {i : Nat} {as : List Addr} {a : Addr} (h : i < A.length) (nd : A.flatten.Nodup) (m : a ∈ A[i]) (n : a ∉ as) : a ∉ (A.set i as).flatten := by
  rw [fl_split h] at nd
  rw [fl_set_split h]
  rw [List.nodup_append] at nd
  obtain ⟨n1, n2, n3⟩ := nd
  rw [List.nodup_append] at n2
  obtain ⟨n4, n5, n6⟩ := n2
  intro hm
  rcases List.mem_append.mp hm with hm | hm
  · exact n3 a hm a (by simp [m]) rfl
  · rcases List.mem_append.mp hm with hm | hm
    · exact n hm
    · exact n6 a m a hm rfl

/-- slot i gets a new meaning (and value) -/
theorem SOk.put {i : Nat} {sl : Sl} {w : Option V} {as : List Addr} (ok : SOk K cl B F H σ env A) (hi : i < σ.length) (r : RepS K cl B F H w as sl)
    (na : as.Nodup) (hd : ∀ a ∈ as, a ∈ A.flatten → a ∈ A[i]'(by rw [ok.lenA]; exact hi)) (hF : ∀ a ∈ as, F a = none) (hH : ∀ a ∈ as, H a ≠ none) :
    SOk K cl B F H (σ.set i w) (env.set i sl) (A.set i as) where
  sub := ok.sub
  len := by simp [ok.len]
  lenA := by simp [ok.lenA]
  slot := fun j sl' w' as' h1 h2 h3 => by
    by_cases e : i = j
    · subst e
      rw [List.getElem?_set_self (by rw [ok.len]; exact hi)] at h1
      rw [List.getElem?_set_self hi] at h2
      rw [List.getElem?_set_self (by rw [ok.lenA]; exact hi)] at h3
      cases h1; cases h2; cases h3
      exact r
    · rw [List.getElem?_set_ne e] at h1 h2 h3
      exact ok.slot j _ _ _ h1 h2 h3
  nd := nd_set (by rw [ok.lenA]; exact hi) ok.nd na hd
  fr := fun a m => (fl_set m).elim (ok.fr a) (hF a)
  tr := fun a m => (fl_set m).elim (ok.tr a) (hH a)
theorem Gr.put {i : Nat} {as : List Addr} (h : ∀ a ∈ as, a ∈ A.flatten ∨ H a = none) : Gr F H A F H (A.set i as) where
  fr := fun _ _ h => h
  keep := fun _ _ h _ => h
  new := fun _ h => .inl h
  own := fun a m => (fl_set m).elim .inl (h a)
  stay := fun _ h => h
  nf := fun a o' u h => by rw [h]; exact fun z => nomatch z

theorem upd_mono {p : Addr} {o : HO} (fp : F p = none) : ∀ a o', F a = some o' → upd F p o a = some o' := fun a o' h => by rw [upd_ne (ne_of_none h fp)]; exact h

theorem set_id {α : Type} {l : List α} {i : Nat} {x : α} (h : l[i]? = some x) : l.set i x = l := by
  obtain ⟨hi, e⟩ := List.getElem?_eq_some_iff.mp h
  subst e
  exact List.set_getElem_self hi

/-- the rows of a list of lists are frozen -/
theorem freeze_rows : ∀ {bs : List Addr} {dss : List (List D)} {F : Hp} {A : List (List Addr)}, SOk K cl B F H σ env A → Rows2 K cl F H bs dss → bs.Nodup → (∀ b ∈ bs, b ∉ A.flatten) →
    ∃ F', (∀ a o, F a = some o → F' a = some o) ∧ (∀ a, F' a ≠ none → F a ≠ none ∨ a ∈ bs) ∧ SOk K cl B F' H σ env A ∧ RepL K cl F' (bs.map V.ref) (dss.map D.lst) ∧ (∀ a o u, F' a = some (.frz o u) → F a ≠ none)
  | [], [], F, A, ok, _, _, _ => ⟨F, fun _ _ h => h, fun _ h => .inl h, ok, .nil, fun _ _ _ h => by rw [h]; exact fun z => nomatch z⟩
  | b :: bs, ds :: dss, F, A, ok, .cons (vs := vs) h1 h2 h3 h4, nd, hn => by
    have ok1 := ok.freeze h2 h1 (hn b (by simp))
    have nb : b ∉ bs := (List.nodup_cons.mp nd).1
    have r1 : Rows2 K cl (upd F b (.lst vs)) H bs dss := h4.mono (upd_mono h1) (fun x m h => by rw [upd_ne (fun e => by subst e; exact nb m)]; exact h) fun _ _ _ h => h
    obtain ⟨F', a1, a2, a3, a4, a5⟩ := freeze_rows ok1 r1 (List.nodup_cons.mp nd).2 fun x m => hn x (by simp [m])
    refine ⟨F', fun a o h => a1 a o (upd_mono h1 a o h), fun a h => ?_, a3, ?_, fun a o u h => ?_⟩
    · rcases a2 a h with q | q
      · by_cases e : a = b
        · subst e; exact .inr (by simp)
        · rw [upd_ne e] at q; exact .inl q
      · exact .inr (by simp [q])
    · refine .cons (.lst (Rd.of (a1 b _ upd_same)) ((h3.mono (upd_mono h1)).mono a1)) a4
    · have q := a5 a o u h
      by_cases e : a = b
      · subst e
        have := a1 a _ upd_same
        rw [h] at this
        cases this
      · rw [upd_ne e] at q; exact q

/-- THE STEP from what an expression gives to a value that stays -/
theorem settle_ok {F0 H0 : Hp} {A0 : List (List Addr)} {Q : D → En → Prop} (ok : SOk K cl B F H σ env A) (r : RepE K cl H0 F H σ env A v e) (g : Gr F0 H0 A0 F H A)
    (h : settle env e Q) : ∃ d env' F' A', Q d env' ∧ SOk K cl B F' H σ env' A' ∧ Rep K cl F' v d ∧ Gr F0 H0 A0 F' H A' := by
  cases e with
  | d d => exact ⟨d, env, F, A, h, ok, r, g⟩
  | vw i =>
    have hs : σ[i]? = some (some v) := r
    simp only [settle] at h
    split at h
    · rename_i d he
      obtain ⟨w, as, h1, h2, e1, y, e2, e3⟩ := ok.at he
      rw [hs] at h1; cases h1; cases e2
      exact ⟨d, env, F, A, h, ok, e3, g⟩
    · rename_i ds he
      obtain ⟨w, as, h1, h2, a, vs, e1, e2, e3, e4, e5, _⟩ := ok.at he
      rw [hs] at h1; cases h1; cases e1; subst e2
      have hi : i < σ.length := (List.getElem?_eq_some_iff.mp hs).1
      have hiA : i < A.length := by rw [ok.lenA]; exact hi
      have hA : A[i] = [a] := (List.getElem?_eq_some_iff.mp h2).2
      have ok1 := ok.put (i := i) (sl := .no) (w := some (.ref a)) (as := []) hi rfl .nil (fun _ m => nomatch m) (fun _ m => nomatch m) fun _ m => nomatch m
      have nm : a ∉ (A.set i []).flatten := not_fl_set hiA ok.nd (by rw [hA]; simp) (by simp)
      have ok2 := ok1.freeze e4 e3 nm
      have r3 : RepS K cl B (upd F a (.lst vs)) H (some (.ref a)) [] (.fz (.lst ds)) := ⟨rfl, _, rfl, .lst (Rd.of upd_same) (e5.mono (upd_mono e3))⟩
      have ok3 := ok2.put (i := i) (sl := .fz (.lst ds)) (w := some (.ref a)) (as := []) (by simpa using hi) r3 .nil (fun _ m => nomatch m) (fun _ m => nomatch m) fun _ m => nomatch m
      rw [List.set_set, List.set_set, List.set_set, set_id hs] at ok3
      refine ⟨_, _, _, _, h, ok3, .lst (Rd.of upd_same) (e5.mono (upd_mono e3)), g.trans (Gr.freeze (fun b m => (fl_set m).elim id fun z => nomatch z) e3 (.inr (mem_fl h2 (by simp))))⟩
    · rename_i dss he
      obtain ⟨w, as, h1, h2, a, bs, e1, e2, e3, e4, e5⟩ := ok.at he
      rw [hs] at h1; cases h1; cases e1; subst e2
      have hi : i < σ.length := (List.getElem?_eq_some_iff.mp hs).1
      have hiA : i < A.length := by rw [ok.lenA]; exact hi
      have hA : A[i] = a :: bs := (List.getElem?_eq_some_iff.mp h2).2
      have ndA : (a :: bs).Nodup := by
        have nd := ok.nd
        rw [fl_split hiA, hA] at nd
        exact (List.nodup_append.mp (List.nodup_append.mp nd).2.1).1
      have ok1 := ok.put (i := i) (sl := .no) (w := some (.ref a)) (as := []) hi rfl .nil (fun _ m => nomatch m) (fun _ m => nomatch m) fun _ m => nomatch m
      have nm : ∀ x ∈ a :: bs, x ∉ (A.set i []).flatten := fun x m => not_fl_set hiA ok.nd (by rw [hA]; exact m) (by simp)
      obtain ⟨F1, f1, f2, ok2, r2, f3⟩ := freeze_rows ok1 e5 (List.nodup_cons.mp ndA).2 fun b m => nm b (by simp [m])
      have fa : F1 a = none := by
        cases q : F1 a with
        | none => rfl
        | some o =>
          rcases f2 a (by rw [q]; exact fun z => nomatch z) with z | z
          · exact absurd e3 z
          · exact absurd z (List.nodup_cons.mp ndA).1
      have ok3 := ok2.freeze e4 fa (nm a (by simp))
      have rr : Rep K cl (upd F1 a (.lst (bs.map V.ref))) (.ref a) (.lst (dss.map .lst)) := .lst (Rd.of upd_same) (r2.mono (upd_mono fa))
      have r3 : RepS K cl B (upd F1 a (.lst (bs.map V.ref))) H (some (.ref a)) [] (.fz (.lst (dss.map .lst))) := ⟨rfl, _, rfl, rr⟩
      have ok4 := ok3.put (i := i) (sl := .fz (.lst (dss.map .lst))) (w := some (.ref a)) (as := []) (by simpa using hi) r3 .nil (fun _ m => nomatch m) (fun _ m => nomatch m) fun _ m => nomatch m
      rw [List.set_set, List.set_set, List.set_set, set_id hs] at ok4
      refine ⟨_, _, _, _, h, ok4, rr, g.trans ⟨fun x o z => upd_mono fa x o (f1 x o z), fun _ _ z _ => z, fun x z => ?_, fun x m => .inl ((fl_set m).elim id fun z => nomatch z), fun _ z => z, fun x o u z => by
        by_cases e : x = a
        · subst e; rw [upd_same] at z; cases z
        · rw [upd_ne e] at z; exact f3 x o u z⟩⟩
      by_cases e : x = a
      · subst e; exact .inr (.inr (mem_fl h2 (by simp)))
      · rw [upd_ne e] at z
        rcases f2 x z with z | z
        · exact .inl z
        · exact .inr (.inr (mem_fl h2 (by simp [z])))
    · exact h.elim
  | nw ds =>
    obtain ⟨a, vs, e1, e2, e3, e4, e5, e6⟩ := r
    subst e1
    refine ⟨_, _, _, _, h, ok.freeze e3 e2 e5, .lst (Rd.of upd_same) (e4.mono (upd_mono e2)), ⟨fun x o z => upd_mono e2 x o (g.fr x o z), g.keep, fun x z => ?_, g.own, g.stay, fun x o u z => by
      by_cases e : x = a
      · subst e; rw [upd_same] at z; cases z
      · rw [upd_ne e] at z; exact g.nf x o u z⟩⟩
    by_cases e : x = a
    · subst e; exact .inr (.inl e6)
    · rw [upd_ne e] at z; exact g.new x z
  | nw2 dss =>
    obtain ⟨a, bs, e1, e2, e3, e5, e6, e7, e8, e9⟩ := r
    subst e1
    obtain ⟨F1, f1, f2, ok2, r2, f3⟩ := freeze_rows ok e8 (List.nodup_cons.mp e6).2 e7
    have fa : F1 a = none := by
      cases q : F1 a with
      | none => rfl
      | some o =>
        rcases f2 a (by rw [q]; exact fun z => nomatch z) with z | z
        · exact absurd e2 z
        · exact absurd z (List.nodup_cons.mp e6).1
    refine ⟨_, _, _, _, h, ok2.freeze e3 fa e5, .lst (Rd.of upd_same) (r2.mono (upd_mono fa)), ⟨fun x o z => upd_mono fa x o (f1 x o (g.fr x o z)), g.keep, fun x z => ?_, g.own, g.stay, fun x o u z => by
      by_cases e : x = a
      · subst e; rw [upd_same] at z; cases z
      · rw [upd_ne e] at z
        have h1 := f3 x o u z
        cases q : F x with
        | none => exact absurd q h1
        | some o' =>
          have := f1 x o' q
          rw [z] at this
          cases this
          exact g.nf x o u q⟩⟩
    by_cases e : x = a
    · subst e; exact .inr (.inl (e9 _ (by simp)))
    · rw [upd_ne e] at z
      rcases f2 x z with z | z
      · exact g.new x z
      · exact .inr (.inl (e9 _ (by simp [z])))
end
end PF

set_option Elab.async false
set_option linter.all false
set_option maxRecDepth 100000
set_option maxHeartbeats 4000000

namespace PF
open PySem PySem.Spec PyProof.Rows L2

section
variable {K : PySem.W.Frag} {cl : Str → Option Addr} {B : List Addr} {Hb F H F' H' : Hp} {σ : L2.St} {env env' : En} {A A' : List (List Addr)} {v : V} {e : Ev} {d : D}

theorem RepP.int {i : Int} (r : RepP K cl F H v (.int i)) : v = .int i := by
  rcases r with r | ⟨_, _, _, _, e, _⟩
  · cases r; rfl
  · cases e
theorem RepP.bl {b : Bool} (r : RepP K cl F H v (.bl b)) : v = .bl b := by
  rcases r with r | ⟨_, _, _, _, e, _⟩
  · cases r; rfl
  · cases e
theorem RepP.str {b : Str} (r : RepP K cl F H v (.str b)) : v = .str b := by
  rcases r with r | ⟨_, _, _, _, e, _⟩
  · cases r; rfl
  · cases e
theorem RepP.non (r : RepP K cl F H v .non) : v = .non := by
  rcases r with r | ⟨_, _, _, _, e, _⟩
  · cases r; rfl
  · cases e
theorem RepP.tup {ds : List D} (r : RepP K cl F H v (.tup ds)) (hs : ∀ a o, F a = some o → H a = some o) : Rep K cl F v (.tup ds) ∧ ∃ a vs, v = .ref a ∧ SqT K H a vs ∧ SqT K F a vs ∧ RepL K cl F vs ds := by
  rcases r with r | ⟨_, _, _, _, e, _⟩
  · cases r with
    | tup q r => exact ⟨.tup q r, _, _, rfl, sqT_mono hs q, q, r⟩
  · cases e
theorem RepP.lst {ds : List D} (r : RepP K cl F H v (.lst ds)) (hs : ∀ a o, F a = some o → H a = some o) : ∃ a vs, v = .ref a ∧ SqL K H a vs ∧ RepL K cl F vs ds := by
  rcases r with r | ⟨a, vs, ds', e1, e, h, r⟩
  · cases r with
    | lst q r => exact ⟨_, _, rfl, .inl (rd_mono hs q), r⟩
  · cases e
    exact ⟨a, vs, e1, SqL.of h, r⟩
theorem RepP.rdl {ds : List D} (r : RepP K cl F H v (.lst ds)) (hs : ∀ a o, F a = some o → H a = some o) : ∃ a vs, v = .ref a ∧ Rd H a (.lst vs) ∧ RepL K cl F vs ds := by
  rcases r with r | ⟨a, vs, ds', e1, e, h, r⟩
  · cases r with
    | lst q r => exact ⟨_, _, rfl, rd_mono hs q, r⟩
  · cases e
    exact ⟨a, vs, e1, Rd.of h, r⟩
theorem RepP.klst {ds : List D} (r : RepP K cl F H v (.klst ds)) (hs : ∀ a o, F a = some o → H a = some o) : ∃ a vs, v = .ref a ∧ SqL K H a vs ∧ RepL K cl F vs ds := by
  rcases r with r | ⟨_, _, _, _, e, _, _⟩
  · cases r with
    | klst q r => exact ⟨_, _, rfl, sqL_mono hs q, r⟩
  · cases e
theorem RepP.obj {n : Str} {fs : List (Str × D)} (r : RepP K cl F H v (.obj n fs)) (hs : ∀ a o, F a = some o → H a = some o) : ∃ a C dx vs, v = .ref a ∧ cl n = some C ∧ H a = some (.ins C dx vs) ∧ RepF K cl F vs fs := by
  rcases r with r | ⟨_, _, _, _, e, _⟩
  · cases r with
    | obj a b c => exact ⟨_, _, _, _, rfl, a, hs _ _ b, c⟩
  · cases e

mutual
theorem Rep.dp : ∀ {v : V} {d : D}, Rep K cl F v d → d.noObj = true → Dp K F v d.pd
  | _, _, .non, _ => .non
  | _, _, .bl b, _ => .bl b
  | _, _, .int i, _ => .int i
  | _, _, .str x, _ => .str x
  | _, .tup ds, .tup q r, h => .tup q (RepL.dp r h)
  | _, .lst ds, .lst q r, h => .lst (.inl q) (RepL.dp r h)
  | _, _, .klst _ _, h => nomatch h
  | _, _, .obj _ _ _, h => nomatch h
theorem RepL.dp : ∀ {vs : List V} {ds : List D}, RepL K cl F vs ds → D.noObj.nos ds = true → DpAll K F vs (D.pd.pds ds)
  | _, _, .nil, _ => .nil
  | _, d :: ds, .cons r t, h => by
    simp only [D.noObj.nos, Bool.and_eq_true] at h
    exact .cons (Rep.dp r h.1) (RepL.dp t h.2)
end
theorem dp_mono (hs : ∀ a o, F a = some o → F' a = some o) {v : V} {d : PyData} (h : Dp K F v d) : Dp K F' v d := by
  have go : ∀ (d : PyData) (v : V), Dp K F v d → Dp K F' v d := by
    intro d
    refine PyData.rec (motive_1 := fun d => ∀ v, Dp K F v d → Dp K F' v d) (motive_2 := fun ds => ∀ vs, DpAll K F vs ds → DpAll K F' vs ds) (motive_3 := fun _ => True) (motive_4 := fun _ => True) ?_ ?_ ?_ ?_ ?_ ?_ ?_ ?_ ?_ ?_ ?_ ?_ d
    · intro v h; cases h; exact .non
    · intro b v h; cases h; exact .bl _
    · intro b v h; cases h; exact .int _
    · intro b v h; cases h; exact .str _
    · intro xs ih v h; cases h with | lst q r => exact .lst (sqL_mono hs q) (ih _ r)
    · intro xs ih v h; cases h with | tup q r => exact .tup (sqT_mono hs q) (ih _ r)
    · intro xs ih v h; cases h
    · intro vs h; cases h; exact .nil
    · intro x xs ih1 ih2 vs h; cases h with | cons a b => exact .cons (ih1 _ a) (ih2 _ b)
    all_goals (intros; trivial)
  exact go d v h
theorem dpAll_mono (hs : ∀ a o, F a = some o → F' a = some o) : ∀ {vs : List V} {ds : List PyData}, DpAll K F vs ds → DpAll K F' vs ds
  | _, _, .nil => .nil
  | _, _, .cons r t => .cons (dp_mono hs r) (dpAll_mono hs t)
theorem RepP.dp (r : RepP K cl F H v d) (hs : ∀ a o, F a = some o → H a = some o) (n : d.noObj = true) : Dp K H v d.pd := by
  rcases r with r | ⟨a, vs, ds', e1, e, h, r⟩
  · exact dp_mono hs (r.dp n)
  · subst e1 e
    exact .lst (SqL.of h) (dpAll_mono hs (r.dp n))
theorem shp_iff {d : D} (h : shp d = true) : d.noObj = true ∧ SeqAt.shaped d.pd = true := by
  unfold shp at h
  simpa using h

/-- what is wanted of an expression's value, what of an error -/
def KQ (K : PySem.W.Frag) (cl : Str → Option Addr) (B : List Addr) (F H : Hp) (A : List (List Addr)) (σ : L2.St) (Q : VK) (e : Ev) (env' : En) : Prop :=
  ∀ v F' H' A', Gr F H A F' H' A' → SOk K cl B F' H' σ env' A' → RepE K cl H F' H' σ env' A' v e → Q v H'
def KR (K : PySem.W.Frag) (cl : Str → Option Addr) (B : List Addr) (F H : Hp) (A : List (List Addr)) (σ : L2.St) (W : WX) (c : Str) (env' : En) : Prop :=
  ∀ F' H' A' Ca, Gr F H A F' H' A' → SOk K cl B F' H' σ env' A' → cl c = some Ca → W (.ref Ca) none σ H'
theorem KR.sh {W : WX} {c : Str} {F1 H1 A1} (g : Gr F H A F1 H1 A1) (h : KR K cl B F H A σ W c env') : KR K cl B F1 H1 A1 σ W c env' := fun F' H' A' Ca g' => h F' H' A' Ca (g.trans g')
theorem KQ.sh {Q : VK} {F1 H1 A1} (g : Gr F H A F1 H1 A1) (h : KQ K cl B F H A σ Q e env') : KQ K cl B F1 H1 A1 σ Q e env' := fun v F' H' A' g' ok r => h v F' H' A' (g.trans g') ok (r.base g.stay)
theorem Gr.none (g : Gr F H A F' H' A') {p : Addr} (h : H' p = none) : H p = none := by
  cases q : H p with
  | none => rfl
  | some o => exact absurd h (g.stay p (by rw [q]; exact fun z => nomatch z))
section
variable {F2 H2 : Hp} {A2 : List (List Addr)} {env2 : En} {Q : VK}
theorem give_d (g : Gr F H A F2 H2 A2) (ok : SOk K cl B F2 H2 σ env2 A2) (q : KQ K cl B F H A σ Q (.d d) env2) (r : Rep K cl F2 v d) : Q v H2 := q v F2 H2 A2 g ok r
theorem give_tup {vs : List V} {ds : List D} (g : Gr F H A F2 H2 A2) (ok : SOk K cl B F2 H2 σ env2 A2) (q : KQ K cl B F H A σ Q (.d (.tup ds)) env2) (r : RepL K cl F2 vs ds) : ∀ p, H2 p = none → Q (.ref p) (upd H2 p (.tup vs)) := fun p hp => by
  have fp : F2 p = none := by
    cases z : F2 p with
    | none => rfl
    | some u => rw [ok.sub _ _ z] at hp; cases hp
  exact q _ _ _ _ (g.trans (Gr.layF ok.sub hp)) (ok.layF hp) (.tup (SqT.of upd_same) (r.mono (upd_mono fp)))
theorem give_nw {vs : List V} {ds : List D} (g : Gr F H A F2 H2 A2) (ok : SOk K cl B F2 H2 σ env2 A2) (q : KQ K cl B F H A σ Q (.nw ds) env2) (r : RepL K cl F2 vs ds) : ∀ p, H2 p = none → Q (.ref p) (upd H2 p (.lst vs)) := fun p hp => by
  have fp : F2 p = none := by
    cases z : F2 p with
    | none => rfl
    | some u => rw [ok.sub _ _ z] at hp; cases hp
  exact q _ _ _ _ (g.trans (Gr.lay hp)) (ok.lay hp) ⟨p, vs, rfl, fp, upd_same, r, fun m => ok.tr p m hp, g.none hp⟩
end
end

/-! ## operators -/
def Bop.py : Bop → Operator | .add => .Add | .sub => .Sub | .mul => .Mult | .fdiv => .FloorDiv | .mod => .Mod | .pow => .Pow
def Cop.py : Cop → CmpOp | .eq => .Eq | .ne => .NotEq | .lt => .Lt | .le => .LtE | .gt => .Gt | .ge => .GtE | .isN => .Is | .notN => .IsNot | .inn => .In | .nin => .NotIn
section
variable {X : Cx}
def rCatF : R2 := fun x y H Q => ∃ l b xs zs, x = .ref l ∧ y = .ref b ∧ Rd H l (.lst xs) ∧ Rd H b (.lst zs) ∧ xs.length + zs.length ≤ sizeLine ∧ ∀ p, H p = none → Q (.ref p) (upd H p (.lst (xs ++ zs)))
theorem op_catF : OpR X (binaryOp .Add) rCatF := by
  intro pins s σ H x y v u Q I rx ry h
  obtain ⟨l, b, xs, zs, rfl, rfl, hH, hB, hz, q⟩ := h
  cases rx
  cases ry
  obtain ⟨z, its, n, r, e⟩ := hH.ok I.hok
  obtain ⟨z2, its2, n2, r2, e2⟩ := hB.ok I.hok
  refine PySem.P.add_list e e2 ?_ (by rw [List.size_toArray, List.size_toArray, ← r.length, ← r2.length]; omega)
  have ea : its.toArray ++ its2.toArray = (its ++ its2).toArray := by simp
  rw [ea]
  exact ⟨.ref _, _, I.lnew (t' := s.toks) (r.append r2) (by rw [List.length_append]; omega), rfl, q _ I.fresh⟩
def rBin (K : PySem.W.Frag) : Bop → R2
  | .add => fun x y H Q => rI0 (fun i j => .int (i + j)) x y H Q ∨ (rCatA K x y H Q ∨ ((∃ i j, x = .str i ∧ y = .str j ∧ i.length + j.length ≤ sizeLine ∧ Q (.str (i ++ j)) H) ∨ rCatF x y H Q))
  | .sub => rI0 fun i j => .int (i - j)
  | .mul => fun x y H Q => rI CMulW (fun i j => .int (i * j)) x y H Q ∨ rRepT K x y H Q
  | .fdiv => fun x y H Q => rI CDivW (fun i j => .int (i / j)) x y H Q ∨ rI CDivN (fun i j => .int (i.fdiv j)) x y H Q
  | .mod => fun x y H Q => rI (fun _ j => 0 < j) (fun i j => .int (i % j)) x y H Q ∨ rI (fun _ j => j ≠ 0) (fun i j => .int (i.fmod j)) x y H Q
  | .pow => rI CPow fun i j => .int (i ^ j.toNat)
theorem op_bin : ∀ op : Bop, OpR X (binaryOp op.py) (rBin X.K op)
  | .add => op_add.or (op_catA.or (op_add_str.or op_catF))
  | .sub => op_sub
  | .mul => op_mulW.or op_repT
  | .fdiv => op_fdivW.or op_fdivN
  | .mod => op_mod.or op_modN
  | .pow => op_pow
def rGtT (K : PySem.W.Frag) : R2 := fun x y H Q => ∃ (a b : Addr) (ns ms : List Int), x = .ref a ∧ y = .ref b ∧ SqT K H a (ns.map V.int) ∧ SqT K H b (ms.map V.int) ∧ Q (.bl (gtI ns ms)) H
theorem op_gtT (hu : X.A.units < cLine) : OpR X (compareOp .Gt) (rGtT X.K) := by
  intro pins s σ H x y v u Q I rx ry h
  obtain ⟨a, b, ns, ms, rfl, rfl, ha, hb, q⟩ := h
  cases rx
  cases ry
  obtain ⟨its, r1, p1, _⟩ := I.tuple ha
  obtain ⟨its2, r2, p2, _⟩ := I.tuple hb
  have i1 : IntsAre its ns := Vals.ints r1
  have i2 : IntsAre its2 ms := Vals.ints r2
  have e1 : its.toArray.size = ns.length := by rw [List.size_toArray]; exact i1.length
  have e2 : its2.toArray.size = ms.length := by rw [List.size_toArray]; exact i2.length
  have at1 : ∀ j (h1 : j < its.toArray.size), ∃ t, its.toArray[j] = .int (ns.getD j 0) t := fun j h1 => PyProof.Rows.IntsAre.int_at i1 _ _ (by simp at h1; simp [h1])
  have at2 : ∀ j (h1 : j < its2.toArray.size), ∃ t, its2.toArray[j] = .int (ms.getD j 0) t := fun j h1 => PyProof.Rows.IntsAre.int_at i2 _ _ (by simp at h1; simp [h1])
  have R := Ob.RcOp.tuples_gt (A := X.A) (s := s) (e := fun j => decide (ns.getD j 0 = ms.getD j 0)) (r := fun j => decide (ms.getD j 0 < ns.getD j 0)) p1 p2 hu (fun j h1 h2 => by
    obtain ⟨t, et⟩ := at1 j h1
    obtain ⟨t', et'⟩ := at2 j h2
    rw [et, et']
    have z : (ns.getD j 0 == ms.getD j 0) = decide (ns.getD j 0 = ms.getD j 0) := by
      by_cases q : ns.getD j 0 = ms.getD j 0
      · rw [decide_eq_true q]; exact beq_iff_eq.mpr q
      · rw [decide_eq_false q]; exact beq_eq_false_iff_ne.mpr q
    rw [← z]
    exact SeqAt.EqAt.int_int _ _ _ _) (fun j h1 h2 _ => by
    obtain ⟨t, et⟩ := at1 j h1
    obtain ⟨t', et'⟩ := at2 j h2
    rw [et, et']
    exact Ob.RcOp.gt_int _ _ _ _)
  rw [e1, e2] at R
  have z : wpAny (model X.prog X.w) X.A (compareOp .Gt (.ref a) (.ref b)) (EP X pins σ Q) X.xe s := R X.prog X.w X.xe (EP X pins σ Q) ⟨.bl _, H, I, rfl, q⟩
  exact z
def rCmp (K : PySem.W.Frag) : Cop → R2
  | .eq => fun x y H Q => (∃ i j, x = .int i ∧ y = .int j ∧ Q (.bl (decide (i = j))) H) ∨ rEqD K x y H Q
  | .ne => fun x y H Q => (∃ i j, x = .int i ∧ y = .int j ∧ Q (.bl (!decide (i = j))) H) ∨ rNeD K x y H Q
  | .lt => fun x y H Q => rI0 (fun i j => .bl (decide (i < j))) x y H Q ∨ rLtT K x y H Q
  | .le => fun x y H Q => rI0 (fun i j => .bl (decide (i ≤ j))) x y H Q ∨ rLeT K x y H Q
  | .gt => fun x y H Q => rI0 (fun i j => .bl (decide (j < i))) x y H Q ∨ rGtT K x y H Q
  | .ge => rI0 (fun i j => .bl (decide (j ≤ i)))
  | .isN => fun x y H Q => (y = .non ∧ Q (.bl (decide (x = .non))) H) ∨ ∃ a b, x = .bl a ∧ y = .bl b ∧ Q (.bl (decide (a = b))) H
  | .notN => fun x y H Q => (y = .non ∧ Q (.bl (!decide (x = .non))) H) ∨ ∃ a b, x = .bl a ∧ y = .bl b ∧ Q (.bl (!decide (a = b))) H
  | .inn => fun x y H Q => rInD K x y H Q ∨ rIn K false x y H Q
  | .nin => fun x y H Q => rNotInD K x y H Q ∨ rIn K true x y H Q
theorem op_eqI : OpR X (compareOp .Eq) (fun x y H Q => ∃ i j, x = .int i ∧ y = .int j ∧ Q (.bl (decide (i = j))) H) := by
  intro pins s σ H x y v u Q I rx ry h
  obtain ⟨i, j, rfl, rfl, q⟩ := h
  obtain ⟨t, rfl⟩ := rx
  obtain ⟨t', rfl⟩ := ry
  exact eq_int ⟨.bl _, H, I, by rw [Bool.beq_eq_decide_eq]; rfl, q⟩
theorem op_neI : OpR X (compareOp .NotEq) (fun x y H Q => ∃ i j, x = .int i ∧ y = .int j ∧ Q (.bl (!decide (i = j))) H) := by
  intro pins s σ H x y v u Q I rx ry h
  obtain ⟨i, j, rfl, rfl, q⟩ := h
  obtain ⟨t, rfl⟩ := rx
  obtain ⟨t', rfl⟩ := ry
  exact ne_int ⟨.bl _, H, I, by rw [bne, Bool.beq_eq_decide_eq]; rfl, q⟩
theorem op_cmp (hu : X.A.units + 65 < cLine) : ∀ op : Cop, OpR X (compareOp op.py) (rCmp X.K op)
  | .eq => op_eqI.or (op_eqD (by omega))
  | .ne => op_neI.or (op_neD (by omega))
  | .lt => op_lt.or (op_ltT (by omega))
  | .le => op_le.or (op_leT (by omega))
  | .gt => op_gt.or (op_gtT (by omega))
  | .ge => op_ge
  | .isN => op_isN.or op_is_bl
  | .notN => op_notN.or op_isnot_bl
  | .inn => (op_inD hu).or op_in_seq
  | .nin => (op_notInD hu).or op_notIn_seq
end

section
variable {X : Cx} {cl : Str → Option Addr} {B : List Addr} {F H F2 H2 : Hp} {σ : L2.St} {env2 : En} {A A2 : List (List Addr)} {x y : V} {dx dy : D} {Q : VK}
theorem pds_any (ds : List D) (d : D) : (D.pd.pds ds).any (fun z => PyData.eqv z d.pd) = ds.any fun z => eqD z d := by
  induction ds with
  | nil => rfl
  | cons a r ih =>
    show (PyData.eqv a.pd d.pd || (D.pd.pds r).any _) = _
    rw [ih]; rfl
theorem ints_any (ns : List Int) (i : Int) : inV (.int i) (ns.map V.int) = ns.any fun z => z == i := by
  unfold inV
  rw [List.any_map]
  congr 1
theorem none_any (ns : List Int) : inV .non (ns.map V.int) = false := by
  unfold inV
  rw [List.any_map, List.any_eq_false]
  intro i _ h
  cases h
theorem flat_ints (ns : List Int) : (ns.map V.int).all flatV = true := by
  rw [List.all_map]
  exact List.all_eq_true.mpr fun _ _ => rfl
theorem bin_ok {op : Bop} (g : Gr F H A F2 H2 A2) (ok : SOk X.K cl B F2 H2 σ env2 A2) (rx : RepP X.K cl F2 H2 x dx) (ry : RepP X.K cl F2 H2 y dy)
    (h : opBin op dx dy fun e => KQ X.K cl B F H A σ Q e env2) : rBin X.K op x y H2 Q := by
  unfold opBin at h
  split at h
  · cases rx.int; cases ry.int
    exact .inl ⟨_, _, rfl, rfl, give_d g ok h (.int _)⟩
  · obtain ⟨r1, a, vs, e1, q1, f1, l1⟩ := rx.tup ok.sub
    obtain ⟨r2, b, ws, e2, q2, f2, l2⟩ := ry.tup ok.sub
    subst e1 e2
    refine .inr (.inl ⟨a, b, vs, ws, rfl, rfl, q1, q2, by rw [l1.length, l2.length]; exact h.1, fun z => ?_, fun z1 z2 => ?_, fun z1 z2 p hp => give_tup g ok h.2 (l1.append l2) p hp⟩)
    · subst z; cases l1
      exact give_d g ok h.2 r2
    · subst z2; cases l2
      have h2 := h.2
      rw [List.append_nil] at h2
      exact give_d g ok h2 r1
  · cases rx.str; cases ry.str
    exact .inr (.inr (.inl ⟨_, _, rfl, rfl, h.1, give_d g ok h.2 (.str _)⟩))
  · obtain ⟨a, vs, e1, q1, l1⟩ := rx.rdl ok.sub
    obtain ⟨b, ws, e2, q2, l2⟩ := ry.rdl ok.sub
    subst e1 e2
    exact .inr (.inr (.inr ⟨a, b, vs, ws, rfl, rfl, q1, q2, by rw [l1.length, l2.length]; exact h.1, give_nw g ok h.2 (l1.append l2)⟩))
  · cases rx.int; cases ry.int
    exact ⟨_, _, rfl, rfl, give_d g ok h (.int _)⟩
  · cases rx.int; cases ry.int
    exact .inl ⟨_, _, rfl, rfl, h.1, give_d g ok h.2 (.int _)⟩
  · obtain ⟨r1, a, vs, e1, q1, f1, l1⟩ := rx.tup ok.sub
    cases ry.int
    subst e1
    obtain ⟨h1, h2, h3, h4, h5⟩ := h
    refine .inr ⟨a, _, vs, rfl, rfl, q1, fun z => ?_, h2, h3, by rw [l1.length]; exact h4, fun p hp => give_tup g ok h5 ?_ p hp⟩
    · subst z; cases l1; exact h1 rfl
    · rename_i k
      have rep : ∀ n : Nat, RepL X.K cl F2 (List.replicate n vs).flatten (List.replicate n _).flatten := fun n => by
        induction n with
        | zero => exact .nil
        | succ n ih => rw [List.replicate_succ, List.replicate_succ, List.flatten_cons, List.flatten_cons]; exact l1.append ih
      exact rep _
  · cases rx.int; cases ry.int
    split at h
    · rename_i c
      exact .inl ⟨_, _, rfl, rfl, ⟨c, h.1⟩, give_d g ok h.2 (.int _)⟩
    · exact .inr ⟨_, _, rfl, rfl, ⟨h.1, h.2.1⟩, give_d g ok h.2.2 (.int _)⟩
  · cases rx.int; cases ry.int
    split at h
    · rename_i c
      exact .inl ⟨_, _, rfl, rfl, c, give_d g ok h (.int _)⟩
    · exact .inr ⟨_, _, rfl, rfl, h.1, give_d g ok h.2 (.int _)⟩
  · cases rx.int; cases ry.int
    exact ⟨_, _, rfl, rfl, h.1, give_d g ok h.2 (.int _)⟩
  · exact h.elim
theorem dec_non {d : D} (r : RepP X.K cl F2 H2 x d) : decide (x = .non) = isNon d := by
  rcases r with r | ⟨a, _, _, e1, e2, _⟩
  · cases r <;> rfl
  · subst e1 e2; rfl
theorem cmp_ok {op : Cop} (sub : ∀ a o, F2 a = some o → H2 a = some o) (rx : RepP X.K cl F2 H2 x dx) (ry : RepP X.K cl F2 H2 y dy)
    (h : opCmp op dx dy fun b => Q (.bl b) H2) : rCmp X.K op x y H2 Q := by
  unfold opCmp at h
  split at h
  · cases rx.int; cases ry.int
    exact .inl ⟨_, _, rfl, rfl, h⟩
  · cases rx.int; cases ry.int
    exact .inl ⟨_, _, rfl, rfl, h⟩
  · obtain ⟨h1, h2, h3⟩ := h
    obtain ⟨n1, s1⟩ := shp_iff h1
    obtain ⟨n2, s2⟩ := shp_iff h2
    exact .inr ⟨_, _, rx.dp sub n1, ry.dp sub n2, s1, s2, h3⟩
  · obtain ⟨h1, h2, h3⟩ := h
    obtain ⟨n1, s1⟩ := shp_iff h1
    obtain ⟨n2, s2⟩ := shp_iff h2
    exact .inr ⟨_, _, rx.dp sub n1, ry.dp sub n2, s1, s2, h3⟩
  · cases rx.int; cases ry.int
    exact .inl ⟨_, _, rfl, rfl, h⟩
  · cases rx.int; cases ry.int
    exact .inl ⟨_, _, rfl, rfl, h⟩
  · cases rx.int; cases ry.int
    exact .inl ⟨_, _, rfl, rfl, h⟩
  · cases rx.int; cases ry.int
    exact ⟨_, _, rfl, rfl, h⟩
  · obtain ⟨ns, ms, e1, e2, q⟩ := h
    subst e1 e2
    obtain ⟨_, a, vs, e1, q1, f1, l1⟩ := rx.tup sub
    obtain ⟨_, b, ws, e2, q2, f2, l2⟩ := ry.tup sub
    subst e1 e2
    rw [l1.map_int] at q1
    rw [l2.map_int] at q2
    exact .inr ⟨a, b, ns, ms, rfl, rfl, q1, q2, q⟩
  · obtain ⟨ns, ms, e1, e2, q⟩ := h
    subst e1 e2
    obtain ⟨_, a, vs, e1, q1, f1, l1⟩ := rx.tup sub
    obtain ⟨_, b, ws, e2, q2, f2, l2⟩ := ry.tup sub
    subst e1 e2
    rw [l1.map_int] at q1
    rw [l2.map_int] at q2
    exact .inr ⟨a, b, ns, ms, rfl, rfl, q1, q2, q⟩
  · obtain ⟨ns, ms, e1, e2, q⟩ := h
    subst e1 e2
    obtain ⟨_, a, vs, e1, q1, f1, l1⟩ := rx.tup sub
    obtain ⟨_, b, ws, e2, q2, f2, l2⟩ := ry.tup sub
    subst e1 e2
    rw [l1.map_int] at q1
    rw [l2.map_int] at q2
    exact .inr ⟨a, b, ns, ms, rfl, rfl, q1, q2, q⟩
  · cases ry.non
    exact .inl ⟨rfl, by rw [dec_non rx]; exact h⟩
  · cases ry.non
    exact .inl ⟨rfl, by rw [dec_non rx]; exact h⟩
  · cases rx.bl; cases ry.bl
    exact .inr ⟨_, _, rfl, rfl, h⟩
  · cases rx.bl; cases ry.bl
    exact .inr ⟨_, _, rfl, rfl, h⟩
  · obtain ⟨h1, h2, h3⟩ := h
    obtain ⟨n1, s1⟩ := shp_iff h1
    obtain ⟨n2, s2⟩ := shp_iff h2
    exact .inl ⟨_, _, rx.dp sub n1, ry.dp sub n2, s1, s2, by rw [pds_any]; exact h3⟩
  · obtain ⟨h1, h2, h3⟩ := h
    obtain ⟨n1, s1⟩ := shp_iff h1
    obtain ⟨n2, s2⟩ := shp_iff h2
    exact .inl ⟨_, _, rx.dp sub n1, ry.dp sub n2, s1, s2, by rw [pds_any]; exact h3⟩
  · obtain ⟨ns, e, q⟩ := h
    subst e
    cases rx.int
    obtain ⟨_, b, ws, e2, q2, f2, l2⟩ := ry.tup sub
    subst e2
    rw [l2.map_int] at q2
    exact .inr ⟨b, _, rfl, .inr q2, rfl, flat_ints _, by rw [ints_any]; exact q⟩
  · obtain ⟨ns, e, q⟩ := h
    subst e
    cases rx.int
    obtain ⟨_, b, ws, e2, q2, f2, l2⟩ := ry.tup sub
    subst e2
    rw [l2.map_int] at q2
    exact .inr ⟨b, _, rfl, .inr q2, rfl, flat_ints _, by rw [ints_any]; exact q⟩
  · obtain ⟨ns, e, q⟩ := h
    subst e
    cases rx.non
    obtain ⟨_, b, ws, e2, q2, f2, l2⟩ := ry.tup sub
    subst e2
    rw [l2.map_int] at q2
    exact .inr ⟨b, _, rfl, .inr q2, rfl, flat_ints _, by rw [none_any]; exact q⟩
  · obtain ⟨ns, e, q⟩ := h
    subst e
    cases rx.non
    obtain ⟨_, b, ws, e2, q2, f2, l2⟩ := ry.tup sub
    subst e2
    rw [l2.map_int] at q2
    exact .inr ⟨b, _, rfl, .inr q2, rfl, flat_ints _, by rw [none_any]; exact q⟩
  · exact h.elim
theorem tru_ok' (sub : ∀ a o, F2 a = some o → H2 a = some o) {Q : Bool → Prop} (rx : RepP X.K cl F2 H2 x dx) (h : opTru dx Q) : ∃ k, TruV X.K x H2 k ∧ Q k := by
  cases dx with
  | non => cases rx.non; exact ⟨_, rfl, h⟩
  | bl b => cases rx.bl; exact ⟨_, rfl, h⟩
  | int i => cases rx.int; exact ⟨_, rfl, h⟩
  | str z => cases rx.str; exact ⟨_, ⟨h.1, rfl⟩, h.2⟩
  | lst ds =>
    obtain ⟨a, vs, e, q, l⟩ := rx.lst sub
    subst e
    refine ⟨_, .inl ⟨vs, q, rfl⟩, ?_⟩
    have : vs.isEmpty = ds.isEmpty := by cases l <;> rfl
    rw [this]; exact h
  | tup ds =>
    obtain ⟨_, a, vs, e, q, _, l⟩ := rx.tup sub
    subst e
    refine ⟨_, .inr (.inl ⟨vs, q, rfl⟩), ?_⟩
    have : vs.isEmpty = ds.isEmpty := by cases l <;> rfl
    rw [this]; exact h
  | klst _ => exact h.elim
  | obj _ _ => exact h.elim
end
end PF

set_option Elab.async false
set_option linter.all false
set_option maxRecDepth 100000
set_option maxHeartbeats 4000000

namespace PF
open PySem PySem.Spec PyProof.Rows L2

/-! ## calls: what a def promises -/
section
variable (K : PySem.W.Frag) (cl : Str → Option Addr)
inductive ArgsOk (F H : Hp) : Nat → List V → List Sl → List Addr → Prop
  | nil {n : Nat} : ArgsOk F H n [] [] []
  | fz {n : Nat} {v : V} {vs : List V} {d : D} {sls : List Sl} {B : List Addr} : Rep K cl F v d → ArgsOk F H n vs sls B → ArgsOk F H n (v :: vs) (.fz d :: sls) B
  | own {n : Nat} {b : Addr} {ws vs : List V} {ds : List D} {sls : List Sl} {B : List Addr} : F b = none → H b = some (.lst ws) → RepL K cl F ws ds → ArgsOk F H (n + 1) vs sls B → ArgsOk F H n (.ref b :: vs) (.own (n + 1) ds :: sls) (b :: B)
inductive OutsOk (F H : Hp) : List Addr → List (List D) → Prop
  | nil : OutsOk F H [] []
  | cons {b : Addr} {B : List Addr} {ws : List V} {ds : List D} {dss : List (List D)} : F b = none → H b = some (.lst ws) → RepL K cl F ws ds → OutsOk F H B dss → OutsOk F H (b :: B) (ds :: dss)
def spOf (n : Nat) (fn : Fn) : Sp := fun vs H Q E => ∃ F sls B, vs.length = n ∧ (∀ a o, F a = some o → H a = some o) ∧ ArgsOk K cl F H 0 vs sls B ∧ B.Nodup ∧
  fn.run sls (fun d outs => ∀ v F' H', Gr F H [B] F' H' [B] → (∀ a o, F' a = some o → H' a = some o) → Rep K cl F' v d → OutsOk K cl F' H' B outs → Q v H')
    (fun c outs => ∀ F' H' Ca, Gr F H [B] F' H' [B] → (∀ a o, F' a = some o → H' a = some o) → cl c = some Ca → OutsOk K cl F' H' B outs → E (.ref Ca) none H')
/-- an __init__: self is new at x -/
def spInit (C : Str) (n : Nat) (fn : Fn) : Sp := fun vs H Q E => ∃ F ds x Ca dx ws, vs = .ref x :: ws ∧ ws.length = n ∧ (∀ a o, F a = some o → H a = some o) ∧ RepL K cl F ws ds ∧ cl C = some Ca ∧ H x = some (.ins Ca dx []) ∧ F x = none ∧
  fn.run (ds.map .fz) (fun d _ => ∀ F' H', Gr F H [[x]] F' H' [] → (∀ a o, F' a = some o → H' a = some o) → Rep K cl F' (.ref x) d → Q .non H')
    (fun c _ => ∀ F' H' Ca, Gr F H [[x]] F' H' [[x]] → (∀ a o, F' a = some o → H' a = some o) → cl c = some Ca → E (.ref Ca) none H')
end

section
variable {X : Cx} {CX : CXT} {k : Nat} {f C : Addr} {fd : FuncData} {ps : List Str} {sp : Sp} {E : L2.St → XK} {x m : Str} {p pos apos : Pos} {e o : Expr} {es : List Expr} {ta : TE} {t : TA}
def tMethS (C : Addr) (m : Str) (sp : Sp) (E : L2.St → XK) (ta : TE) (t : TA) : TE := fun σ H Q => ta σ H fun x H1 => ∃ a dx fs, x = .ref a ∧ H1 a = some (.ins C dx fs) ∧ fs.lookup m = none ∧
  t σ H1 fun vs H2 => sp (x :: vs) H2 Q (E σ)
theorem pe_methS {pl : Sem Bool} (he : PE X o ta) (c : Cls X.K C) (hm : Meth X.K C m f) (F : FnOk X.prog X.w X.K X.mg X.base CX k f fd ps sp) (hr : Room k X.A) (hb : Binds X.K fd ps []) (hx : ∀ σ, PassesAt CX X σ (E σ)) (ha : PA X (e :: es) t)
    (hst : starEach (e :: es) X.env = (false, eval e X.env) :: starEach es X.env) (hpl : (backTo pos (starEach es X.env)).any (·.1) = false)
    (ht : eval (.Call (.Attribute o m apos) (e :: es) [] pos) X.env = (do
      let ov ← eval o X.env
      standAt apos.atName
      let (f, first) ← holding [ov] (getMethod ov m pl)
      callWith pos f first (backTo pos (starEach (e :: es) X.env)) (backToKw pos (keywordEach [] X.env)))) :
    PE X (.Call (.Attribute o m apos) (e :: es) [] pos) (tMethS C m sp E ta t) := by
  refine ⟨fun pins s σ H Q I h => ?_⟩
  refine PySem.W.methodCall_KW (pl := pl) (thn (he.run pins s σ H _ I h) fun u s1 ⟨x, H1, I1, rx, a, dx, fs, ex, ea, l, q⟩ => ?_) ht
  subst ex
  obtain rfl : u = Value.ref a := rx
  refine getmeth_ok I1 ea c hm l ?_
  refine PySem.W.callWith_K (first := [.ref a]) (h₀ := X.base) I.ok.mod.kin hm.kp (thn (ha.run pos pins s1 σ H1 _ I1 q) fun us s2 ⟨vs, H2, I2, r, q2⟩ => ⟨I2.kIn, ?_⟩) hst hpl
  exact run_fnS (us := .ref a :: us) (vs := .ref a :: vs) F hr hb (hx σ) I2 (.cons rfl r) q2
theorem pe_methS0 {pl : Sem Bool} (he : PE X o ta) (c : Cls X.K C) (hm : Meth X.K C m f) (F : FnOk X.prog X.w X.K X.mg X.base CX k f fd ps sp) (hr : Room k X.A) (hb : Binds X.K fd ps []) (hx : ∀ σ, PassesAt CX X σ (E σ))
    (ht : eval (.Call (.Attribute o m apos) [] [] pos) X.env = (do
      let ov ← eval o X.env
      standAt apos.atName
      let (f, first) ← holding [ov] (getMethod ov m pl)
      callWith pos f first (backTo pos (starEach [] X.env)) (backToKw pos (keywordEach [] X.env)))) :
    PE X (.Call (.Attribute o m apos) [] [] pos) (tMethS C m sp E ta tNil) := by
  refine ⟨fun pins s σ H Q I h => ?_⟩
  refine PySem.W.methodCall_KW (pl := pl) (thn (he.run pins s σ H _ I h) fun u s1 ⟨x, H1, I1, rx, a, dx, fs, ex, ea, l, q⟩ => ?_) ht
  subst ex
  obtain rfl : u = Value.ref a := rx
  refine getmeth_ok I1 ea c hm l ?_
  exact PySem.W.callWith_K0 (first := [.ref a]) I1.kIn hm.kp (run_fnS (us := [.ref a]) (vs := [.ref a]) F hr hb (hx σ) I1 (.cons rfl .nil) q)
def tMakeS (C : Addr) (sp : Sp) (E : L2.St → XK) (t : TA) : TE := fun σ H Q => t σ H fun vs H1 => ∀ x dx, H1 x = none → H1 dx = none → dx ≠ x →
  sp (.ref x :: vs) (upd (upd H1 dx (.own x)) x (.ins C dx [])) (fun v H2 => v = .non ∧ Q (.ref x) H2) (E σ)
theorem run_makeS {E : XK} {pins : List (Addr × Obj)} {σ : L2.St} {H : Hp} {s : Shared} {Q : VK} {us : List Value} {vs : List V} (M : Mk X.K C f) (F : FnOk X.prog X.w X.K X.mg X.base CX k f fd ps sp) (hr : Room (k + 1) X.A) (hb : Binds X.K fd ps [])
    (hx : PassesAt CX X σ E) (I : Inv X pins σ H s) (r : Vals vs us)
    (h : ∀ x dx, H x = none → H dx = none → dx ≠ x → sp (.ref x :: vs) (upd (upd H dx (.own x)) x (.ins C dx [])) (fun v H2 => v = .non ∧ Q (.ref x) H2) E) :
    wpAny (model X.prog X.w) X.A (call (.ref C) us) (EP X pins σ Q) X.xe s := by
  have hq := h (s.heap.objs.size + 1) s.heap.objs.size (I.hok.fresh (Nat.le_succ _)) (I.hok.fresh (Nat.le_refl _)) (Nat.ne_of_lt (Nat.lt_succ_self _))
  have I2 := Inv.made (C := C) I
  have r2 : Vals (V.ref (s.heap.objs.size + 1) :: vs) (Value.ref (s.heap.objs.size + 1) :: us) := .cons rfl r
  have hl : (Value.ref (s.heap.objs.size + 1) :: us).length = ps.length := by
    have e := r2.length
    rw [F.len _ _ _ _ hq] at e
    exact e.symm
  have b := hb _ (Value.ref (s.heap.objs.size + 1) :: us) I2.kIn (by rw [List.append_nil]; exact hl)
  rw [List.append_nil] at b
  refine wpAny_call (make_map (f := f) I.kIn M.makes M.init (beq_iff_eq.mp M.fn) (codeAny_mono (F.run _ X.stack _ _ ⟨Value.ref (s.heap.objs.size + 1) :: us, []⟩ (Value.ref (s.heap.objs.size + 1) :: us) _ _ E (hr.make C us [])
    (I2.env0.make C us []) b r2 hq) fun r s' hq' => ?_))
  cases r with
  | error e => exact hx pins _ _ e s' I2 hq'
  | ok fl =>
    cases fl with
    | ret u =>
      obtain ⟨v, H', I3, rv, ev, q3⟩ := I2.after hq'
      subst ev
      exact ⟨rv, ⟨V.ref (s.heap.objs.size + 1), H', I3, rfl, q3⟩⟩
    | next => exact False.elim hq'
    | brk => exact False.elim hq'
    | cont => exact False.elim hq'
theorem pe_makeS (M : Mk X.K C f) (F : FnOk X.prog X.w X.K X.mg X.base CX k f fd ps sp) (hr : Room (k + 1) X.A) (hg : L2.Gl X x) (hm : X.mg x = some (.ref C)) (hb : Binds X.K fd ps []) (hx : ∀ σ, PassesAt CX X σ (E σ))
    (ha : PA X (e :: es) t) (hdb : (x == ("__debug__" : Str)) = false) (he : starEach (e :: es) X.env = (false, eval e X.env) :: starEach es X.env) (hpl : (backTo pos (starEach es X.env)).any (·.1) = false) :
    PE X (.Call (.Name x p) (e :: es) [] pos) (tMakeS C sp E t) := by
  refine ⟨fun pins s σ H Q I h => ?_⟩
  refine wpAny_Call_Name_kw (ld_glob I hg hm ?_ hdb)
  refine PySem.W.callWith_K (h₀ := X.base) I.ok.mod.kin M.kp (thn (ha.run pos pins s σ H _ I h) fun us s1 ⟨vs, H1, I1, r, q⟩ => ⟨I1.kIn, ?_⟩) he hpl
  exact run_makeS M F hr hb (hx σ) I1 r q
end

/-! ## what the written part tells -/
def biNames : List Str := ["len", "tuple", "list", "abs", "int", "sum", "all", "any", "max", "min", "sorted", "str", "range", "enumerate", "zip", "isinstance", "bool", "ValueError"]
/-- an own exception class -/
structure ExC (K : PySem.W.Frag) (mg : Str → Option Value) (C : Str) (Ca : Addr) : Prop where
  g : mg C = some (.ref Ca)
  x : PySem.W.excIn K Ca [.type "ValueError", .type "Exception", .type "BaseException", .type "object"] "ValueError.__new__" = true
  k : PySem.W.keepIn K (.ref Ca) = true
  b : PySem.W.subIn K (.ref Ca) (.type "BaseException") = some true
  t : PySem.W.typeIn K (.ref Ca) = some (.type "type")
  e : ExcC K Ca
/-- an own class whose objects are no ints, bools, tuples, texts, lists -/
structure OwC (K : PySem.W.Frag) (Ca : Addr) : Prop where
  c : Cls K Ca
  ha : PySem.W.findIn K (.ref Ca) "__class__" = some (some (.builtin "object.__class__"))
  hn : PySem.W.specialIn K (.builtin "object.__class__") "__get__" = some (some (.builtin "getset_descriptor.__get__"))
  ht : PySem.W.takesIn K (.builtin "object.__class__") = some true
  hm : PySem.W.mroIn K Ca (.type "object") = some true
  no : ∀ T ∈ ["int", "bool", "tuple", "str", "list"], PySem.W.kitOne K (.ref Ca) (.type T) = some false
structure GW (P : Program) (w : World) (K : PySem.W.Frag) (mg : Str → Option Value) (base : Heap) (G : Tb) (cl : Str → Option Addr) (lv : Nat) : Prop where
  bi : ∀ x ∈ biNames, mg x = none
  gcd : G.gcd = true → mg "gcd" = some (.builtin "math.gcd")
  isq : G.isq = true → mg "isqrt" = some (.builtin "math.isqrt")
  fns : ∀ x ms fn, G.fns x = some (ms, fn) → ∃ k f fd ps, k ≤ lv ∧ FnOk P w K mg base (L2.CX P w) k f fd ps (spOf K cl ms.length fn) ∧ mg x = some (.ref f) ∧ PySem.W.keepIn K (.ref f) = true ∧ Binds K fd ps [] ∧ ps.length = ms.length
  cst : ∀ x d, G.cst x = some d → ∃ v u, mg x = some u ∧ RelV v u ∧ ∀ F, Rep K cl F v d
  mks : ∀ C n fn, G.mks C = some (n, fn) → ∃ Ca k f fd ps, k + 1 ≤ lv ∧ cl C = some Ca ∧ mg C = some (.ref Ca) ∧ Mk K Ca f ∧ FnOk P w K mg base (L2.CX P w) k f fd ps (spInit K cl C n fn) ∧ Binds K fd ps []
  mth : ∀ m C n fn, G.mth m = some (C, n, fn) → ∃ Ca k f fd ps, k ≤ lv ∧ cl C = some Ca ∧ Cls K Ca ∧ Meth K Ca m f ∧ FnOk P w K mg base (L2.CX P w) k f fd ps (spOf K cl n fn) ∧ Binds K fd ps []
  fld : ∀ C Ca f, cl C = some Ca → G.fld C f = true → Cls K Ca ∧ NoAttr K Ca f
  exc : ∀ C, G.exc C = true → ∃ Ca, cl C = some Ca ∧ ExC K mg C Ca
  xsub : ∀ C D' Ca Da, G.exc C = true → G.exc D' = true → cl C = some Ca → cl D' = some Da → PySem.W.exmOne K (.ref Ca) (.ref Da) = some (G.sub C D') ∧ PySem.W.kitOne K (.ref Ca) (.ref Da) = some (G.sub C D')
  own : ∀ C Ca, G.own C = true → cl C = some Ca → OwC K Ca
  xve : ∀ C Ca, G.exc C = true → cl C = some Ca → PySem.W.kitOne K (.ref Ca) (.type "ValueError") = some true
structure Info where
  N : List Str
  sc : Scope
  fn : Str → Bool
  gc : Bool
structure XOk (X : Cx) (G : Tb) (cl : Str → Option Addr) (I : Info) (lv : Nat) : Prop where
  N : X.N = I.N
  nd : I.N.Nodup
  sc : X.env.scope = I.sc
  fn : ∀ x, I.fn x = true → X.fn x = true
  gc : I.gc = true → G.gcd = true
  fk : I.sc.kind = .function
  calm : X.calm = true
  room : Room lv X.A
  gw : GW X.prog X.w X.K X.mg X.base G cl lv
end PF

set_option Elab.async false
set_option linter.all false
set_option maxRecDepth 100000
set_option maxHeartbeats 4000000

namespace PF
open PySem PySem.Spec PyProof.Rows L2

theorem PE.imp {X : Cx} {e : Expr} {t t' : TE} (h : PE X e t) (hi : ∀ σ H Q, t' σ H Q → t σ H Q) : PE X e t' := ⟨fun pins s σ H Q I q => h.run pins s σ H Q I (hi _ _ _ q)⟩
theorem PT.imp {X : Cx} {e : Expr} {t t' : TT} (h : PT X e t) (hi : ∀ σ H Q, t' σ H Q → t σ H Q) : PT X e t' := ⟨fun pins s σ H Q I q => h.run pins s σ H Q I (hi _ _ _ q)⟩
theorem PW.imp {X : Cx} {e : Expr} {t t' : TT} (h : PW X e t) (hi : ∀ σ H Q, t' σ H Q → t σ H Q) : PW X e t' := ⟨fun wh pins s σ H Q I q => h.run wh pins s σ H Q I (hi _ _ _ q)⟩
theorem PA.imp {X : Cx} {e : List Expr} {t t' : TA} (h : PA X e t) (hi : ∀ σ H Q, t' σ H Q → t σ H Q) : PA X e t' := ⟨fun pos pins s σ H Q I q => h.run pos pins s σ H Q I (hi _ _ _ q)⟩
theorem PS.imp {X : Cx} {e : Stmt} {t t' : TS} (h : PS X e t) (hi : ∀ D σ H, t' D σ H → t D σ H) : PS X e t' := ⟨fun pins s σ H D I q => h.run pins s σ H D I (hi _ _ _ q)⟩
theorem PSs.imp {X : Cx} {e : List Stmt} {t t' : TS} (h : PSs X e t) (hi : ∀ D σ H, t' D σ H → t D σ H) : PSs X e t' := ⟨fun pins s σ H D I q => h.run pins s σ H D I (hi _ _ _ q)⟩
theorem PO.imp {X : Cx} {e : Option Expr} {t t' : TO} (h : PO X e t) (hi : ∀ σ H Q, t' σ H Q → t σ H Q) : PO X e t' := ⟨fun pins s σ H Q I q => h.run pins s σ H Q I (hi _ _ _ q)⟩
theorem PI.imp {X : Cx} {tg e : Expr} {t t' : TI} (h : PI X tg e t) (hi : ∀ σ H Q, t' σ H Q → t σ H Q) : PI X tg e t' := ⟨fun pins s σ H Q I q => h.run pins s σ H Q I (hi _ _ _ q)⟩

section
variable (K : PySem.W.Frag) (cl : Str → Option Addr) (B : List Addr) (W : WX)
def tOut (f : SemE) : TE := fun σ H Q => ∃ F env A, SOk K cl B F H σ env A ∧ f env (KQ K cl B F H A σ Q) (KR K cl B F H A σ W)
def KT (F H : Hp) (A : List (List Addr)) (σ : L2.St) (Q : Bool → Hp → Prop) (b : Bool) (env' : En) : Prop := ∀ F' H' A', Gr F H A F' H' A' → SOk K cl B F' H' σ env' A' → Q b H'
def tOutT (f : SemT) : TT := fun σ H Q => ∃ F env A, SOk K cl B F H σ env A ∧ f env (KT K cl B F H A σ Q) (KR K cl B F H A σ W)
def adr : V → Ev → List Addr | .ref a, .nw _ => [a] | _, _ => []
inductive RepEs (Hb F H : Hp) (σ : L2.St) (env : En) (A : List (List Addr)) : List V → List Ev → Prop
  | nil : RepEs Hb F H σ env A [] []
  | cons {v vs e es} : RepE K cl Hb F H σ env A v e → RepEs Hb F H σ env A vs es → (∀ a ∈ adr v e, ∀ b ∈ (vs.zip es).flatMap (fun p => adr p.1 p.2), a ≠ b) → RepEs Hb F H σ env A (v :: vs) (e :: es)
def KL (F H : Hp) (A : List (List Addr)) (σ : L2.St) (Q : List V → Hp → Prop) (es : List Ev) (env' : En) : Prop := ∀ vs F' H' A', Gr F H A F' H' A' → SOk K cl B F' H' σ env' A' → RepEs K cl H F' H' σ env' A' vs es → Q vs H'
def tOutL (f : SemL) : TA := fun σ H Q => ∃ F env A, SOk K cl B F H σ env A ∧ f env (KL K cl B F H A σ Q) (KR K cl B F H A σ W)
def KM (F H : Hp) (A : List (List Addr)) (σ : L2.St) (Q : List V → Hp → Prop) (ds : List D) (env' : En) : Prop := ∀ vs F' H' A', Gr F H A F' H' A' → SOk K cl B F' H' σ env' A' → RepL K cl F' vs ds → Q vs H'
def tOutM (f : En → (List D → En → Prop) → KE0 → Prop) : TA := fun σ H Q => ∃ F env A, SOk K cl B F H σ env A ∧ f env (KM K cl B F H A σ Q) (KR K cl B F H A σ W)
inductive RepA (F : Hp) (σ : L2.St) : List V → List (D ⊕ Nat) → Prop
  | nil : RepA F σ [] []
  | inl {v d vs ds} : Rep K cl F v d → RepA F σ vs ds → RepA F σ (v :: vs) (.inl d :: ds)
  | inr {v i vs ds} : σ[i]? = some (some v) → RepA F σ vs ds → RepA F σ (v :: vs) (.inr i :: ds)
def KA (F H : Hp) (A : List (List Addr)) (σ : L2.St) (Q : List V → Hp → Prop) (ds : List (D ⊕ Nat)) (env' : En) : Prop := ∀ vs F' H' A', Gr F H A F' H' A' → SOk K cl B F' H' σ env' A' → RepA K cl F' σ vs ds → Q vs H'
def tOutA (f : En → (List (D ⊕ Nat) → En → Prop) → KE0 → Prop) : TA := fun σ H Q => ∃ F env A, SOk K cl B F H σ env A ∧ f env (KA K cl B F H A σ Q) (KR K cl B F H A σ W)
def KO (F H : Hp) (A : List (List Addr)) (σ : L2.St) (Q : Option Int → Hp → Prop) (o : Option Int) (env' : En) : Prop := ∀ F' H' A', Gr F H A F' H' A' → SOk K cl B F' H' σ env' A' → Q o H'
def tOutO (f : En → (Option Int → En → Prop) → KE0 → Prop) : TO := fun σ H Q => ∃ F env A, SOk K cl B F H σ env A ∧ f env (KO K cl B F H A σ Q) (KR K cl B F H A σ W)
/-- an iterator that yields ds -/
structure Yld (J : L2.It) (F : Hp) (ds : List D) : Prop where
  go : ∀ i H, i < ds.length → (∀ a o, F a = some o → H a = some o) → J.go i H
  stop : ∀ H, (∀ a o, F a = some o → H a = some o) → J.stop ds.length H
  yld : ∀ i H x H', i < ds.length → (∀ a o, F a = some o → H a = some o) → J.yld i H x H' → ∃ d, ds[i]? = some d ∧ ((H' = H ∧ Rep K cl F x d) ∨ ∃ p vs es, H p = none ∧ x = .ref p ∧ H' = upd H p (.tup vs) ∧ d = .tup es ∧ RepL K cl F vs es)
def KI (F H : Hp) (A : List (List Addr)) (σ : L2.St) (R : L2.It → Hp → Prop) (ds : List D) (env' : En) : Prop := ∀ J F' H' A', Gr F H A F' H' A' → SOk K cl B F' H' σ env' A' → Yld K cl J F' ds → R J H'
def tOutI (f : SemI) : TI := fun σ H R => ∃ F env A, SOk K cl B F H σ env A ∧ f env (KI K cl B F H A σ R) (KR K cl B F H A σ W)
end

section
variable {X : Cx} {G : Tb} {cl : Str → Option Addr} {B : List Addr} {W : WX} {I : Info} {lv : Nat} {a b c : Expr} {pos : Pos} {fa fb fc : SemE}

abbrev OE (X : Cx) (cl : Str → Option Addr) (B : List Addr) (W : WX) (e : Expr) (f : SemE) : Prop := PE X e (tOut X.K cl B W f)
abbrev OT (X : Cx) (cl : Str → Option Addr) (B : List Addr) (W : WX) (e : Expr) (f : SemT) : Prop := PT X e (tOutT X.K cl B W f)
abbrev OL (X : Cx) (cl : Str → Option Addr) (B : List Addr) (W : WX) (e : List Expr) (f : SemL) : Prop := PA X e (tOutL X.K cl B W f)
abbrev OM (X : Cx) (cl : Str → Option Addr) (B : List Addr) (W : WX) (e : List Expr) (f : En → (List D → En → Prop) → KE0 → Prop) : Prop := PA X e (tOutM X.K cl B W f)
abbrev OA (X : Cx) (cl : Str → Option Addr) (B : List Addr) (W : WX) (e : List Expr) (f : En → (List (D ⊕ Nat) → En → Prop) → KE0 → Prop) : Prop := PA X e (tOutA X.K cl B W f)

/-- the step: from the first part's meaning to the second's -/
theorem step {f : SemE} (mf : MonoE f) {σ : L2.St} {H : Hp} {F : Hp} {env : En} {A : List (List Addr)} {Q1 : Ev → En → Prop} {R : V → Hp → Prop} (ok : SOk X.K cl B F H σ env A)
    (h : f env Q1 (KR X.K cl B F H A σ W)) (k : ∀ e env1, Q1 e env1 → ∀ v F1 H1 A1, Gr F H A F1 H1 A1 → SOk X.K cl B F1 H1 σ env1 A1 → RepE X.K cl H F1 H1 σ env1 A1 v e → R v H1) :
    tOut X.K cl B W f σ H R := ⟨F, env, A, ok, mf.ap h (fun e env1 q v F1 H1 A1 g ok1 r => k e env1 q v F1 H1 A1 g ok1 r) fun _ _ z => z⟩
theorem stepT {f : SemT} (mf : MonoT f) {σ : L2.St} {H : Hp} {F : Hp} {env : En} {A : List (List Addr)} {Q1 : Bool → En → Prop} {R : Bool → Hp → Prop} (ok : SOk X.K cl B F H σ env A)
    (h : f env Q1 (KR X.K cl B F H A σ W)) (k : ∀ e env1, Q1 e env1 → ∀ F1 H1 A1, Gr F H A F1 H1 A1 → SOk X.K cl B F1 H1 σ env1 A1 → R e H1) :
    tOutT X.K cl B W f σ H R := ⟨F, env, A, ok, mf.ap h (fun e env1 q F1 H1 A1 g ok1 => k e env1 q F1 H1 A1 g ok1) fun _ _ z => z⟩

def vis (I : Info) (x : Str) : Bool := match I.sc.names.lookup x with | some .local => true | some .cell => true | some .free => true | _ => false
def glb (I : Info) (x : Str) : Bool := (match I.sc.names.lookup x with | some .globalImplicit => true | _ => false) && !(x == ("__debug__" : Str))
def loc (I : Info) (x : Str) : Bool := match I.sc.names.lookup x with | some .local => true | _ => false
theorem XOk.vis (hX : XOk X G cl I lv) {x : Str} (h : vis I x = true) : Vis X.env.scope x := by
  unfold PF.vis at h
  rw [hX.sc]
  split at h <;> first | exact .inl (by assumption) | exact .inr (.inl (by assumption)) | exact .inr (.inr (by assumption)) | cases h
theorem XOk.loc (hX : XOk X G cl I lv) {x : Str} (h : loc I x = true) : X.env.scope.names.lookup x = some .local := by
  unfold PF.loc at h
  rw [hX.sc]
  split at h <;> first | assumption | cases h
theorem XOk.gl (hX : XOk X G cl I lv) {x : Str} (h : glb I x = true) : L2.Gl X x ∧ (x == ("__debug__" : Str)) = false := by
  unfold glb at h
  rw [Bool.and_eq_true] at h
  refine ⟨?_, by simpa using h.2⟩
  show X.env.scope.names.lookup x = _
  rw [hX.sc]
  have h1 := h.1
  split at h1
  · assumption
  · cases h1
theorem XOk.hu (hX : XOk X G cl I lv) : X.A.units + 65 < cLine := by
  have := hX.room.un
  omega

/-! ### constants, names -/
def cstEq : Cst → Const → Bool
  | .non, .none => true
  | .bl b, .bool c => b == c
  | .int i, .int j => decide (i = j)
  | .str x, .str y => decide (x = y)
  | _, _ => false
theorem s_cst {c : Cst} {k : Const} {j : Nat} (h : cstEq c k = true) : OE X cl B W (.Constant k j pos) (ev G (.cst c)).1 := by
  have r : ∀ {F}, ∃ v, Rep X.K cl F v c.dt ∧ PE X (.Constant k j pos) (tC v) ∧ (∀ F', ∀ u, Rep X.K cl F' u c.dt → u = v) := fun {F} => by
    cases c <;> cases k <;> simp only [cstEq] at h <;> try (cases h)
    · exact ⟨.non, .non, pe_non, fun _ _ r => by cases r; rfl⟩
    · rename_i b c; have : b = c := by simpa using h
      subst this; exact ⟨.bl b, .bl b, pe_bl, fun _ _ r => by cases r; rfl⟩
    · rename_i b c; have : b = c := by simpa using h
      subst this; exact ⟨.int b, .int b, pe_int, fun _ _ r => by cases r; rfl⟩
    · rename_i b c; have : b = c := by simpa using h
      subst this; exact ⟨.str b, .str b, pe_str, fun _ _ r => by cases r; rfl⟩
  obtain ⟨v, r0, p, u⟩ := r (F := fun _ => none)
  refine PE.imp p fun σ H Q ⟨F, env, A, ok, h⟩ => ?_
  obtain ⟨v', r1, _, _⟩ := r (F := F)
  have e := u F v' r1
  subst e
  exact h _ F H A (.refl ..) ok r1
theorem s_var {i : Nat} {x : Str} (hX : XOk X G cl I lv) (h1 : I.N[i]? = some x) (h2 : vis I x = true) (h3 : (x == ("__debug__" : Str)) = false) (h4 : (x == ("__classdict__" : Str)) = false) :
    OE X cl B W (.Name x pos) (ev G (.var i)).1 := by
  refine PE.imp (pe_var (by rw [hX.N]; exact h1) (hX.vis h2) h3 h4) fun σ H Q ⟨F, env, A, ok, h⟩ => ?_
  simp only [ev] at h
  split at h
  · rename_i d he
    obtain ⟨w, as, e1, e2, e3, v, e4, r⟩ := ok.at he
    subst e4
    exact ⟨v, e1, h v F H A (.refl ..) ok r⟩
  · rename_i k ds he
    obtain ⟨w, as, e1, e2, a, vs, e3, e4, _⟩ := ok.at he
    subst e3
    exact ⟨_, e1, h _ F H A (.refl ..) ok e1⟩
  · rename_i ds he
    obtain ⟨w, as, e1, e2, a, vs, e3, e4, _⟩ := ok.at he
    subst e3
    exact ⟨_, e1, h _ F H A (.refl ..) ok e1⟩
  · exact h.elim
theorem s_glob {x : Str} (hX : XOk X G cl I lv) (h1 : glb I x = true) : OE X cl B W (.Name x pos) (ev G (.glob x)).1 := by
  obtain ⟨g1, g2⟩ := hX.gl h1
  refine ⟨fun pins s σ H Q J ⟨F, env, A, ok, d, hd, h⟩ => ?_⟩
  obtain ⟨v, u, e1, e2, r⟩ := hX.gw.cst x d hd
  exact (pe_glob g1 e1 e2 g2).run pins s σ H Q J (h v F H A (.refl ..) ok (r F))

/-! ### operators -/
theorem s_bin {op : Bop} (ha : OE X cl B W a fa) (hb : OE X cl B W b fb) (ma : MonoE fa) (mb : MonoE fb) :
    OE X cl B W (.BinOp a op.py b pos) (fun env Q Er => fa env (fun ea env1 => fb env1 (fun eb env2 => peekW env2 ea fun x => peekW env2 eb fun y => opBin op x y fun e => Q e env2) Er) Er) := by
  refine PE.imp (pe_op (op_bin op) ha hb) fun σ H Q ⟨F, env, A, ok, h⟩ => ?_
  refine step ma ok h fun ea env1 h1 v1 F1 H1 A1 g1 ok1 r1 => ?_
  refine step mb ok1 (mb.ap h1 (fun _ _ z => z) fun _ _ z => z.sh g1) fun eb env2 h2 v2 F2 H2 A2 g2 ok2 r2 => ?_
  obtain ⟨x, px, h2⟩ := peekW_iff h2
  obtain ⟨y, py, h2⟩ := peekW_iff h2
  exact bin_ok (g1.trans g2) ok2 (peek_ok ok2 (r1.keep g2) px) (peek_ok ok2 r2 py) h2
theorem s_neg (ha : OE X cl B W a fa) (ma : MonoE fa) : OE X cl B W (.UnaryOp .USub a pos) (fun env Q Er => fa env (fun ea env1 => ∃ i, ea = .d (.int i) ∧ Q (.d (.int (-i))) env1) Er) := by
  refine PE.imp (pe_un un_neg ha) fun σ H Q ⟨F, env, A, ok, h⟩ => ?_
  refine step ma ok h fun ea env1 h1 v1 F1 H1 A1 g1 ok1 r1 => ?_
  obtain ⟨i, e, h1⟩ := h1
  subst e
  cases r1
  exact ⟨i, rfl, give_d g1 ok1 h1 (.int _)⟩
theorem mark_set {op : CmpOp} {b : Expr} (h : (match b with | .Set .. => false | _ => true) = true) : behindInMarks op b = false := by
  cases b <;> first | rfl | cases h
theorem s_cmp {op : Cop} (hX : XOk X G cl I lv) (hs : (match b with | .Set .. => false | _ => true) = true) (ha : OE X cl B W a fa) (hb : OE X cl B W b fb) (ma : MonoE fa) (mb : MonoE fb) :
    OE X cl B W (.Compare a [op.py] [b] pos) (fun env Q Er => fa env (fun ea env1 => fb env1 (fun eb env2 => peekW env2 ea fun x => peekW env2 eb fun y => opCmp op x y fun r => Q (.d (.bl r)) env2) Er) Er) := by
  refine PE.imp (pe_cmpR (op_cmp hX.hu op) ha hb (mark_set hs)) fun σ H Q ⟨F, env, A, ok, h⟩ => ?_
  refine step ma ok h fun ea env1 h1 v1 F1 H1 A1 g1 ok1 r1 => ?_
  refine step mb ok1 (mb.ap h1 (fun _ _ z => z) fun _ _ z => z.sh g1) fun eb env2 h2 v2 F2 H2 A2 g2 ok2 r2 => ?_
  obtain ⟨x, px, h2⟩ := peekW_iff h2
  obtain ⟨y, py, h2⟩ := peekW_iff h2
  exact cmp_ok ok2.sub (peek_ok ok2 (r1.keep g2) px) (peek_ok ok2 r2 py) (opCmp_mono h2 fun b q => give_d (g1.trans g2) ok2 q (.bl _))
/-- a comparison as a test: bool, by its rule -/
theorem s_cmpT {op : Cop} (hX : XOk X G cl I lv) (hs : (match b with | .Set .. => false | _ => true) = true) (ha : OE X cl B W a fa) (hb : OE X cl B W b fb) (ma : MonoE fa) (mb : MonoE fb) :
    OT X cl B W (.Compare a [op.py] [b] pos) (truS fun env Q Er => fa env (fun ea env1 => fb env1 (fun eb env2 => peekW env2 ea fun x => peekW env2 eb fun y => opCmp op x y fun r => Q (.d (.bl r)) env2) Er) Er) := by
  refine PT.imp (pt_cmpR (op_cmp hX.hu op) ha hb (mark_set hs)) fun σ H Q ⟨F, env, A, ok, h⟩ => ?_
  refine step ma ok h fun ea env1 h1 v1 F1 H1 A1 g1 ok1 r1 => ?_
  refine step mb ok1 (mb.ap h1 (fun _ _ z => z) fun _ _ z => z.sh g1) fun eb env2 h2 v2 F2 H2 A2 g2 ok2 r2 => ?_
  obtain ⟨x, px, h2⟩ := peekW_iff h2
  obtain ⟨y, py, h2⟩ := peekW_iff h2
  refine cmp_ok (Q := fun z H' => ∃ k, z = .bl k ∧ Q k H') ok2.sub (peek_ok ok2 (r1.keep g2) px) (peek_ok ok2 r2 py) (opCmp_mono h2 fun b q => ⟨b, rfl, ?_⟩)
  exact q F2 H2 A2 (g1.trans g2) ok2
theorem chain_sem {o1 o2 : Cop} (ha : OE X cl B W a fa) (hb : OE X cl B W b fb) (hc : OE X cl B W c fc) (ma : MonoE fa) (mb : MonoE fb) (mc : MonoE fc) {σ : L2.St} {F H : Hp} {env : En} {A : List (List Addr)} {R : Bool → En → Prop} {Q : VK}
    (ok : SOk X.K cl B F H σ env A) (h : fa env (fun ea env1 => fb env1 (fun eb env2 => peekW env2 ea fun x => peekW env2 eb fun y => opCmp o1 x y fun r =>
      if r = true then fc env2 (fun ec env3 => peekW env3 eb fun y => peekW env3 ec fun z => opCmp o2 y z fun r' => R r' env3) (KR X.K cl B F H A σ W) else R false env2) (KR X.K cl B F H A σ W)) (KR X.K cl B F H A σ W))
    (k : ∀ r env', R r env' → ∀ F' H' A', Gr F H A F' H' A' → SOk X.K cl B F' H' σ env' A' → Q (.bl r) H') :
    tChain (rCmp X.K o1) (rCmp X.K o2) (tOut X.K cl B W fa) (tOut X.K cl B W fb) (tOut X.K cl B W fc) σ H Q := by
  refine step ma ok h fun ea env1 h1 v1 F1 H1 A1 g1 ok1 r1 => ?_
  refine step mb ok1 (mb.ap h1 (fun _ _ z => z) fun _ _ z => z.sh g1) fun eb env2 h2 v2 F2 H2 A2 g2 ok2 r2 => ?_
  obtain ⟨x, px, h2⟩ := peekW_iff h2
  obtain ⟨y, py, h2⟩ := peekW_iff h2
  refine cmp_ok (Q := fun z H3 => ∃ k, z = .bl k ∧ if k = true then tOut X.K cl B W fc σ H3 fun z' H4 => rCmp X.K o2 v2 z' H4 Q else Q (.bl false) H3) ok2.sub (peek_ok ok2 (r1.keep g2) px) (peek_ok ok2 r2 py) (opCmp_mono h2 fun b q => ⟨b, rfl, ?_⟩)
  cases b with
  | true =>
    simp only [if_true] at q ⊢
    refine step mc ok2 (mc.ap q (fun _ _ z => z) fun _ _ z => z.sh (g1.trans g2)) fun ec env3 h3 v3 F3 H3 A3 g3 ok3 r3 => ?_
    obtain ⟨y', py', h3⟩ := peekW_iff h3
    obtain ⟨z, pz, h3⟩ := peekW_iff h3
    exact cmp_ok ok3.sub (peek_ok ok3 (r2.keep g3) py') (peek_ok ok3 r3 pz) (opCmp_mono h3 fun b q => k _ _ q _ _ _ ((g1.trans g2).trans g3) ok3)
  | false =>
    simp only [Bool.false_eq_true, if_false] at q ⊢
    exact k _ _ q _ _ _ (g1.trans g2) ok2
end
end PF

set_option Elab.async false
set_option linter.all false
set_option maxRecDepth 100000
set_option maxHeartbeats 4000000

namespace PF
open PySem PySem.Spec PyProof.Rows L2
section
variable {X : Cx} {G : Tb} {cl : Str → Option Addr} {B : List Addr} {W : WX} {I : Info} {lv : Nat} {a b c : Expr} {es : List Expr} {pos : Pos} {fa fb fc : SemE} {ta tb : SemT}

def notSet : Expr → Bool | .Set .. => false | _ => true
theorem last_set {o1 o2 : CmpOp} {b c : Expr} (h : notSet c = true) : lastMarks [o1, o2] [b, c] = false := by
  unfold lastMarks
  show lastMarks [o2] [c] = false
  cases c <;> first | rfl | cases h
theorem s_chain {o1 o2 : Cop} (hX : XOk X G cl I lv) (hs : notSet c = true) (ha : OE X cl B W a fa) (hb : OE X cl B W b fb) (hc : OE X cl B W c fc) (ma : MonoE fa) (mb : MonoE fb) (mc : MonoE fc) :
    OE X cl B W (.Compare a [o1.py, o2.py] [b, c] pos) (fun env Q Er => fa env (fun ea env1 => fb env1 (fun eb env2 => peekW env2 ea fun x => peekW env2 eb fun y => opCmp o1 x y fun r =>
      if r = true then fc env2 (fun ec env3 => peekW env3 eb fun y => peekW env3 ec fun z => opCmp o2 y z fun r' => Q (.d (.bl r')) env3) Er else Q (.d (.bl false)) env2) Er) Er) := by
  refine PE.imp (pe_chain (op_cmp hX.hu o1) (op_cmp hX.hu o2) ha hb hc (last_set hs)) fun σ H Q ⟨F, env, A, ok, h⟩ => ?_
  exact chain_sem (R := fun r env' => KQ X.K cl B F H A σ Q (.d (.bl r)) env') ha hb hc ma mb mc ok h fun r env' q F' H' A' g ok' => give_d g ok' q (.bl _)
theorem s_chainT {o1 o2 : Cop} (hX : XOk X G cl I lv) (hs : notSet c = true) (ha : OE X cl B W a fa) (hb : OE X cl B W b fb) (hc : OE X cl B W c fc) (ma : MonoE fa) (mb : MonoE fb) (mc : MonoE fc) :
    OT X cl B W (.Compare a [o1.py, o2.py] [b, c] pos) (truS fun env Q Er => fa env (fun ea env1 => fb env1 (fun eb env2 => peekW env2 ea fun x => peekW env2 eb fun y => opCmp o1 x y fun r =>
      if r = true then fc env2 (fun ec env3 => peekW env3 eb fun y => peekW env3 ec fun z => opCmp o2 y z fun r' => Q (.d (.bl r')) env3) Er else Q (.d (.bl false)) env2) Er) Er) := by
  refine PT.imp (pt_chain (op_cmp hX.hu o1) (op_cmp hX.hu o2) ha hb hc (last_set hs)) fun σ H Q ⟨F, env, A, ok, h⟩ => ?_
  exact chain_sem (R := fun r env' => KT X.K cl B F H A σ Q r env') ha hb hc ma mb mc ok h fun r env' q F' H' A' g ok' => ⟨r, rfl, q _ _ _ g ok'⟩

/-! ### and, or, not, if -/
theorem s_one {op} {f : SemE} (h : OE X cl B W a f) : OE X cl B W (.BoolOp op [a] pos) f := pe_one h
theorem s_andV {rest : List Expr} (ha : OE X cl B W a fa) (hb : OE X cl B W (.BoolOp .And (b :: rest) pos) fb) (ma : MonoE fa) (mb : MonoE fb) :
    OE X cl B W (.BoolOp .And (a :: b :: rest) pos) (fun env Q Er => fa env (fun x env1 => ∃ c, x = .d (.bl c) ∧ if c = true then fb env1 Q Er else Q (.d (.bl false)) env1) Er) := by
  refine PE.imp (pe_and ha hb) fun σ H Q ⟨F, env, A, ok, h⟩ => ?_
  refine step ma ok h fun ea env1 h1 v1 F1 H1 A1 g1 ok1 r1 => ?_
  obtain ⟨c, e, h1⟩ := h1
  subst e
  cases r1
  refine ⟨c, rfl, ?_⟩
  cases c with
  | true => exact step mb ok1 (mb.ap h1 (fun _ _ z => z.sh g1) fun _ _ z => z.sh g1) fun e env2 q v F2 H2 A2 g2 ok2 r2 => q _ _ _ _ g2 ok2 r2
  | false => exact give_d g1 ok1 h1 (.bl _)
theorem s_orV {rest : List Expr} (ha : OE X cl B W a fa) (hb : OE X cl B W (.BoolOp .Or (b :: rest) pos) fb) (ma : MonoE fa) (mb : MonoE fb) :
    OE X cl B W (.BoolOp .Or (a :: b :: rest) pos) (fun env Q Er => fa env (fun x env1 => ∃ c, x = .d (.bl c) ∧ if c = true then Q (.d (.bl true)) env1 else fb env1 Q Er) Er) := by
  refine PE.imp (pe_or ha hb) fun σ H Q ⟨F, env, A, ok, h⟩ => ?_
  refine step ma ok h fun ea env1 h1 v1 F1 H1 A1 g1 ok1 r1 => ?_
  obtain ⟨c, e, h1⟩ := h1
  subst e
  cases r1
  refine ⟨c, rfl, ?_⟩
  cases c with
  | true => exact give_d g1 ok1 h1 (.bl _)
  | false => exact step mb ok1 (mb.ap h1 (fun _ _ z => z.sh g1) fun _ _ z => z.sh g1) fun e env2 q v F2 H2 A2 g2 ok2 r2 => q _ _ _ _ g2 ok2 r2
theorem s_notV (ha : OE X cl B W a fa) (ma : MonoE fa) : OE X cl B W (.UnaryOp .Not a pos) (fun env Q Er => fa env (fun ea env1 => ∃ b, ea = .d (.bl b) ∧ Q (.d (.bl (!b))) env1) Er) := by
  refine PE.imp (pe_not ha) fun σ H Q ⟨F, env, A, ok, h⟩ => ?_
  refine step ma ok h fun ea env1 h1 v1 F1 H1 A1 g1 ok1 r1 => ?_
  obtain ⟨c, e, h1⟩ := h1
  subst e
  cases r1
  exact ⟨c, rfl, give_d g1 ok1 h1 (.bl _)⟩
theorem s_notT (ha : OT X cl B W a ta) (ma : MonoT ta) : OT X cl B W (.UnaryOp .Not a pos) (fun env Q Er => ta env (fun b env1 => Q (!b) env1) Er) := by
  refine PT.imp (pt_not ha) fun σ H Q ⟨F, env, A, ok, h⟩ => ?_
  exact stepT ma ok h fun b env1 q F1 H1 A1 g1 ok1 => q _ _ _ g1 ok1
def OW (X : Cx) (cl : Str → Option Addr) (B : List Addr) (W : WX) (e : Expr) (f : SemT) : Prop := PW X e (tOutT X.K cl B W f)
theorem s_andW1 (ha : OT X cl B W a ta) : OW X cl B W (.BoolOp .And [a] pos) ta := pw_and1 ha
theorem s_orW1 (ha : OT X cl B W a ta) : OW X cl B W (.BoolOp .Or [a] pos) ta := pw_or1 ha
theorem s_andW {rest : List Expr} (ha : OT X cl B W a ta) (hb : OW X cl B W (.BoolOp .And (b :: rest) pos) tb) (ma : MonoT ta) (mb : MonoT tb) :
    OW X cl B W (.BoolOp .And (a :: b :: rest) pos) (fun env Q Er => ta env (fun c env1 => if c = true then tb env1 Q Er else Q false env1) Er) := by
  refine PW.imp (pw_and ha hb) fun σ H Q ⟨F, env, A, ok, h⟩ => ?_
  refine stepT ma ok h fun c env1 q F1 H1 A1 g1 ok1 => ?_
  cases c with
  | true => exact stepT mb ok1 (mb.ap q (fun _ _ z => z) fun _ _ z => z.sh g1) fun b env2 q F2 H2 A2 g2 ok2 => q _ _ _ (g1.trans g2) ok2
  | false => exact q _ _ _ g1 ok1
theorem s_orW {rest : List Expr} (ha : OT X cl B W a ta) (hb : OW X cl B W (.BoolOp .Or (b :: rest) pos) tb) (ma : MonoT ta) (mb : MonoT tb) :
    OW X cl B W (.BoolOp .Or (a :: b :: rest) pos) (fun env Q Er => ta env (fun c env1 => if c = true then Q true env1 else tb env1 Q Er) Er) := by
  refine PW.imp (pw_or ha hb) fun σ H Q ⟨F, env, A, ok, h⟩ => ?_
  refine stepT ma ok h fun c env1 q F1 H1 A1 g1 ok1 => ?_
  cases c with
  | true => exact q _ _ _ g1 ok1
  | false => exact stepT mb ok1 (mb.ap q (fun _ _ z => z) fun _ _ z => z.sh g1) fun b env2 q F2 H2 A2 g2 ok2 => q _ _ _ (g1.trans g2) ok2
theorem s_ife (hc : OT X cl B W c ta) (ha : OE X cl B W a fa) (hb : OE X cl B W b fb) (mc : MonoT ta) (ma : MonoE fa) (mb : MonoE fb) :
    OE X cl B W (.IfExp c a b pos) (fun env Q Er => ta env (fun k env1 => if k = true then fa env1 Q Er else fb env1 Q Er) Er) := by
  refine PE.imp (pe_ifExp hc ha hb) fun σ H Q ⟨F, env, A, ok, h⟩ => ?_
  refine stepT mc ok h fun c env1 q F1 H1 A1 g1 ok1 => ?_
  cases c with
  | true => exact step ma ok1 (ma.ap q (fun _ _ z => z.sh g1) fun _ _ z => z.sh g1) fun e env2 q v F2 H2 A2 g2 ok2 r2 => q _ _ _ _ g2 ok2 r2
  | false => exact step mb ok1 (mb.ap q (fun _ _ z => z.sh g1) fun _ _ z => z.sh g1) fun e env2 q v F2 H2 A2 g2 ok2 r2 => q _ _ _ _ g2 ok2 r2
/-- truth of a value of any kind -/
def plainT : Expr → Bool
  | .UnaryOp .Not _ _ => false
  | .BoolOp .. => false
  | .IfExp .. => false
  | .Compare .. => false
  | _ => true
theorem plainT_eq {e : Expr} {env : Env} (h : plainT e = true) : ∀ whole, isTrue e env whole = (do let v ← whole; standAt e.pos; holding [v] (truthy v)) := by
  intro whole
  cases e <;> first | rfl | (cases h; done) | skip
  rename_i op a p
  cases op <;> first | rfl | cases h
theorem s_truth (hp : plainT a = true) (ha : OE X cl B W a fa) (ma : MonoE fa) : OT X cl B W a (truS fa) := by
  refine PT.imp (pt_truth ha (plainT_eq hp)) fun σ H Q ⟨F, env, A, ok, h⟩ => ?_
  refine step ma ok h fun ea env1 h1 v1 F1 H1 A1 g1 ok1 r1 => ?_
  obtain ⟨x, px, h1⟩ := peekW_iff h1
  obtain ⟨k, t, q⟩ := tru_ok' ok1.sub (peek_ok ok1 r1 px) h1
  exact ⟨k, t, q _ _ _ g1 ok1⟩

/-! ### parts -/
def notSlice : Expr → Bool | .Slice .. => false | _ => true
theorem plainIx {e : Expr} (h : notSlice e = true) : PlainIx e := by
  intro o i
  cases e <;> first | rfl | cases h
theorem atI_rep {K : PySem.W.Frag} {F : Hp} {vs : List V} {ds : List D} {i : Int} {d : D} (r : RepL K cl F vs ds) (h : atI ds i = some d) : ∃ v, atI vs i = some v ∧ Rep K cl F v d := by
  unfold atI at h ⊢
  rw [r.length]
  cases e : ixN ds.length i with
  | none => rw [e] at h; cases h
  | some j =>
    rw [e] at h
    obtain ⟨v, h1, h2⟩ := r.get (show ds[j]? = some d from h)
    exact ⟨v, h1, h2⟩
theorem s_ix (hp : notSlice b = true) (ha : OE X cl B W a fa) (hb : OE X cl B W b fb) (ma : MonoE fa) (mb : MonoE fb) :
    OE X cl B W (.Subscript a b pos) (fun env Q Er => fa env (fun ea env1 => fb env1 (fun eb env2 => peekW env2 ea fun x => peekW env2 eb fun y => opIx x y fun d => Q (.d d) env2) Er) Er) := by
  refine PE.imp (pe_ix ix_seq ha hb (plainIx hp)) fun σ H Q ⟨F, env, A, ok, h⟩ => ?_
  refine step ma ok h fun ea env1 h1 v1 F1 H1 A1 g1 ok1 r1 => ?_
  refine step mb ok1 (mb.ap h1 (fun _ _ z => z) fun _ _ z => z.sh g1) fun eb env2 h2 v2 F2 H2 A2 g2 ok2 r2 => ?_
  obtain ⟨x, px, h2⟩ := peekW_iff h2
  obtain ⟨y, py, h2⟩ := peekW_iff h2
  have p1 := peek_ok ok2 (r1.keep g2) px
  have p2 := peek_ok ok2 r2 py
  unfold opIx at h2
  split at h2
  · obtain ⟨d, e, q⟩ := h2
    cases p2.int
    obtain ⟨l, vs, e1, sq, rl⟩ := p1.lst ok2.sub
    subst e1
    obtain ⟨v, e2, rv⟩ := atI_rep rl e
    exact .inl ⟨l, vs, _, v, rfl, rfl, sq, e2, give_d (g1.trans g2) ok2 q rv⟩
  · obtain ⟨d, e, q⟩ := h2
    cases p2.int
    obtain ⟨_, l, vs, e1, sq, _, rl⟩ := p1.tup ok2.sub
    subst e1
    obtain ⟨v, e2, rv⟩ := atI_rep rl e
    exact .inr (.inl ⟨l, vs, _, v, rfl, rfl, sq, e2, give_d (g1.trans g2) ok2 q rv⟩)
  · obtain ⟨d, e, q⟩ := h2
    cases p2.int
    obtain ⟨l, vs, e1, sq, rl⟩ := p1.klst ok2.sub
    subst e1
    obtain ⟨v, e2, rv⟩ := atI_rep rl e
    exact .inl ⟨l, vs, _, v, rfl, rfl, sq, e2, give_d (g1.trans g2) ok2 q rv⟩
  · exact h2.elim
def OO (X : Cx) (cl : Str → Option Addr) (B : List Addr) (W : WX) (e : Option Expr) (f : En → (Option Int → En → Prop) → KE0 → Prop) : Prop := PO X e (tOutO X.K cl B W f)
theorem s_onone : OO X cl B W none (fun env Q _ => Q none env) := PO.imp po_none fun σ H Q ⟨F, env, A, ok, h⟩ => h F H A (.refl ..) ok
theorem s_osome (ha : OE X cl B W a fa) (ma : MonoE fa) : OO X cl B W (some a) (fun env Q Er => fa env (fun x env1 => ∃ i, x = .d (.int i) ∧ Q (some i) env1) Er) := by
  refine PO.imp (po_some ha) fun σ H Q ⟨F, env, A, ok, h⟩ => ?_
  refine step ma ok h fun ea env1 h1 v1 F1 H1 A1 g1 ok1 r1 => ?_
  obtain ⟨i, e, q⟩ := h1
  subst e
  cases r1
  exact ⟨i, rfl, q _ _ _ g1 ok1⟩
theorem cut_rep {K : PySem.W.Frag} {F : Hp} {vs : List V} {ds : List D} {lo hi : Option Int} (r : RepL K cl F vs ds) : RepL K cl F (cutV vs lo hi) (cutD ds lo hi) := by
  unfold cutV cutD
  rw [r.length]
  exact (r.drop _).take _
theorem s_sl {lo hi : Option Expr} {fl fh : En → (Option Int → En → Prop) → KE0 → Prop} {p2 : Pos} (ha : OE X cl B W a fa) (hl : OO X cl B W lo fl) (hh : OO X cl B W hi fh) (ma : MonoE fa) (ml : MonoO fl) (mh : MonoO fh) :
    OE X cl B W (.Subscript a (.Slice lo hi none p2) pos) (fun env Q Er => fa env (fun ea env1 => fl env1 (fun l env2 => fh env2 (fun h env3 => peekW env3 ea fun x => opSl x l h fun e => Q e env3) Er) Er) Er) := by
  refine PE.imp (pe_slice (sl_list.or sl_tupA) ha hl hh) fun σ H Q ⟨F, env, A, ok, h⟩ => ?_
  refine step ma ok h fun ea env1 h1 v1 F1 H1 A1 g1 ok1 r1 => ?_
  refine ⟨F1, env1, A1, ok1, ml.ap h1 (fun l env2 h2 F2 H2 A2 g2 ok2 => ?_) fun _ _ z => z.sh g1⟩
  refine ⟨F2, env2, A2, ok2, mh.ap h2 (fun u env3 h3 F3 H3 A3 g3 ok3 => ?_) fun _ _ z => z.sh (g1.trans g2)⟩
  obtain ⟨x, px, h3⟩ := peekW_iff h3
  have p1 := peek_ok ok3 (r1.keep (g2.trans g3)) px
  have g := (g1.trans g2).trans g3
  cases x with
  | lst ds =>
    obtain ⟨p, vs, e1, sq, rl⟩ := p1.lst ok3.sub
    subst e1
    exact .inl ⟨p, vs, rfl, sq, give_nw g ok3 h3 (cut_rep rl)⟩
  | klst ds =>
    obtain ⟨p, vs, e1, sq, rl⟩ := p1.klst ok3.sub
    subst e1
    exact .inl ⟨p, vs, rfl, sq, give_nw g ok3 h3 (cut_rep rl)⟩
  | tup ds =>
    obtain ⟨r0, p, vs, e1, sq, sf, rl⟩ := p1.tup ok3.sub
    subst e1
    refine .inr ⟨p, vs, rfl, sq, fun z => ?_, fun _ => give_tup g ok3 h3 (cut_rep rl)⟩
    have e : cutD ds l u = ds := by
      unfold cutD
      rw [← rl.length, z.1, z.2, rl.length]
      simp
    exact give_d g ok3 (by have h4 : KQ X.K cl B F H A σ Q (.d (.tup (cutD ds l u))) env3 := h3; rw [e] at h4; exact h4) r0
  | _ => exact h3.elim
theorem attr_base {o : Expr} {f : Str} {env : Env} {t : Sem Value} (h : (match o with | .Call (.Name _ _) [] [] _ => false | _ => true) = true) : attributeBase o f env t = t := by
  unfold attributeBase
  split
  · cases h
  · rfl
theorem s_attr {f : Str} (hX : XOk X G cl I lv) (hp : (match a with | .Call (.Name _ _) [] [] _ => false | _ => true) = true) (ha : OE X cl B W a fa) (ma : MonoE fa) :
    OE X cl B W (.Attribute a f pos) (fun env Q Er => fa env (fun eo env1 => peekW env1 eo fun x => ∃ C fs d, x = .obj C fs ∧ G.fld C f = true ∧ fs.lookup f = some d ∧ Q (.d d) env1) Er) := by
  refine PE.imp (pe_fld ha (attr_base hp)) fun σ H Q ⟨F, env, A, ok, h⟩ => ?_
  refine step ma ok h fun ea env1 h1 v1 F1 H1 A1 g1 ok1 r1 => ?_
  obtain ⟨x, px, C, fs, d, e, hf, hl, q⟩ := peekW_iff h1
  subst e
  rcases peek_ok ok1 r1 px with r | ⟨_, _, _, _, e, _⟩
  · cases r with
    | obj e1 e2 e3 =>
      obtain ⟨c1, c2⟩ := hX.gw.fld _ _ _ e1 hf
      obtain ⟨w, e4, r4⟩ := e3.lookup hl
      exact ⟨_, _, _, _, w, rfl, ok1.sub _ _ e2, c1, c2, e4, give_d g1 ok1 q r4⟩
  · cases e
end
end PF

set_option Elab.async false
set_option linter.all false
set_option maxRecDepth 100000
set_option maxHeartbeats 4000000

namespace PF
open PySem PySem.Spec PyProof.Rows L2
section
variable {X : Cx} {G : Tb} {cl : Str → Option Addr} {B : List Addr} {W : WX} {I : Info} {lv : Nat} {a b c : Expr} {es : List Expr} {pos : Pos} {fa fb fc : SemE} {ta tb : SemT}

/-! ### lists of arguments -/
def notStar : Expr → Bool | .Starred .. => false | _ => true
theorem star_cons {e : Expr} {es : List Expr} {env : Env} (h : notStar e = true) : starEach (e :: es) env = (false, eval e env) :: starEach es env := by
  cases e <;> first | rfl | cases h
theorem star_all : ∀ {es : List Expr} {env : Env}, (es.all notStar) = true → (backTo pos (starEach es env)).any (·.1) = false
  | [], _, _ => rfl
  | e :: es, env, h => by
    simp only [List.all_cons, Bool.and_eq_true] at h
    rw [star_cons h.1]
    show (false || (backTo pos (starEach es env)).any (·.1)) = false
    rw [star_all h.2]; rfl
theorem adr_keep {K : PySem.W.Frag} {Hb F H : Hp} {σ : L2.St} {env : En} {A : List (List Addr)} {v : V} {e : Ev} (r : RepE K cl Hb F H σ env A v e) : ∀ x ∈ adr v e, Hb x = none ∧ H x ≠ none := by
  intro x m
  cases v <;> cases e <;> simp only [adr, List.mem_nil_iff, List.mem_singleton] at m <;> try (exact m.elim)
  subst m
  obtain ⟨a, vs, e1, _, e3, _, _, e6⟩ := r
  cases e1
  exact ⟨e6, by rw [e3]; exact fun z => nomatch z⟩
theorem adrs_keep {K : PySem.W.Frag} {Hb F H : Hp} {σ : L2.St} {env : En} {A : List (List Addr)} {vs : List V} {es : List Ev} (r : RepEs K cl Hb F H σ env A vs es) : ∀ x ∈ (vs.zip es).flatMap (fun p => adr p.1 p.2), Hb x = none ∧ H x ≠ none := by
  induction r with
  | nil => intro x m; cases m
  | cons a b c ih =>
    intro x m
    simp only [List.zip_cons_cons, List.flatMap_cons, List.mem_append] at m
    rcases m with m | m
    · exact adr_keep a x m
    · exact ih x m
theorem RepEs.base {K : PySem.W.Frag} {Hb Hc F H : Hp} {σ : L2.St} {env : En} {A : List (List Addr)} {vs : List V} {es : List Ev} (h : ∀ a, Hb a ≠ none → Hc a ≠ none) (r : RepEs K cl Hc F H σ env A vs es) : RepEs K cl Hb F H σ env A vs es := by
  induction r with
  | nil => exact .nil
  | cons a b c ih => exact .cons (a.base h) ih c
theorem s_lnil : OL X cl B W [] (fun env Q _ => Q [] env) := PA.imp pa_nil fun σ H Q ⟨F, env, A, ok, h⟩ => h [] F H A (.refl ..) ok .nil
theorem s_lcons {fl : SemL} (hn : notStar a = true) (ha : OE X cl B W a fa) (hl : OL X cl B W es fl) (ma : MonoE fa) (ml : MonoL fl) :
    OL X cl B W (a :: es) (fun env Q Er => fa env (fun x env1 => fl env1 (fun xs env2 => Q (x :: xs) env2) Er) Er) := by
  refine PA.imp (pa_cons ha hl (star_cons hn)) fun σ H Q ⟨F, env, A, ok, h⟩ => ?_
  refine step ma ok h fun ea env1 h1 v1 F1 H1 A1 g1 ok1 r1 => ?_
  refine ⟨F1, env1, A1, ok1, ml.ap h1 (fun es env2 q vs F2 H2 A2 g2 ok2 r2 => ?_) fun _ _ z => z.sh g1⟩
  refine q _ _ _ _ (g1.trans g2) ok2 (.cons (r1.keep g2) (r2.base g1.stay) fun x m y m2 e => ?_)
  subst e
  exact (adr_keep r1 x m).2 (adrs_keep r2 x m2).1
theorem s_mnil : OM X cl B W [] (fun env Q _ => Q [] env) := PA.imp pa_nil fun σ H Q ⟨F, env, A, ok, h⟩ => h [] F H A (.refl ..) ok .nil
theorem s_mcons {fl : En → (List D → En → Prop) → KE0 → Prop} (hn : notStar a = true) (ha : OE X cl B W a fa) (hl : OM X cl B W es fl) (ma : MonoE fa) (ml : MonoM fl) :
    OM X cl B W (a :: es) (fun env Q Er => fa env (fun x env1 => settle env1 x fun d env2 => fl env2 (fun ds env3 => Q (d :: ds) env3) Er) Er) := by
  refine PA.imp (pa_cons ha hl (star_cons hn)) fun σ H Q ⟨F, env, A, ok, h⟩ => ?_
  refine step ma ok h fun ea env1 h1 v1 F1 H1 A1 g1 ok1 r1 => ?_
  obtain ⟨d, env2, F2, A2, h2, ok2, r2, g2⟩ := settle_ok ok1 r1 g1 h1
  refine ⟨F2, env2, A2, ok2, ml.ap h2 (fun ds env3 q vs F3 H3 A3 g3 ok3 r3 => ?_) fun _ _ z => z.sh g2⟩
  exact q _ _ _ _ (g2.trans g3) ok3 (.cons (r2.mono g3.fr) r3)
theorem s_anil : OA X cl B W [] (fun env Q _ => ([] : List Bool) = [] ∧ Q [] env) := PA.imp pa_nil fun σ H Q ⟨F, env, A, ok, h⟩ => h.2 [] F H A (.refl ..) ok .nil
theorem s_acons {fl : En → (List (D ⊕ Nat) → En → Prop) → KE0 → Prop} (hn : notStar a = true) (ha : OE X cl B W a fa) (hl : OA X cl B W es fl) (ma : MonoE fa) (ml : ∀ env Q Q' Er Er', fl env Q Er → (∀ e env', Q e env' → Q' e env') → (∀ c env', Er c env' → Er' c env') → fl env Q' Er') :
    OA X cl B W (a :: es) (fun env Q Er => fa env (fun x env1 => settle env1 x fun d env2 => fl env2 (fun ds env3 => Q (.inl d :: ds) env3) Er) Er) := by
  refine PA.imp (pa_cons ha hl (star_cons hn)) fun σ H Q ⟨F, env, A, ok, h⟩ => ?_
  refine step ma ok h fun ea env1 h1 v1 F1 H1 A1 g1 ok1 r1 => ?_
  obtain ⟨d, env2, F2, A2, h2, ok2, r2, g2⟩ := settle_ok ok1 r1 g1 h1
  refine ⟨F2, env2, A2, ok2, ml _ _ _ _ _ h2 (fun ds env3 q vs F3 H3 A3 g3 ok3 r3 => ?_) fun _ _ z => z.sh g2⟩
  exact q _ _ _ _ (g2.trans g3) ok3 (.inl (r2.mono g3.fr) r3)
theorem s_aref {fl : En → (List (D ⊕ Nat) → En → Prop) → KE0 → Prop} (hn : notStar a = true) (ha : OE X cl B W a fa) (hl : OA X cl B W es fl) (ma : MonoE fa) (ml : ∀ env Q Q' Er Er', fl env Q Er → (∀ e env', Q e env' → Q' e env') → (∀ c env', Er c env' → Er' c env') → fl env Q' Er') :
    OA X cl B W (a :: es) (fun env Q Er => fa env (fun x env1 => ∃ i, x = .vw i ∧ fl env1 (fun ds env3 => Q (.inr i :: ds) env3) Er) Er) := by
  refine PA.imp (pa_cons ha hl (star_cons hn)) fun σ H Q ⟨F, env, A, ok, h⟩ => ?_
  refine step ma ok h fun ea env1 h1 v1 F1 H1 A1 g1 ok1 r1 => ?_
  obtain ⟨i, e, h2⟩ := h1
  subst e
  refine ⟨F1, env1, A1, ok1, ml _ _ _ _ _ h2 (fun ds env3 q vs F3 H3 A3 g3 ok3 r3 => ?_) fun _ _ z => z.sh g1⟩
  exact q _ _ _ _ (g1.trans g3) ok3 (.inr r1 r3)

/-! ### displays -/
theorem s_tup {k : Nat} {fm : En → (List D → En → Prop) → KE0 → Prop} (hl : OM X cl B W es fm) (mm : MonoM fm) :
    OE X cl B W (.Tuple es k pos) (fun env Q Er => fm env (fun ds env2 => ds.length ≤ sizeLine ∧ Q (.d (.tup ds)) env2) Er) := by
  refine PE.imp (pe_tup hl) fun σ H Q ⟨F, env, A, ok, h⟩ => ?_
  refine ⟨F, env, A, ok, mm.ap h (fun ds env1 q vs F1 H1 A1 g1 ok1 r1 => ?_) fun _ _ z => z⟩
  exact ⟨by rw [r1.length]; exact q.1, give_tup g1 ok1 q.2 r1⟩
theorem s_lst {fm : En → (List D → En → Prop) → KE0 → Prop} (hl : OM X cl B W es fm) (mm : MonoM fm) :
    OE X cl B W (.List es pos) (fun env Q Er => fm env (fun ds env2 => ds.length ≤ sizeLine ∧ Q (.nw ds) env2) Er) := by
  refine PE.imp (pe_lst hl) fun σ H Q ⟨F, env, A, ok, h⟩ => ?_
  refine ⟨F, env, A, ok, mm.ap h (fun ds env1 q vs F1 H1 A1 g1 ok1 r1 => ?_) fun _ _ z => z⟩
  exact ⟨by rw [r1.length]; exact q.1, give_nw g1 ok1 q.2 r1⟩
theorem nws_rep {K : PySem.W.Frag} {Hb F H : Hp} {σ : L2.St} {env : En} {A : List (List Addr)} {vs : List V} {es : List Ev} (r : RepEs K cl Hb F H σ env A vs es) : ∀ dss, nws es = some dss →
    ∃ bs, vs = bs.map V.ref ∧ Rows2 K cl F H bs dss ∧ bs.Nodup ∧ (∀ b ∈ bs, b ∉ A.flatten ∧ Hb b = none) ∧ (vs.zip es).flatMap (fun p => adr p.1 p.2) = bs := by
  induction r with
  | nil => intro dss h; cases h; exact ⟨[], rfl, .nil, .nil, (fun _ m => nomatch m), rfl⟩
  | @cons v vs e es r t d ih =>
    intro dss h
    cases e with
    | nw ds =>
      simp only [nws, Option.map_eq_some_iff] at h
      obtain ⟨dss', h1, h2⟩ := h
      subst h2
      obtain ⟨bs, e1, e2, e3, e4, e5⟩ := ih dss' h1
      obtain ⟨a, ws, q1, q2, q3, q4, q5, q6⟩ := r
      subst q1 e1
      refine ⟨a :: bs, rfl, .cons q2 q3 q4 e2, List.nodup_cons.mpr ⟨fun m => ?_, e3⟩, fun b m => ?_, ?_⟩
      · exact d a (by simp [adr]) a (by rw [e5]; exact m) rfl
      · rcases List.mem_cons.mp m with m | m
        · subst m; exact ⟨q5, q6⟩
        · exact e4 b m
      · simp only [List.zip_cons_cons, List.flatMap_cons, e5]; rfl
    | _ => simp [nws] at h
theorem s_lst2 {fl : SemL} (hl : OL X cl B W es fl) (ml : MonoL fl) :
    OE X cl B W (.List es pos) (fun env Q Er => fl env (fun es env1 => es.length ≤ sizeLine ∧ ∃ dss, nws es = some dss ∧ Q (.nw2 dss) env1) Er) := by
  refine PE.imp (pe_lst hl) fun σ H Q ⟨F, env, A, ok, h⟩ => ?_
  refine ⟨F, env, A, ok, ml.ap h (fun es env1 q vs F1 H1 A1 g1 ok1 r1 => ?_) fun _ _ z => z⟩
  obtain ⟨z, dss, h1, q⟩ := q
  obtain ⟨bs, e1, e2, e3, e4, e5⟩ := nws_rep r1 dss h1
  have le : vs.length = es.length := by
    clear e1 e2 e3 e4 e5 q h1 z h
    induction r1 with
    | nil => rfl
    | cons _ _ _ ih => simp [ih]
  refine ⟨by rw [le]; exact z, fun p hp => ?_⟩
  have fp : F1 p = none := by
    cases z : F1 p with
    | none => rfl
    | some u => rw [ok1.sub _ _ z] at hp; cases hp
  have np : ∀ b ∈ bs, b ≠ p := fun b m e => by subst e; exact (e2.there b m).2 hp
  refine q _ _ _ _ (g1.trans (Gr.lay hp)) (ok1.lay hp) ⟨p, bs, rfl, fp, by rw [upd_same, e1], fun m => ok1.tr p m hp, ?_, fun b m => (e4 b m).1, e2.mono (fun _ _ h => h) (fun _ _ h => h) fun b m o h => by rw [upd_ne (np b m)]; exact h, fun b m => ?_⟩
  · exact List.nodup_cons.mpr ⟨fun m => np p m rfl, e3⟩
  · rcases List.mem_cons.mp m with m | m
    · subst m; exact g1.none hp
    · exact (e4 b m).2

/-! ### built-in functions -/
def Bi.nm : Bi → Str
  | .len => "len" | .tuple => "tuple" | .list => "list" | .abs => "abs" | .int => "int" | .sum => "sum" | .all => "all" | .any => "any" | .max => "max" | .min => "min" | .gcd => "gcd" | .isqrt => "isqrt" | .sorted => "sorted" | .str => "str"
def rIsq : List V → Hp → VK → Prop := fun vs H Q => ∃ a : Int, vs = [.int a] ∧ 0 ≤ a ∧ a.toNat.log2 < 9000 ∧ Q (.int ((Float64.isqrt a.toNat : Nat) : Int)) H
theorem cr_isq {X : Cx} : CallR X (.builtin "math.isqrt") rIsq := by
  intro pins s σ H vs us Q I r h
  obtain ⟨a, rfl, h0, hl, q⟩ := h
  obtain ⟨u, eu, rx⟩ := vals1 r
  subst eu
  obtain ⟨t, rfl⟩ := rx
  exact call_function_meets PySem.W.MGF.kind_isqrt PySem.W.MGF.plain_isqrt PySem.W.MGF.entry_isqrt (PySem.W.MGF.args_isqrt _) (PySem.W.mg_run_isqrt a t (by omega) (by omega) (by omega)).meets ⟨.int _, H, I.tok _, ⟨_, rfl⟩, q⟩
def rBi (K : PySem.W.Frag) (f : Bi) (xs : List V) (H : Hp) (Q : VK) : Prop := match f with
  | .len => ∃ p ys, xs = [.ref p] ∧ (SqL K H p ys ∨ SqT K H p ys) ∧ Q (.int ys.length) H
  | .tuple => ∃ p ys, xs = [.ref p] ∧ ((SqL K H p ys ∧ ∀ l, H l = none → Q (.ref l) (upd H l (.tup ys))) ∨ (SqT K H p ys ∧ Q (.ref p) H))
  | .list => ∃ p ys, xs = [.ref p] ∧ (SqL K H p ys ∨ SqT K H p ys) ∧ ∀ l, H l = none → Q (.ref l) (upd H l (.lst ys))
  | .abs => ∃ i, xs = [.int i] ∧ Q (.int (if i < 0 then -i else i)) H
  | .int => (∃ i, xs = [.int i] ∧ Q (.int i) H) ∨ ∃ k, xs = [.bl k] ∧ Q (.int (if k then 1 else 0)) H
  | .sum => rSum K xs H Q
  | .all => rAll K xs H Q
  | .any => rAny K xs H Q
  | .max => (∃ i j, xs = [.int i, .int j] ∧ Q (.int (if j > i then j else i)) H) ∨ (rMax K xs H Q ∨ rNuC3 nuMax3 xs H Q)
  | .min => (∃ i j, xs = [.int i, .int j] ∧ Q (.int (if j < i then j else i)) H) ∨ rMin K xs H Q
  | .gcd => rGcd xs H Q
  | .isqrt => rIsq xs H Q
  | .str => ∃ i, xs = [.int i] ∧ i.natAbs.log2 < 1920 ∧ Q (.str (toString i)) H
  | .sorted => rSortedT K xs H Q
theorem pe_bi {f : Bi} {t : TA} {p : Pos} {e : Expr} (hX : XOk X G cl I lv) (hg : glb I f.nm = true) (hgc : f = .gcd → G.gcd = true) (hf : f = .isqrt → G.isq = true) (ha : PA X (e :: es) t) (he : starEach (e :: es) X.env = (false, eval e X.env) :: starEach es X.env) (hpl : (backTo pos (starEach es X.env)).any (·.1) = false) :
    PE X (.Call (.Name f.nm p) (e :: es) [] pos) (tCB (rBi X.K f) t) := by
  obtain ⟨g1, g2⟩ := hX.gl hg
  cases f with
  | len => exact pe_callB call_len_seq g1 (hX.gw.bi _ (by decide)) (by decide +kernel) ha (by decide) g2 he hpl
  | tuple => exact pe_callTy call_tuple_of g1 (hX.gw.bi _ (by decide)) (by decide +kernel) ha (by decide) g2 he hpl
  | list => exact pe_callTy call_list_of g1 (hX.gw.bi _ (by decide)) (by decide +kernel) ha (by decide) g2 he hpl
  | abs => exact pe_callB call_abs g1 (hX.gw.bi _ (by decide)) (by decide +kernel) ha (by decide) g2 he hpl
  | int => exact pe_callTy call_int1 g1 (hX.gw.bi _ (by decide)) (by decide +kernel) ha (by decide) g2 he hpl
  | sum => exact pe_callB (cr_sum hX.calm) g1 (hX.gw.bi _ (by decide)) (by decide +kernel) ha (by decide) g2 he hpl
  | all => exact pe_callB (cr_all hX.calm) g1 (hX.gw.bi _ (by decide)) (by decide +kernel) ha (by decide) g2 he hpl
  | any => exact pe_callB (cr_any hX.calm) g1 (hX.gw.bi _ (by decide)) (by decide +kernel) ha (by decide) g2 he hpl
  | max => exact pe_callB ((call_max2 hX.calm).or ((cr_max hX.calm).or (call_max3Nu hX.calm))) g1 (hX.gw.bi _ (by decide)) (by decide +kernel) ha (by decide) g2 he hpl
  | min => exact pe_callB ((call_min2 hX.calm).or (cr_min hX.calm)) g1 (hX.gw.bi _ (by decide)) (by decide +kernel) ha (by decide) g2 he hpl
  | gcd => exact pe_callBfun cr_gcd g1 (hX.gw.gcd (hgc rfl)) ha g2 he hpl
  | str => exact pe_callTy call_str_int g1 (hX.gw.bi _ (by decide)) (by decide +kernel) ha (by decide) g2 he hpl
  | isqrt => exact pe_callBfun cr_isq g1 (hX.gw.isq (hf rfl)) ha g2 he hpl
  | sorted => exact pe_callB cr_sortedT g1 (hX.gw.bi _ (by decide)) (by decide +kernel) ha (by decide) g2 he hpl

theorem maxL_mem : ∀ {ns : List Int}, ns ≠ [] → maxL ns ∈ ns ∧ ∀ y ∈ ns, y ≤ maxL ns
  | [], h => (h rfl).elim
  | [a], _ => ⟨List.mem_cons_self, fun y m => by simp at m; rw [m]; exact Int.le_refl a⟩
  | a :: b :: r, _ => by
    obtain ⟨h1, h2⟩ := maxL_mem (ns := b :: r) (by simp)
    unfold maxL
    refine ⟨?_, fun y m => ?_⟩
    · rcases Int.le_total a (maxL (b :: r)) with z | z
      · rw [Int.max_eq_right z]; exact List.mem_cons_of_mem _ h1
      · rw [Int.max_eq_left z]; exact List.mem_cons_self
    · rcases List.mem_cons.mp m with m | m
      · subst m; exact Int.le_max_left _ _
      · exact Int.le_trans (h2 y m) (Int.le_max_right _ _)
theorem minL_mem : ∀ {ns : List Int}, ns ≠ [] → minL ns ∈ ns ∧ ∀ y ∈ ns, minL ns ≤ y
  | [], h => (h rfl).elim
  | [a], _ => ⟨List.mem_cons_self, fun y m => by simp at m; rw [m]; exact Int.le_refl a⟩
  | a :: b :: r, _ => by
    obtain ⟨h1, h2⟩ := minL_mem (ns := b :: r) (by simp)
    unfold minL
    refine ⟨?_, fun y m => ?_⟩
    · rcases Int.le_total a (minL (b :: r)) with z | z
      · rw [Int.min_eq_left z]; exact List.mem_cons_self
      · rw [Int.min_eq_right z]; exact List.mem_cons_of_mem _ h1
    · rcases List.mem_cons.mp m with m | m
      · subst m; exact Int.min_le_left _ _
      · exact Int.le_trans (Int.min_le_right _ _) (h2 y m)
theorem maxL_eq {ns : List Int} {m : Int} (h1 : m ∈ ns) (h2 : ∀ y, y ∈ ns → y ≤ m) : maxL ns = m := by
  obtain ⟨a, b⟩ := maxL_mem (ns := ns) fun e => by rw [e] at h1; cases h1
  exact Int.le_antisymm (h2 _ a) (b _ h1)
theorem minL_eq {ns : List Int} {m : Int} (h1 : m ∈ ns) (h2 : ∀ y, y ∈ ns → m ≤ y) : minL ns = m := by
  obtain ⟨a, b⟩ := minL_mem (ns := ns) fun e => by rw [e] at h1; cases h1
  exact Int.le_antisymm (b _ h1) (h2 _ a)
theorem max3_int (i j k : Int) : nuMax3 (.int i) (.int j) (.int k) = some (.int (mx2 (mx2 i j) k)) := by
  have e : ∀ a b : Int, nuMax2 (.int a) (.int b) = some (.int (mx2 a b)) := fun a b => by
    show some (if decide (a < b) = true then V.int b else V.int a) = _
    unfold mx2
    by_cases h : a < b
    · simp [h]
    · simp [h]
  unfold nuMax3
  rw [e, Option.bind_some, e]
inductive RepPs (K : PySem.W.Frag) (cl : Str → Option Addr) (F H : Hp) : List V → List D → Prop
  | nil : RepPs K cl F H [] []
  | cons {v d vs ds} : RepP K cl F H v d → RepPs K cl F H vs ds → RepPs K cl F H (v :: vs) (d :: ds)
theorem peeks_ok {K : PySem.W.Frag} {Hb F H : Hp} {σ : L2.St} {env : En} {A : List (List Addr)} (ok : SOk K cl B F H σ env A) : ∀ {vs : List V} {es : List Ev} {Q : List D → Prop}, RepEs K cl Hb F H σ env A vs es → peeks env es Q → ∃ ds, RepPs K cl F H vs ds ∧ Q ds
  | _, _, Q, .nil, h => ⟨[], .nil, h⟩
  | _, _, Q, .cons a b c, h => by
    obtain ⟨d, p, h⟩ := peekW_iff h
    obtain ⟨ds, r, q⟩ := peeks_ok ok b h
    exact ⟨d :: ds, .cons (peek_ok ok a p) r, q⟩
theorem row3_of {K : PySem.W.Frag} {cl : Str → Option Addr} {F : Hp} {v : V} {t : SrtT.I3} (r : Rep K cl F v (row3 t)) : IsRow3 K F v t := by
  cases r with
  | tup q l =>
    have e := RepL.map_int (ns := [t.1, t.2.1, t.2.2]) l
    rw [e] at q
    exact ⟨_, rfl, q⟩
theorem rows3_of {K : PySem.W.Frag} {cl : Str → Option Addr} {F : Hp} : ∀ {ts : List SrtT.I3} {vs : List V}, RepL K cl F vs (ts.map row3) → Rows3 K F vs ts
  | [], _, h => by cases h; exact .nil
  | t :: ts, _, h => by
    rw [List.map_cons] at h
    cases h with
    | cons r l => exact .cons (row3_of r) (rows3_of l)
theorem rows3_rep {K : PySem.W.Frag} {cl : Str → Option Addr} {F : Hp} {vs : List V} {ts : List SrtT.I3} (r : Rows3 K F vs ts) : RepL K cl F vs (ts.map row3) := by
  induction r with
  | nil => exact .nil
  | cons a b ih =>
    obtain ⟨p, e, q⟩ := a
    subst e
    exact .cons (.tup q (.cons (.int _) (.cons (.int _) (.cons (.int _) .nil)))) ih
theorem _root_.L2.Rows3.mono {K : PySem.W.Frag} {F H : Hp} {vs : List V} {ts : List SrtT.I3} (r : Rows3 K F vs ts) (h : ∀ a o, F a = some o → H a = some o) : Rows3 K H vs ts := by
  induction r with
  | nil => exact .nil
  | cons a b ih =>
    obtain ⟨p, e, q⟩ := a
    exact .cons ⟨p, e, sqT_mono h q⟩ ih
theorem bi_ok {f : Bi} {F H F2 H2 : Hp} {σ : L2.St} {env2 : En} {A A2 : List (List Addr)} {Q : VK} {vs : List V} {ds : List D} (g : Gr F H A F2 H2 A2) (ok : SOk X.K cl B F2 H2 σ env2 A2) (r : RepPs X.K cl F2 H2 vs ds)
    (h : opBi f ds fun e => KQ X.K cl B F H A σ Q e env2) : rBi X.K f vs H2 Q := by
  unfold opBi at h
  split at h
  · cases r with | cons r1 t => cases t; obtain ⟨p, ws, e, q, l⟩ := r1.lst ok.sub; subst e; exact ⟨p, ws, rfl, .inl q, by rw [l.length]; exact give_d g ok h (.int _)⟩
  · cases r with | cons r1 t => cases t; obtain ⟨_, p, ws, e, q, _, l⟩ := r1.tup ok.sub; subst e; exact ⟨p, ws, rfl, .inr q, by rw [l.length]; exact give_d g ok h (.int _)⟩
  · cases r with | cons r1 t => cases t; obtain ⟨p, ws, e, q, l⟩ := r1.klst ok.sub; subst e; exact ⟨p, ws, rfl, .inl q, by rw [l.length]; exact give_d g ok h (.int _)⟩
  · cases r with | cons r1 t => cases t; obtain ⟨p, ws, e, q, l⟩ := r1.lst ok.sub; subst e; exact ⟨p, ws, rfl, .inl ⟨q, give_tup g ok h l⟩⟩
  · cases r with | cons r1 t => cases t; obtain ⟨r0, p, ws, e, q, _, l⟩ := r1.tup ok.sub; subst e; exact ⟨p, ws, rfl, .inr ⟨q, give_d g ok h r0⟩⟩
  · cases r with | cons r1 t => cases t; obtain ⟨p, ws, e, q, l⟩ := r1.lst ok.sub; subst e; exact ⟨p, ws, rfl, .inl q, give_nw g ok h l⟩
  · cases r with | cons r1 t => cases t; obtain ⟨_, p, ws, e, q, _, l⟩ := r1.tup ok.sub; subst e; exact ⟨p, ws, rfl, .inr q, give_nw g ok h l⟩
  · cases r with | cons r1 t => cases t; cases r1.int; exact ⟨_, rfl, give_d g ok h (.int _)⟩
  · cases r with | cons r1 t => cases t; cases r1.int; exact .inl ⟨_, rfl, give_d g ok h (.int _)⟩
  · cases r with | cons r1 t => cases t; cases r1.bl; exact .inr ⟨_, rfl, give_d g ok h (.int _)⟩
  · obtain ⟨ns, e, q⟩ := h; subst e
    cases r with | cons r1 t => cases t; obtain ⟨p, ws, e, sq, l⟩ := r1.lst ok.sub; subst e; rw [l.map_int] at sq; exact ⟨p, ns, rfl, sq, give_d g ok q (.int _)⟩
  · obtain ⟨ns, e, q⟩ := h; subst e
    cases r with | cons r1 t => cases t; obtain ⟨p, ws, e, sq, l⟩ := r1.lst ok.sub; subst e; rw [l.map_bl] at sq; exact ⟨p, ns, rfl, sq, give_d g ok q (.bl _)⟩
  · obtain ⟨ns, e, q⟩ := h; subst e
    cases r with | cons r1 t => cases t; obtain ⟨p, ws, e, sq, l⟩ := r1.lst ok.sub; subst e; rw [l.map_bl] at sq; exact ⟨p, ns, rfl, sq, give_d g ok q (.bl _)⟩
  · cases r with | cons r1 t => cases t with | cons r2 t => cases t; cases r1.int; cases r2.int; exact .inl ⟨_, _, rfl, give_d g ok h (.int _)⟩
  · cases r with | cons r1 t => cases t with | cons r2 t => cases t; cases r1.int; cases r2.int; exact .inl ⟨_, _, rfl, give_d g ok h (.int _)⟩
  · cases r with | cons r1 t => cases t with | cons r2 t => cases t with | cons r3 t => cases t; cases r1.int; cases r2.int; cases r3.int; exact .inr (.inr ⟨_, _, _, _, rfl, max3_int _ _ _, give_d g ok h (.int _)⟩)
  · obtain ⟨ns, ⟨e, hne⟩, q⟩ := h; subst e
    cases r with | cons r1 t => cases t; obtain ⟨p, ws, e, sq, l⟩ := r1.lst ok.sub; subst e; rw [l.map_int] at sq; exact .inr (.inl ⟨p, ns, rfl, sq, List.length_pos_iff.mpr hne, fun m h1 h2 => by rw [← maxL_eq h1 h2]; exact give_d g ok q (.int _)⟩)
  · obtain ⟨ns, ⟨e, hne⟩, q⟩ := h; subst e
    cases r with | cons r1 t => cases t; obtain ⟨p, ws, e, sq, l⟩ := r1.lst ok.sub; subst e; rw [l.map_int] at sq; exact .inr ⟨p, ns, rfl, sq, List.length_pos_iff.mpr hne, fun m h1 h2 => by rw [← minL_eq h1 h2]; exact give_d g ok q (.int _)⟩
  · cases r with | cons r1 t => cases t with | cons r2 t => cases t; cases r1.int; cases r2.int; exact ⟨_, _, rfl, give_d g ok h (.int _)⟩
  · cases r with | cons r1 t => cases t; cases r1.int; exact ⟨_, rfl, h.1, h.2.1, give_d g ok h.2.2 (.int _)⟩
  · cases r with | cons r1 t => cases t; cases r1.int; exact ⟨_, rfl, h.1, give_d g ok h.2 (.str _)⟩
  · obtain ⟨ts, e, q⟩ := h; subst e
    cases r with | cons r1 t =>
      cases t
      obtain ⟨p, ws, e, sq, l⟩ := r1.lst ok.sub
      subst e
      exact ⟨p, ws, ts, rfl, sq, (rows3_of l).mono ok.sub, fun zs p' hz hp => give_nw g ok q (rows3_rep (hz _ (rows3_of l))) p' hp⟩
  · exact h.elim
theorem s_bi {f : Bi} {p : Pos} {e : Expr} {fl : SemL} (hX : XOk X G cl I lv) (hg : glb I f.nm = true) (hgc : f = .gcd → G.gcd = true) (hn : ((e :: es).all notStar) = true) (hl : OL X cl B W (e :: es) fl) (ml : MonoL fl) :
    OE X cl B W (.Call (.Name f.nm p) (e :: es) [] pos) (fun env Q Er => (f = .isqrt → G.isq = true) ∧ fl env (fun es env1 => peeks env1 es fun ds => opBi f ds fun e => Q e env1) Er) := by
  by_cases hf : f = .isqrt → G.isq = true
  rotate_left
  · exact ⟨fun pins s σ H Q I ⟨_, _, _, _, h, _⟩ => (hf h).elim⟩
  have hn' := hn
  simp only [List.all_cons, Bool.and_eq_true] at hn'
  refine PE.imp (pe_bi hX hg hgc hf hl (star_cons hn'.1) (star_all (by simpa using hn'.2))) fun σ H Q ⟨F, env, A, ok, _, h⟩ => ?_
  refine ⟨F, env, A, ok, ml.ap h (fun es env1 q vs F1 H1 A1 g1 ok1 r1 => ?_) fun _ _ z => z⟩
  obtain ⟨ds, r, q⟩ := peeks_ok ok1 r1 q
  exact bi_ok g1 ok1 r q
end
end PF

set_option Elab.async false
set_option linter.all false
set_option maxRecDepth 100000
set_option maxHeartbeats 4000000

namespace PF
open PySem PySem.Spec PyProof.Rows L2
section
variable {X : Cx} {G : Tb} {cl : Str → Option Addr} {B : List Addr} {W : WX} {I : Info} {lv : Nat} {a b c : Expr} {es : List Expr} {pos : Pos} {fa fb fc : SemE} {ta tb : SemT}

/-! ### isinstance -/
theorem tyX {K : PySem.W.Frag} {F H : Hp} {v : V} {d : D} {T : String} (sub : ∀ a o, F a = some o → H a = some o) (r : RepP K cl F H v d) (h : kindD d = some T) : TyX K H v (.type T) := by
  cases d with
  | non => cases r.non; cases h; exact .base .non
  | bl b => cases r.bl; cases h; exact .base (.bl _)
  | int b => cases r.int; cases h; exact .base (.int _)
  | str b => cases r.str; cases h; exact .base (.str _)
  | tup ds =>
    cases h
    obtain ⟨_, a, vs, e, q, _, _⟩ := r.tup sub
    subst e
    rcases q with (q | ⟨o, q⟩) | ⟨o, its, n, h1, h2, _⟩
    · exact .base (.tup q)
    · exact .fTuple q
    · exact .kTuple h1 h2
  | lst ds =>
    cases h
    obtain ⟨a, vs, e, q, _⟩ := r.lst sub
    subst e
    rcases q with (q | ⟨o, q⟩) | ⟨o, its, n, h1, h2, _⟩
    · exact .base (.lst q)
    · exact .base (.frz q)
    · exact .kList h1 h2
  | klst _ => cases h
  | obj _ _ => cases h
theorem isi_kit {K : PySem.W.Frag} {d : D} {ty : Str} {T : String} {b : Bool} (h : isiB d ty = some b) (hk : clsV ty = some T) : ∃ T', kindD d = some T' ∧ PySem.W.kitOne K (.type T') (.type T) = some b := by
  unfold isiB at h
  rw [hk] at h
  cases e : kindD d with
  | none => rw [e] at h; cases h
  | some T' => rw [e] at h; exact ⟨T', rfl, kit_ty h⟩
theorem boot_cls {ty : Str} {T : String} (hk : clsV ty = some T) : bootBuiltins ty = some (.type T) ∧ ty ∈ biNames ∧ ty ≠ "__name__" := by
  unfold clsV at hk
  repeat' split at hk
  all_goals (first | (cases hk; done) | skip)
  all_goals (rename_i e; subst e; cases hk; refine ⟨by decide +kernel, by decide, by decide⟩)
theorem s_isi {p p2 : Pos} {ty : Str} (hX : XOk X G cl I lv) (hg : glb I "isinstance" = true) (hn : notStar a = true) (ht : (clsV ty).isSome = true) (hgt : glb I ty = true) (ha : OE X cl B W a fa) (ma : MonoE fa) :
    OE X cl B W (.Call (.Name "isinstance" p) [a, .Name ty p2] [] pos) (fun env Q Er => fa env (fun ea env1 => peekW env1 ea fun x => (opIsi x ty fun b => Q (.d (.bl b)) env1) ∨ (∃ C fs, x = .obj C fs ∧ G.own C = true ∧ Q (.d (.bl false)) env1)) Er) := by
  obtain ⟨T, hT⟩ := Option.isSome_iff_exists.mp ht
  obtain ⟨b1, b2, b3⟩ := boot_cls hT
  obtain ⟨g1, g2⟩ := hX.gl hg
  obtain ⟨g3, g4⟩ := hX.gl hgt
  have pt : PE X (.Name ty p2) (tC (.ty T)) := pe_bltn g3 (hX.gw.bi _ b2) b1 (show Value.type T = Value.type T from rfl) b3 g4
  refine PE.imp (pe_callB call_isi g1 (hX.gw.bi _ (by decide)) (by decide +kernel) (pa_cons ha (pa_cons pt pa_nil) (star_cons hn)) (by decide) g2 (star_cons hn) rfl) fun σ H Q ⟨F, env, A, ok, h⟩ => ?_
  refine step ma ok h fun ea env1 h1 v1 F1 H1 A1 g1 ok1 r1 => ?_
  obtain ⟨x, px, h1⟩ := peekW_iff h1
  rcases h1 with h1 | ⟨C, fs, ex, ho, q⟩
  rotate_left
  · subst ex
    obtain ⟨a, Ca, dx, vs, e1, e2, e3, _⟩ := (peek_ok ok1 r1 px).obj ok1.sub
    subst e1
    have O := hX.gw.own C Ca ho e2
    refine ⟨_, _, _, _, false, rfl, .ty _, .base (.ins e3 O.c O.ha O.hn O.ht O.hm), O.no T ?_, give_d g1 ok1 q (.bl _)⟩
    unfold clsV at hT
    repeat' split at hT
    all_goals first | (cases hT; done) | (cases hT; decide)
  obtain ⟨b, hb, q⟩ := h1
  obtain ⟨T', k1, k2⟩ := isi_kit (K := X.K) hb hT
  exact ⟨_, _, _, _, b, rfl, .ty _, tyX ok1.sub (peek_ok ok1 r1 px) k1, k2, give_d g1 ok1 q (.bl _)⟩

/-! ### calls of the text's own -/
theorem args_ok {K : PySem.W.Frag} {Bp : List Addr} {F H : Hp} {σ : L2.St} {env : En} {A : List (List Addr)} (ok : SOk K cl Bp F H σ env A) : ∀ {ds : List (D ⊕ Nat)} {vs : List V} {n : Nat} {sls : List Sl}, RepA K cl F σ vs ds → slsOf env n ds = some sls →
    ∃ Bs, ArgsOk K cl F H n vs sls Bs ∧ (refs ds).length = Bs.length ∧ ∀ (j i : Nat), (refs ds)[j]? = some i → ∃ b, Bs[j]? = some b ∧ σ[i]? = some (some (.ref b)) ∧ A[i]? = some [b] ∧ ∃ k ds0, env[i]? = some (.own k ds0) ∧ (∀ m, k = m + 1 → Bp[m]? = some b)
  | _, _, n, sls, .nil, h => by cases h; exact ⟨[], .nil, rfl, fun j i h => by simp [refs] at h⟩
  | .inl d :: ds, _, n, sls, .inl r t, h => by
    simp only [slsOf, Option.map_eq_some_iff] at h
    obtain ⟨s', h1, h2⟩ := h
    subst h2
    obtain ⟨Bs, a1, a2, a3⟩ := args_ok ok t h1
    exact ⟨Bs, .fz r a1, a2, a3⟩
  | .inr i :: ds, _, n, sls, .inr r t, h => by
    simp only [slsOf] at h
    split at h
    · rename_i k ds0 he
      simp only [Option.map_eq_some_iff] at h
      obtain ⟨s', h1, h2⟩ := h
      subst h2
      obtain ⟨Bs, a1, a2, a3⟩ := args_ok ok t h1
      obtain ⟨w, as, e1, e2, a, vs, e3, e4, e5, e6, e7, e8⟩ := ok.at he
      rw [r] at e1
      cases e1; cases e3; subst e4
      refine ⟨a :: Bs, .own e5 e6 e7 a1, by simp [refs, a2], fun j i' hj => ?_⟩
      cases j with
      | zero => simp [refs] at hj; subst hj; exact ⟨a, rfl, r, e2, k, ds0, he, e8⟩
      | succ j => exact a3 j i' (by simpa [refs] using hj)
    · cases h
theorem outs_put {K : PySem.W.Frag} {Bp : List Addr} {F H : Hp} {σ : L2.St} {A : List (List Addr)} : ∀ {is : List Nat} {Bs : List Addr} {outs : List (List D)} {env env2 : En}, OutsOk K cl F H Bs outs → putOuts env is outs = some env2 → is.Nodup → env.length = σ.length →
    is.length = Bs.length → (∀ (j i : Nat), is[j]? = some i → ∃ b, Bs[j]? = some b ∧ σ[i]? = some (some (.ref b)) ∧ A[i]? = some [b] ∧ ∃ k ds0, env[i]? = some (.own k ds0) ∧ (∀ m, k = m + 1 → Bp[m]? = some b)) →
    (∀ (i : Nat) sl w as, i ∉ is → env[i]? = some sl → σ[i]? = some w → A[i]? = some as → RepS K cl Bp F H w as sl) →
    env2.length = σ.length ∧ ∀ (i : Nat) sl w as, env2[i]? = some sl → σ[i]? = some w → A[i]? = some as → RepS K cl Bp F H w as sl
  | [], [], [], env, env2, _, h, _, hl, _, _, ho => by cases h; exact ⟨hl, fun i sl w as => ho i sl w as (by simp)⟩
  | i :: is, b :: Bs, ds :: outs, env, env2, .cons (ws := ws) e1 e2 e3 e4, h, nd, hl, hb, hi, ho => by
    simp only [putOuts] at h
    obtain ⟨b', q1, q2, q3, k, ds0, q4, q5⟩ := hi 0 i rfl
    cases q1
    rw [q4] at h
    have ni := List.nodup_cons.mp nd
    refine outs_put (A := A) e4 h ni.2 (by simpa using hl) (by simpa using hb) (fun j i' hj => ?_) fun i' sl w as hn h1 h2 h3 => ?_
    · obtain ⟨b2, p1, p2, p3, k2, ds2, p4, p5⟩ := hi (j + 1) i' (by simpa using hj)
      have ne : i ≠ i' := fun e => by subst e; exact ni.1 (List.mem_of_getElem? hj)
      exact ⟨b2, by simpa using p1, p2, p3, k2, ds2, by rw [List.getElem?_set_ne ne]; exact p4, p5⟩
    · by_cases e : i = i'
      · subst e
        have hlt : i < env.length := (List.getElem?_eq_some_iff.mp q4).1
        rw [List.getElem?_set_self hlt] at h1
        cases h1
        rw [q2] at h2; cases h2
        rw [q3] at h3; cases h3
        exact ⟨b, ws, rfl, rfl, e1, e2, e3, q5⟩
      · rw [List.getElem?_set_ne e] at h1
        exact ho i' sl w as (by simp [hn, Ne.symm e]) h1 h2 h3
  | [], _ :: _, _, _, _, _, _, _, _, h, _, _ => by cases h
  | _ :: _, [], _, _, _, _, _, _, _, h, _, _ => by cases h
  | [], [], _ :: _, _, _, h, _, _, _, _, _, _ => by cases h
  | _ :: _, _ :: _, [], _, _, h, _, _, _, _, _, _ => by cases h
/-- behind a call -/
theorem called {K : PySem.W.Frag} {Bp : List Addr} {F H F' H' : Hp} {σ : L2.St} {env env2 : En} {A : List (List Addr)} {is : List Nat} {Bs : List Addr} {outs : List (List D)} (ok : SOk K cl Bp F H σ env A)
    (hl : is.length = Bs.length) (hi : ∀ (j i : Nat), is[j]? = some i → ∃ b, Bs[j]? = some b ∧ σ[i]? = some (some (.ref b)) ∧ A[i]? = some [b] ∧ ∃ k ds0, env[i]? = some (.own k ds0) ∧ (∀ m, k = m + 1 → Bp[m]? = some b))
    (nd : is.Nodup) (g : Gr F H [Bs] F' H' [Bs]) (sub : ∀ a o, F' a = some o → H' a = some o) (oo : OutsOk K cl F' H' Bs outs) (hp : putOuts env is outs = some env2) : SOk K cl Bp F' H' σ env2 A ∧ Gr F H A F' H' A := by
  have mb : ∀ b, b ∈ Bs → ∃ j i : Nat, is[j]? = some i ∧ Bs[j]? = some b ∧ A[i]? = some [b] := fun b m => by
    obtain ⟨j, hj⟩ := List.mem_iff_getElem?.mp m
    have h1 : j < is.length := by rw [hl]; exact (List.getElem?_eq_some_iff.mp hj).1
    obtain ⟨b2, p1, p2, p3, _⟩ := hi j _ (List.getElem?_eq_getElem h1)
    rw [hj] at p1; cases p1
    exact ⟨j, _, List.getElem?_eq_getElem h1, hj, p3⟩
  have mA : ∀ b ∈ Bs, b ∈ A.flatten := fun b m => by
    obtain ⟨j, i, h1, h2, h3⟩ := mb b m
    exact mem_fl h3 (by simp)
  have fl1 : ([Bs] : List (List Addr)).flatten = Bs := by simp
  have gA : Gr F H A F' H' A := ⟨g.fr, fun a o h n => g.keep a o h (by rw [fl1]; exact fun m => n (mA a m)), fun a h => by
    rcases g.new a h with q | q | q
    · exact .inl q
    · exact .inr (.inl q)
    · rw [fl1] at q; exact .inr (.inr (mA a q)), fun a m => .inl m, g.stay, g.nf⟩
  have frB : ∀ b ∈ Bs, F' b = none := fun b m => by
    have z : ∀ {Bs outs}, OutsOk K cl F' H' Bs outs → b ∈ Bs → F' b = none := by
      intro Bs outs oo
      induction oo with
      | nil => intro m; cases m
      | cons a _ _ _ ih => intro m; rcases List.mem_cons.mp m with e | m; subst e; exact a; exact ih m
    exact z oo m
  have frA : ∀ a ∈ A.flatten, F' a = none := fun a m => by
    by_cases mb' : a ∈ Bs
    · exact frB a mb'
    · cases z : F' a with
      | none => rfl
      | some o =>
        rcases g.new a (by rw [z]; exact fun z => nomatch z) with q | q | q
        · exact absurd (ok.fr a m) q
        · exact absurd q (ok.tr a m)
        · rw [fl1] at q; exact absurd q mb'
  obtain ⟨l1, l2⟩ := outs_put (A := A) (Bp := Bp) (σ := σ) oo hp nd ok.len hl hi fun i sl w as hn h1 h2 h3 => by
    refine (ok.slot i sl w as h1 h2 h3).grow g.fr (fun a o m h => g.keep a o h ?_) fun a m => frA a (mem_fl h3 m)
    rw [fl1]
    intro mB
    obtain ⟨j, i', q1, q2, q3⟩ := mb a mB
    have ne : i ≠ i' := fun e => by subst e; exact hn (List.mem_of_getElem? q1)
    -- two slots share no list
    have hi1 : i < A.length := (List.getElem?_eq_some_iff.mp h3).1
    have e3 : A[i] = as := (List.getElem?_eq_some_iff.mp h3).2
    have nf := not_fl_set (A := A) (i := i) (as := []) hi1 ok.nd (by rw [e3]; exact m) (by simp)
    refine nf (List.mem_flatten.mpr ⟨[a], ?_, by simp⟩)
    exact List.mem_of_getElem? (by rw [List.getElem?_set_ne ne]; exact q3)
  exact ⟨⟨sub, l1, ok.lenA, l2, ok.nd, frA, fun a m => g.stay a (ok.tr a m)⟩, gA⟩
theorem s_call {x : Str} {p : Pos} {e : Expr} {fl : List Bool → En → (List (D ⊕ Nat) → En → Prop) → KE0 → Prop} (hX : XOk X G cl I lv) (tk : Takes X W) (hg : glb I x = true) (hn : ((e :: es).all notStar) = true)
    (hl : ∀ ms, OA X cl B W (e :: es) (fl ms)) (ml : MonoA fl) :
    OE X cl B W (.Call (.Name x p) (e :: es) [] pos) (fun env Q Er => ∃ ms fn, G.fns x = some (ms, fn) ∧ fl ms env (fun ds env1 => callR ms.length fn ds env1 Q Er) Er) := by
  obtain ⟨g1, g2⟩ := hX.gl hg
  have hn' := hn
  simp only [List.all_cons, Bool.and_eq_true] at hn'
  refine ⟨fun pins s σ H Q J ⟨F, env, A, ok, ms, fn, hf, h⟩ => ?_⟩
  obtain ⟨k, f, fd, ps, hk, FO, hm, hkp, hb, hlen⟩ := hX.gw.fns x ms fn hf
  refine (pe_callS (E := WE W) FO (hX.room.mono hk) g1 hm hkp hb (fun σ => passAt tk σ) (hl ms) g2 (star_cons hn'.1) (star_all (by simpa using hn'.2))).run pins s σ H Q J ?_
  refine ⟨F, env, A, ok, ml.ap h (fun ds env1 q vs F1 H1 A1 g ok1 r1 => ?_) fun _ _ z => z⟩
  obtain ⟨h0, sls, h1, nd, h2⟩ := q
  obtain ⟨Bs, a1, a2, a3⟩ := args_ok ok1 r1 h1
  have ndB : Bs.Nodup := by
    rw [List.nodup_iff_pairwise_ne, List.pairwise_iff_getElem]
    intro i j hi hj hij e
    have l1 : i < (refs ds).length := by rw [a2]; exact hi
    have l2 : j < (refs ds).length := by rw [a2]; exact hj
    obtain ⟨b1, p1, p2, p3, _⟩ := a3 i _ (List.getElem?_eq_getElem l1)
    obtain ⟨b2, q1, q2, q3, _⟩ := a3 j _ (List.getElem?_eq_getElem l2)
    rw [List.getElem?_eq_getElem hi] at p1
    rw [List.getElem?_eq_getElem hj] at q1
    cases p1; cases q1
    have ne : (refs ds)[i] ≠ (refs ds)[j] := fun e => by
      have := (List.getElem_inj nd).mp e
      omega
    have hi1 : (refs ds)[i] < A1.length := (List.getElem?_eq_some_iff.mp p3).1
    have e3 : A1[(refs ds)[i]] = [Bs[i]] := (List.getElem?_eq_some_iff.mp p3).2
    refine not_fl_set (A := A1) (i := (refs ds)[i]) (as := []) hi1 ok1.nd (a := Bs[i]) (by rw [e3]; simp) (by simp) (List.mem_flatten.mpr ⟨[Bs[j]], ?_, by rw [e]; simp⟩)
    exact List.mem_of_getElem? (by rw [List.getElem?_set_ne ne]; exact q3)
  have vl : ∀ {n vs sls Bs}, ArgsOk X.K cl F1 H1 n vs sls Bs → vs.length = sls.length := fun {n vs sls Bs} z => by
    induction z with
    | nil => rfl
    | fz _ _ ih => simp [ih]
    | own _ _ _ _ ih => simp [ih]
  have al : ∀ {vs : List V} {ds : List (D ⊕ Nat)}, RepA X.K cl F1 σ vs ds → vs.length = ds.length := fun {vs ds} z => by
    induction z with
    | nil => rfl
    | inl _ _ ih => simp [ih]
    | inr _ _ ih => simp [ih]
  have run : spOf X.K cl ms.length fn vs H1 Q (WE W σ) := by
    refine ⟨F1, sls, Bs, (al r1).trans h0, ok1.sub, a1, ndB, fn.mono h2 (fun d outs ⟨env2, h3, h4⟩ v F2 H2 g2 sub2 r2 oo => ?_) fun c outs ⟨env2, h3, h4⟩ F2 H2 Ca g2 sub2 hc oo => ?_⟩
    · obtain ⟨o1, o2⟩ := called ok1 a2 a3 nd g2 sub2 oo h3
      exact h4 _ _ _ _ (g.trans o2) o1 r2
    · obtain ⟨o1, o2⟩ := called ok1 a2 a3 nd g2 sub2 oo h3
      exact h4 _ _ _ _ (g.trans o2) o1 hc
  exact run
theorem s_call0 {x : Str} {p : Pos} (hX : XOk X G cl I lv) (tk : Takes X W) (hg : glb I x = true) :
    OE X cl B W (.Call (.Name x p) [] [] pos) (fun env Q Er => ∃ ms fn, G.fns x = some (ms, fn) ∧ (ms = [] ∧ callR ms.length fn [] env Q Er)) := by
  obtain ⟨g1, g2⟩ := hX.gl hg
  refine ⟨fun pins s σ H Q J ⟨F, env, A, ok, ms, fn, hf, h0, h⟩ => ?_⟩
  obtain ⟨k, f, fd, ps, hk, FO, hm, hkp, hb, hlen⟩ := hX.gw.fns x ms fn hf
  have run : spOf X.K cl ms.length fn [] H Q (WE W σ) := by
    obtain ⟨hn, sls, h1, nd, h2⟩ := h
    cases h1
    refine ⟨F, [], [], by simp [h0], ok.sub, .nil, .nil, fn.mono h2 (fun d outs ⟨env2, h3, h4⟩ v F2 H2 g2 sub2 r2 oo => ?_) fun c outs ⟨env2, h3, h4⟩ F2 H2 Ca g2 sub2 hc oo => ?_⟩
    · obtain ⟨o1, o2⟩ := called ok (is := []) rfl (fun j i h => by simp at h) .nil g2 sub2 oo h3
      exact h4 _ _ _ _ o2 o1 r2
    · obtain ⟨o1, o2⟩ := called ok (is := []) rfl (fun j i h => by simp at h) .nil g2 sub2 oo h3
      exact h4 _ _ _ _ o2 o1 hc
  refine wpAny_Call_Name_kw (ld_glob J g1 hm ?_ g2)
  exact PySem.W.callWith_K0 J.kIn hkp (run_fnS (E := WE W) (us := []) FO (hX.room.mono hk) hb (passAt tk σ) J .nil run)
end
end PF

set_option Elab.async false
set_option linter.all false
set_option maxRecDepth 100000
set_option maxHeartbeats 4000000

namespace PF
open PySem PySem.Spec PyProof.Rows L2
section
variable {X : Cx} {G : Tb} {cl : Str → Option Addr} {B : List Addr} {W : WX} {I : Info} {lv : Nat} {a b c : Expr} {es : List Expr} {pos : Pos} {fa fb fc : SemE} {ta tb : SemT}

theorem argsOk_fz {K : PySem.W.Frag} {F H : Hp} : ∀ {vs : List V} {ds : List D} {n : Nat}, RepL K cl F vs ds → ArgsOk K cl F H n vs (ds.map .fz) []
  | _, _, _, .nil => .nil
  | _, _, _, .cons r t => .fz r (argsOk_fz t)
theorem gr_nil {F H F' H' : Hp} {A : List (List Addr)} (g : Gr F H [[]] F' H' [[]]) (hA : ∀ a ∈ A.flatten, F a = none ∧ H a ≠ none) : Gr F H A F' H' A ∧ (∀ a ∈ A.flatten, F' a = none) := by
  have fl1 : ([[]] : List (List Addr)).flatten = [] := by simp
  refine ⟨⟨g.fr, fun a o h n => g.keep a o h (by rw [fl1]; simp), fun a h => ?_, fun a m => .inl m, g.stay, g.nf⟩, fun a m => ?_⟩
  · rcases g.new a h with q | q | q
    · exact .inl q
    · exact .inr (.inl q)
    · rw [fl1] at q; cases q
  · cases z : F' a with
    | none => rfl
    | some o =>
      rcases g.new a (by rw [z]; exact fun z => nomatch z) with q | q | q
      · exact absurd (hA a m).1 q
      · exact absurd q (hA a m).2
      · rw [fl1] at q; cases q
theorem called0 {K : PySem.W.Frag} {Bp : List Addr} {F H F' H' : Hp} {σ : L2.St} {env : En} {A : List (List Addr)} (ok : SOk K cl Bp F H σ env A) (g : Gr F H [[]] F' H' [[]]) (sub : ∀ a o, F' a = some o → H' a = some o) : SOk K cl Bp F' H' σ env A ∧ Gr F H A F' H' A := by
  obtain ⟨g1, g2⟩ := gr_nil (A := A) g fun a m => ⟨ok.fr a m, ok.tr a m⟩
  exact ⟨ok.grow g1.fr (fun a o m h => g.keep a o h (by simp)) g2 sub, g1⟩

/-! ### methods -/
def fewArgs (es : List Expr) : Bool := decide (es.length < 30)
theorem bt_len : ∀ (es : List Expr) (env : Env), (backTo pos (starEach es env)).length = es.length
  | [], _ => rfl
  | e :: es, env => by
    have ih := bt_len es env
    cases e <;> (show (backTo pos (starEach es env)).length + 1 = _; rw [ih]; rfl)
theorem bt_all {es : List Expr} {env : Env} (h : es.all notStar = true) : (backTo pos (starEach es env)).all (fun x => !x.1) = true := by
  induction es with
  | nil => rfl
  | cons e es ih =>
    simp only [List.all_cons, Bool.and_eq_true] at h
    rw [star_cons h.1]
    show (true && (backTo pos (starEach es env)).all (fun x => !x.1)) = true
    rw [ih h.2]; rfl
theorem meth_tree {o : Expr} {m : Str} {apos : Pos} {env : Env} (hp : (match o with | .Call (.Name _ _) [] [] _ => false | _ => true) = true) (hn : es.all notStar = true) (hf : fewArgs es = true) (hl : (apos.endLine == pos.line) = true) :
    eval (.Call (.Attribute o m apos) es [] pos) env = (do
      let ov ← eval o env
      standAt apos.atName
      let (f, first) ← holding [ov] (getMethod ov m (do return (← importBound o env).getD true))
      callWith pos f first (backTo pos (starEach es env)) (backToKw pos (keywordEach [] env))) := by
  have e1 : methodCallForm (es.length + ([] : List Keyword).length) (backTo pos (starEach es env)) (backToKw pos (keywordEach [] env)) = true := by
    unfold methodCallForm
    rw [bt_all hn]
    have : es.length < 30 := of_decide_eq_true hf
    simp [backToKw, keywordEach]
    omega
  have e2 : eval (.Call (.Attribute o m apos) es [] pos) env = (do
      let ov ← attributeBase o m env (eval o env)
      standAt apos.atName
      methodCall o m apos pos env ov (es.length + ([] : List Keyword).length) (backTo pos (starEach es env)) (backToKw pos (keywordEach [] env))) := by
    rfl
  rw [e2, attr_base hp]
  unfold methodCall calleeOf methodCallPos
  rw [e1]
  simp only [if_true, Bool.not_true, Bool.false_or, hl]
  rfl
theorem s_meth {m : Str} {apos : Pos} {fo : SemE} {fm : En → (List D → En → Prop) → KE0 → Prop} (hX : XOk X G cl I lv) (tk : Takes X W) (hp : (match a with | .Call (.Name _ _) [] [] _ => false | _ => true) = true) (hn : es.all notStar = true) (hf : fewArgs es = true)
    (hl : (apos.endLine == pos.line) = true) (ho : OE X cl B W a fo) (hes : OM X cl B W es fm) (mo : MonoE fo) (mm : MonoM fm) (h0 : es = [] → fm = fun env Q _ => Q [] env) :
    OE X cl B W (.Call (.Attribute a m apos) es [] pos) (fun env Q Er => ∃ C n fn, G.mth m = some (C, n, fn) ∧ fo env (fun eo env0 => settle env0 eo fun d0 env1 => (∃ fs, d0 = .obj C fs ∧ fs.lookup m = none) ∧ fm env1 (fun ds env2 => ds.length + 1 = n ∧
      fn.run (.fz d0 :: ds.map .fz) (fun d _ => Q (.d d) env2) (fun c _ => Er c env2)) Er) Er) := by
  refine ⟨fun pins s σ H Q J ⟨F, env, A, ok, C, n, fn, hm, h⟩ => ?_⟩
  obtain ⟨Ca, k, f, fd, ps, hk, hcl, hC, hM, FO, hb⟩ := hX.gw.mth m C n fn hm
  have core : tMethS Ca m (spOf X.K cl n fn) (WE W) (tOut X.K cl B W fo) (tOutM X.K cl B W fm) σ H Q := by
    refine step mo ok h fun eo env0 h0 v0 F0 H0 A0 g0 ok0 r0 => ?_
    obtain ⟨d0, env1, F1, A1, ⟨⟨fs, e0, l0⟩, h1⟩, ok1, r1, g1⟩ := settle_ok ok0 r0 g0 h0
    subst e0
    cases r1 with
    | obj e1 e2 e3 =>
      rw [hcl] at e1; cases e1
      refine ⟨_, _, _, rfl, ok1.sub _ _ e2, e3.lookup_none l0, F1, env1, A1, ok1, mm.ap h1 (fun ds env2 q vs F2 H2 A2 g2 ok2 r2 => ?_) fun _ _ z => z.sh g1⟩
      obtain ⟨hlen, q⟩ := q
      refine ⟨F2, _, [], by simp [r2.length, hlen], ok2.sub, argsOk_fz (ds := .obj C fs :: ds) (.cons (.obj hcl (g2.fr _ _ e2) (e3.mono g2.fr)) r2), .nil, fn.mono q (fun d outs h3 v F3 H3 g3 sub3 r3 oo => ?_) fun c outs h3 F3 H3 Cb g3 sub3 hc oo => ?_⟩
      · obtain ⟨o1, o2⟩ := called0 ok2 g3 sub3
        exact h3 _ _ _ _ ((g1.trans g2).trans o2) o1 r3
      · obtain ⟨o1, o2⟩ := called0 ok2 g3 sub3
        exact h3 _ _ _ _ ((g1.trans g2).trans o2) o1 hc
  have hr := hX.room.mono hk
  cases es with
  | nil =>
    refine (pe_methS0 ho hC hM FO hr hb (fun σ => passAt tk σ) (meth_tree hp hn hf hl)).run pins s σ H Q J ?_
    obtain ⟨F', env', A', ok', h'⟩ := core
    have e0 := h0 rfl
    subst e0
    refine ⟨F', env', A', ok', mo.ap h' (fun e env1 q v F1 H1 A1 g1 ok1 r1 => ?_) fun _ _ z => z⟩
    obtain ⟨x, dx, fs, e1, e2, e3, F2, env2, A2, ok2, q⟩ := q v F1 H1 A1 g1 ok1 r1
    exact ⟨x, dx, fs, e1, e2, e3, q [] F2 H1 A2 (.refl ..) ok2 .nil⟩
  | cons e es =>
    have hn' := hn
    simp only [List.all_cons, Bool.and_eq_true] at hn'
    exact (pe_methS ho hC hM FO hr hb (fun σ => passAt tk σ) hes (star_cons hn'.1) (star_all (by simpa using hn'.2)) (meth_tree hp hn hf hl)).run pins s σ H Q J core

/-! ### calls whose list is the caller's own -/
/-- what is no list -/
def cutF (F : Hp) : Hp := fun a => match F a with
  | some (.lst _) => none
  | some (.frz _ (.lst _)) => none
  | o => o
theorem cutF_le {F : Hp} : ∀ a o, cutF F a = some o → F a = some o := fun a o h => by
  unfold cutF at h
  split at h
  · cases h
  · cases h
  · exact h
theorem cutF_tup {F : Hp} {a : Addr} {vs : List V} (h : Rd F a (.tup vs)) : Rd (cutF F) a (.tup vs) := by
  rcases h with h | ⟨o, h⟩
  · exact .inl (by unfold cutF; rw [h])
  · exact .inr ⟨o, by unfold cutF; rw [h]⟩
theorem cutF_no {F : Hp} {a : Addr} {ws : List V} : ¬ Rd (cutF F) a (.lst ws) := by
  rintro (h | ⟨o, h⟩)
  · unfold cutF at h
    split at h
    · cases h
    · cases h
    · rename_i h1 h2
      exact h1 _ h
  · unfold cutF at h
    split at h
    · cases h
    · cases h
    · rename_i h1 h2
      exact h2 _ _ h
mutual
theorem Rep.cut {K : PySem.W.Frag} {cl : Str → Option Addr} {F : Hp} : ∀ {v : V} {d : D}, Rep K cl F v d → d.noL = true → Rep K cl (cutF F) v d
  | _, _, .non, _ => .non
  | _, _, .bl b, _ => .bl b
  | _, _, .int i, _ => .int i
  | _, _, .str x, _ => .str x
  | _, _, .tup q r, h => .tup (q.elim (fun q => .inl (cutF_tup q)) .inr) (RepL.cut r h)
  | _, _, .lst q r, h => Bool.noConfusion h
  | _, _, .klst q r, h => Bool.noConfusion h
  | _, _, .obj e q r, h => .obj e (by unfold cutF; rw [q]) (RepF.cut r h)
theorem RepL.cut {K : PySem.W.Frag} {cl : Str → Option Addr} {F : Hp} : ∀ {vs : List V} {ds : List D}, RepL K cl F vs ds → D.noL.nls ds = true → RepL K cl (cutF F) vs ds
  | _, _, .nil, _ => .nil
  | _, _, .cons r t, h => .cons (Rep.cut r (Bool.and_eq_true_iff.mp h).1) (RepL.cut t (Bool.and_eq_true_iff.mp h).2)
theorem RepF.cut {K : PySem.W.Frag} {cl : Str → Option Addr} {F : Hp} : ∀ {vs : List (Str × V)} {ds : List (Str × D)}, RepF K cl F vs ds → D.noL.nlf ds = true → RepF K cl (cutF F) vs ds
  | _, _, .nil, _ => .nil
  | _, _, .cons r t, h => .cons (Rep.cut r (Bool.and_eq_true_iff.mp h).1) (RepF.cut t (Bool.and_eq_true_iff.mp h).2)
end
theorem s_callN {f : Str} {p : Pos} {e : Expr} {fm : En → (List D → En → Prop) → KE0 → Prop} (hX : XOk X G cl I lv) (tk : Takes X W) (hg : glb I f = true) (hn : ((e :: es).all notStar) = true) (hes : OM X cl B W (e :: es) fm) (mm : MonoM fm) :
    OE X cl B W (.Call (.Name f p) (e :: es) [] pos) (fun env Q Er => ∃ ms fn, G.fns f = some (ms, fn) ∧ fm env (fun ds env2 => ds.length = ms.length ∧ D.noL.nls ds = true ∧ fn.run (ds.map .fz) (fun d _ => ∃ ns : List Int, d = .lst (ns.map D.int) ∧ Q (.nw (ns.map D.int)) env2) (fun c _ => Er c env2)) Er) := by
  obtain ⟨g1, g2⟩ := hX.gl hg
  have hn' := hn
  simp only [List.all_cons, Bool.and_eq_true] at hn'
  refine ⟨fun pins s σ H Q J ⟨F, env, A, ok, ms, fn, hf, h⟩ => ?_⟩
  obtain ⟨k, fa, fd, ps, hk, FO, hm, hkp, hb, hlen⟩ := hX.gw.fns f ms fn hf
  refine (pe_callS (E := WE W) FO (hX.room.mono hk) g1 hm hkp hb (fun σ => passAt tk σ) hes g2 (star_cons hn'.1) (star_all (by simpa using hn'.2))).run pins s σ H Q J ?_
  refine ⟨F, env, A, ok, mm.ap h (fun ds env2 q vs F2 H2 A2 g ok2 r2 => ?_) fun _ _ z => z⟩
  obtain ⟨hl, hnl, q⟩ := q
  have fl1 : ([[]] : List (List Addr)).flatten = [] := by simp
  have run : spOf X.K cl ms.length fn vs H2 Q (WE W σ) := by
    refine ⟨cutF F2, _, [], r2.length.trans hl, fun a o h => ok2.sub a o (cutF_le a o h), argsOk_fz (r2.cut hnl), .nil, fn.mono q (fun d outs ⟨ns, e, h3⟩ v F3 H3 g3 sub3 r3 oo => ?_) fun c outs h3 F3 H3 Cb g3 sub3 hc oo => ?_⟩
    · subst e
      cases r3 with
      | lst rd rl =>
        rename_i a ws
        have ew := rl.map_int
        have f0 : cutF F2 a = none := by
          cases z : cutF F2 a with
          | none => rfl
          | some o =>
            exfalso
            have z' := g3.fr a o z
            refine cutF_no (F := F2) (a := a) (ws := ws) ?_
            rcases rd with rd | ⟨o', rd⟩
            · rw [rd] at z'; exact .inl (by rw [z, z'])
            · rw [rd] at z'; exact .inr ⟨o', by rw [z, z']⟩
        have hr : F3 a = some (.lst ws) := by
          rcases rd with rd | ⟨o', rd⟩
          · exact rd
          · exact absurd f0 (g3.nf a o' _ rd)
        have h2a : H2 a = none := by
          rcases g3.new a (by rw [hr]; exact fun z => nomatch z) with z | z | z
          · exact absurd f0 z
          · exact z
          · rw [fl1] at z; cases z
        have gn : Gr F2 H2 A2 F2 H3 A2 := ⟨fun _ _ h => h, fun b o h _ => g3.keep b o h (by rw [fl1]; simp), fun _ h => .inl h, fun _ h => .inl h, g3.stay, fun _ _ _ h => by rw [h]; exact fun z => nomatch z⟩
        have okn : SOk X.K cl B F2 H3 σ env2 A2 := ok2.grow (fun _ _ h => h) (fun b o m h => g3.keep b o h (by rw [fl1]; simp)) ok2.fr fun b o h => g3.keep b o (ok2.sub b o h) (by rw [fl1]; simp)
        refine h3 _ _ _ _ (g.trans gn) okn ⟨a, ws, rfl, ?_, sub3 a _ hr, ?_, fun m => ok2.tr a m h2a, g.none h2a⟩
        · cases z : F2 a with
          | none => rfl
          | some o => have := ok2.sub a o z; rw [h2a] at this; cases this
        · rw [ew]; exact RepL.of_ints ns
    · have gn : Gr F2 H2 A2 F2 H3 A2 := ⟨fun _ _ h => h, fun b o h _ => g3.keep b o h (by rw [fl1]; simp), fun _ h => .inl h, fun _ h => .inl h, g3.stay, fun _ _ _ h => by rw [h]; exact fun z => nomatch z⟩
      have okn : SOk X.K cl B F2 H3 σ env2 A2 := ok2.grow (fun _ _ h => h) (fun b o m h => g3.keep b o h (by rw [fl1]; simp)) ok2.fr fun b o h => g3.keep b o (ok2.sub b o h) (by rw [fl1]; simp)
      exact h3 _ _ _ _ (g.trans gn) okn hc
  exact run

/-! ### objects made -/
theorem s_mk {C : Str} {p : Pos} {e : Expr} {fm : En → (List D → En → Prop) → KE0 → Prop} (hX : XOk X G cl I lv) (tk : Takes X W) (hg : glb I C = true) (hn : ((e :: es).all notStar) = true) (hes : OM X cl B W (e :: es) fm) (mm : MonoM fm) :
    OE X cl B W (.Call (.Name C p) (e :: es) [] pos) (fun env Q Er => ∃ n fn, G.mks C = some (n, fn) ∧ fm env (fun ds env2 => ds.length = n ∧ ds ≠ [] ∧ fn.run (ds.map .fz) (fun d _ => Q (.d d) env2) (fun c _ => Er c env2)) Er) := by
  obtain ⟨g1, g2⟩ := hX.gl hg
  have hn' := hn
  simp only [List.all_cons, Bool.and_eq_true] at hn'
  refine ⟨fun pins s σ H Q J ⟨F, env, A, ok, n, fn, hm, h⟩ => ?_⟩
  obtain ⟨Ca, k, f, fd, ps, hk, hcl, hmg, M, FO, hb⟩ := hX.gw.mks C n fn hm
  refine (pe_makeS (E := WE W) M FO (hX.room.mono hk) g1 hmg hb (fun σ => passAt tk σ) hes g2 (star_cons hn'.1) (star_all (by simpa using hn'.2))).run pins s σ H Q J ?_
  refine ⟨F, env, A, ok, mm.ap h (fun ds env2 q vs F2 H2 A2 g ok2 r2 => ?_) fun _ _ z => z⟩
  obtain ⟨hlen, _, q⟩ := q
  intro x dx nx nd ne
  have fx : F2 x = none := by
    cases z : F2 x with
    | none => rfl
    | some u => rw [ok2.sub _ _ z] at nx; cases nx
  have gl1 : Gr F2 H2 A2 F2 (upd H2 dx (.own x)) A2 := Gr.lay nd
  have nx1 : (upd H2 dx (.own x)) x = none := by rw [upd_ne (Ne.symm ne)]; exact nx
  have gl2 : Gr F2 (upd H2 dx (.own x)) A2 F2 (upd (upd H2 dx (.own x)) x (.ins Ca dx [])) A2 := Gr.lay nx1
  have ok3 : SOk X.K cl B F2 (upd (upd H2 dx (.own x)) x (.ins Ca dx [])) σ env2 A2 := (ok2.lay nd).lay nx1
  have gl := gl1.trans gl2
  have nA : x ∉ A2.flatten := fun m => ok2.tr x m nx
  have fl1 : ([[x]] : List (List Addr)).flatten = [x] := by simp
  -- behind the __init__
  have back : ∀ {F4 H4 A'}, Gr F2 (upd (upd H2 dx (.own x)) x (.ins Ca dx [])) [[x]] F4 H4 A' → Gr F2 H2 A2 F4 H4 A2 ∧ ∀ a ∈ A2.flatten, F4 a = none := fun {F4 H4 A'} g4 => by
    refine ⟨⟨g4.fr, fun a o h n => g4.keep a o (gl.keep a o h n) (by rw [fl1]; intro m; rcases List.mem_singleton.mp m; rw [nx] at h; cases h), fun a h => ?_, fun a m => .inl m, fun a h => g4.stay a (gl.stay a h), g4.nf⟩, fun a m => ?_⟩
    · rcases g4.new a h with q | q | q
      · exact .inl q
      · exact .inr (.inl (gl.none q))
      · rw [fl1] at q; rcases List.mem_singleton.mp q; exact .inr (.inl nx)
    · cases z : F4 a with
      | none => rfl
      | some o =>
        rcases g4.new a (by rw [z]; exact fun z => nomatch z) with q | q | q
        · exact absurd (ok2.fr a m) q
        · exact absurd q (ok3.tr a m)
        · rw [fl1] at q; rcases List.mem_singleton.mp q; exact absurd m nA
  refine ⟨F2, ds, x, Ca, dx, vs, rfl, r2.length.trans hlen, ok3.sub, r2, hcl, upd_same, fx, fn.mono q (fun d _ h3 F4 H4 g4 sub4 r4 => ⟨rfl, ?_⟩) fun c _ h3 F4 H4 Cb g4 sub4 hc => ?_⟩
  · obtain ⟨b1, b2⟩ := back g4
    exact h3 _ _ _ _ (g.trans b1) (ok3.grow g4.fr (fun a o m h => g4.keep a o h (by rw [fl1]; intro q; rcases List.mem_singleton.mp q; exact nA m)) b2 sub4) r4
  · obtain ⟨b1, b2⟩ := back g4
    exact h3 _ _ _ _ (g.trans b1) (ok3.grow g4.fr (fun a o m h => g4.keep a o h (by rw [fl1]; intro q; rcases List.mem_singleton.mp q; exact nA m)) b2 sub4) hc
end
end PF

set_option Elab.async false
set_option linter.all false
set_option maxRecDepth 100000
set_option maxHeartbeats 4000000

namespace PF
open PySem PySem.Spec PyProof.Rows L2
section
variable {X : Cx} {G : Tb} {cl : Str → Option Addr} {B : List Addr} {W : WX} {I : Info} {lv : Nat} {a b c tg : Expr} {es : List Expr} {pos : Pos} {fa fb fc : SemE} {ta tb : SemT}

/-! ### what is walked -/
abbrev OI (X : Cx) (cl : Str → Option Addr) (B : List Addr) (W : WX) (tg e : Expr) (f : SemI) : Prop := PI X tg e (tOutI X.K cl B W f)
def iSeq (K : PySem.W.Frag) (tl : TE) : TI := fun σ H R => tl σ H fun x H1 => ∃ a, x = .ref a ∧ ((∃ xs, SqL K H1 a xs ∧ R (Itl K a) H1) ∨ (∃ xs, SqT K H1 a xs ∧ R (Itt K a) H1))
theorem pi_seq {l : Expr} {tl : TE} (hl : PE X l tl) : PI X tg l (iSeq X.K tl) := by
  refine ⟨fun pins s σ H R I h => ?_⟩
  refine thn (hl.run pins s σ H _ I h) fun v s1 ⟨x, H1, I1, r1, q1⟩ => ?_
  obtain ⟨a, e, q⟩ := q1
  subst e
  cases r1
  rcases q with ⟨xs, hq, q⟩ | ⟨xs, hq, q⟩
  · obtain ⟨its, rv, p, hz⟩ := I1.list hq
    refine wpAny_pyIter_list p.isList ?_
    refine ⟨s1.heap.objs.size, [s1.heap.objs.size], _, _, H1, rfl, I1.kept (t' := s1.toks) fun b o e => Heap.get?_push_of_some _ e, turn_list a _, ⟨_, Heap.get?_push_size _ rfl, rfl, rfl⟩, fun b hb => ?_, q⟩
    have e : b = s1.heap.objs.size := by simpa using hb
    subst e
    exact I1.fpOk (Nat.le_refl _) (I1.hok.fresh (Nat.le_refl _))
  · obtain ⟨its, rv, p, hz⟩ := I1.tuple hq
    refine wpAny_pyIter_tuple (show s1.heap.IsTuple a its.toArray from p) ?_
    refine ⟨s1.heap.objs.size, [s1.heap.objs.size], _, _, H1, rfl, I1.kept (t' := s1.toks) fun b o e => Heap.get?_push_of_some _ e, turn_tuple a _, ⟨_, Heap.get?_push_size _ rfl, rfl, rfl⟩, fun b hb => ?_, q⟩
    have e : b = s1.heap.objs.size := by simpa using hb
    subst e
    exact I1.fpOk (Nat.le_refl _) (I1.hok.fresh (Nat.le_refl _))
theorem yld_list {K : PySem.W.Frag} {F : Hp} {a : Addr} {vs : List V} {ds : List D} (q : SqL K F a vs) (r : RepL K cl F vs ds) : Yld K cl (Itl K a) F ds where
  go := fun i H hi hs => by
    have h : i < vs.length := by rw [r.length]; exact hi
    exact ⟨vs, vs[i], sqL_mono hs q, List.getElem?_eq_getElem h⟩
  stop := fun H hs => ⟨vs, sqL_mono hs q, by rw [r.length]; exact Nat.le_refl _⟩
  yld := fun i H x H' hi hs y => by
    obtain ⟨e, y⟩ := y
    obtain ⟨d, e1, e2⟩ := r.get' (y vs (sqL_mono hs q))
    exact ⟨d, e1, .inl ⟨e, e2⟩⟩
theorem yld_tup {K : PySem.W.Frag} {F : Hp} {a : Addr} {vs : List V} {ds : List D} (q : SqT K F a vs) (r : RepL K cl F vs ds) : Yld K cl (Itt K a) F ds where
  go := fun i H hi hs => by
    have h : i < vs.length := by rw [r.length]; exact hi
    exact ⟨vs, vs[i], sqT_mono hs q, List.getElem?_eq_getElem h⟩
  stop := fun H hs => ⟨vs, sqT_mono hs q, by rw [r.length]; exact Nat.le_refl _⟩
  yld := fun i H x H' hi hs y => by
    obtain ⟨e, y⟩ := y
    obtain ⟨d, e1, e2⟩ := r.get' (y vs (sqT_mono hs q))
    exact ⟨d, e1, .inl ⟨e, e2⟩⟩
theorem intsFrom_length : ∀ (n : Nat) (lo : Int), (intsFrom lo n).length = n
  | 0, _ => rfl
  | n + 1, lo => by simp [intsFrom, intsFrom_length n]
theorem intsFrom_get : ∀ (n : Nat) (lo : Int) (i : Nat), i < n → (intsFrom lo n)[i]? = some (.int (lo + i))
  | 0, _, _, h => by omega
  | n + 1, lo, 0, _ => by simp [intsFrom]
  | n + 1, lo, i + 1, h => by
    simp only [intsFrom, List.getElem?_cons_succ]
    rw [intsFrom_get n (lo + 1) i (by omega)]
    congr 2
    omega
theorem yld_rng {K : PySem.W.Frag} {F : Hp} {lo : Int} {n : Nat} : Yld K cl (Itr lo n) F (intsFrom lo n) where
  go := fun i H hi hs => by rw [intsFrom_length] at hi; exact hi
  stop := fun H hs => by rw [intsFrom_length]; exact Nat.le_refl _
  yld := fun i H x H' hi hs y => by
    obtain ⟨e, y⟩ := y
    rw [intsFrom_length] at hi
    subst y
    exact ⟨_, intsFrom_get n lo i hi, .inl ⟨e, .int _⟩⟩
theorem enumD_length : ∀ (n : Nat) (ds : List D), (enumD n ds).length = ds.length
  | _, [] => rfl
  | n, d :: ds => by simp [enumD, enumD_length]
theorem enumD_get : ∀ (n : Nat) (ds : List D) (i : Nat) (d : D), ds[i]? = some d → (enumD n ds)[i]? = some (.tup [.int ((n + i : Nat) : Int), d])
  | _, [], _, _, h => by simp at h
  | n, d :: ds, 0, _, h => by simp at h; subst h; simp [enumD]
  | n, d :: ds, i + 1, d', h => by
    simp only [enumD, List.getElem?_cons_succ]
    rw [enumD_get (n + 1) ds i d' (by simpa using h)]
    have e : n + 1 + i = n + (i + 1) := by omega
    rw [e]
theorem yld_enum {K : PySem.W.Frag} {F : Hp} {a : Addr} {vs : List V} {ds : List D} (q : SqL K F a vs) (r : RepL K cl F vs ds) : Yld K cl (Ite K a) F (enumD 0 ds) where
  go := fun i H hi hs => by
    have h : i < vs.length := by rw [r.length, ← enumD_length 0]; exact hi
    exact ⟨vs, vs[i], sqL_mono hs q, List.getElem?_eq_getElem h⟩
  stop := fun H hs => ⟨vs, sqL_mono hs q, by rw [r.length, enumD_length]; exact Nat.le_refl _⟩
  yld := fun i H x H' hi hs y => by
    obtain ⟨T, w, e1, e2, e3, y⟩ := y
    obtain ⟨d, q1, q2⟩ := r.get' (y vs (sqL_mono hs q))
    refine ⟨_, enumD_get 0 ds i d q1, .inr ⟨T, _, _, e2, e1, e3, rfl, .cons ?_ (.cons q2 .nil)⟩⟩
    rw [Nat.zero_add]
    exact .int _
theorem zipD_get : ∀ (ds es : List D) (i : Nat) (d e : D), ds[i]? = some d → es[i]? = some e → (zipD ds es)[i]? = some (.tup [d, e])
  | [], _, _, _, _, h, _ => by simp at h
  | _ :: _, [], _, _, _, _, h => by simp at h
  | d :: ds, e :: es, 0, _, _, h, h' => by simp at h h'; subst h h'; simp [zipD]
  | d :: ds, e :: es, i + 1, d', e', h, h' => by
    simp only [zipD, List.getElem?_cons_succ]
    exact zipD_get ds es i d' e' (by simpa using h) (by simpa using h')
theorem zipD_length : ∀ (ds es : List D), (zipD ds es).length = min ds.length es.length
  | [], _ => by simp [zipD]
  | _ :: _, [] => by simp [zipD]
  | d :: ds, e :: es => by simp [zipD, zipD_length]
theorem yld_zip {K : PySem.W.Frag} {F : Hp} {a b : Addr} {vs ws : List V} {ds es : List D} (q : SqL K F a vs) (r : RepL K cl F vs ds) (q' : SqL K F b ws) (r' : RepL K cl F ws es) : Yld K cl (Itz K a b) F (zipD ds es) where
  go := fun i H hi hs => by
    rw [zipD_length, ← r.length, ← r'.length] at hi
    exact ⟨vs, ws, vs[i]'(by omega), ws[i]'(by omega), sqL_mono hs q, sqL_mono hs q', List.getElem?_eq_getElem (by omega), List.getElem?_eq_getElem (by omega)⟩
  stop := fun H hs => ⟨vs, ws, sqL_mono hs q, sqL_mono hs q', by rw [zipD_length, r.length, r'.length]; omega⟩
  yld := fun i H x H' hi hs y => by
    obtain ⟨T, w, z, e1, e2, e3, y, y'⟩ := y
    obtain ⟨d, q1, q2⟩ := r.get' (y vs (sqL_mono hs q))
    obtain ⟨d', q3, q4⟩ := r'.get' (y' ws (sqL_mono hs q'))
    exact ⟨_, zipD_get ds es i d d' q1 q3, .inr ⟨T, _, _, e2, e1, e3, rfl, .cons q2 (.cons q4 .nil)⟩⟩
theorem Yld.mono {K : PySem.W.Frag} {J : L2.It} {F F' : Hp} {ds : List D} (h : ∀ a o, F a = some o → F' a = some o) (y : Yld K cl J F ds) : Yld K cl J F' ds where
  go := fun i H hi hs => y.go i H hi fun a o z => hs a o (h a o z)
  stop := fun H hs => y.stop H fun a o z => hs a o (h a o z)
  yld := fun i H x H' hi hs z => by
    obtain ⟨d, e, q⟩ := y.yld i H x H' hi (fun a o z => hs a o (h a o z)) z
    refine ⟨d, e, ?_⟩
    rcases q with ⟨q1, q2⟩ | ⟨p, vs, es, q1, q2, q3, q4, q5⟩
    · exact .inl ⟨q1, q2.mono h⟩
    · exact .inr ⟨p, vs, es, q1, q2, q3, q4, q5.mono h⟩
theorem s_itof (ha : OE X cl B W a fa) (ma : MonoE fa) : OI X cl B W tg a (fun env Q Er => fa env (fun x env1 => settle env1 x fun d env2 => match d with
    | .lst ds => Q ds env2
    | .tup ds => Q ds env2
    | .klst ds => Q ds env2
    | _ => False) Er) := by
  refine PI.imp (pi_seq ha) fun σ H R ⟨F, env, A, ok, h⟩ => ?_
  refine step ma ok h fun ea env1 h1 v1 F1 H1 A1 g1 ok1 r1 => ?_
  obtain ⟨d, env2, F2, A2, h2, ok2, r2, g2⟩ := settle_ok ok1 r1 g1 h1
  cases d with
  | lst ds =>
    cases r2 with
    | lst q r => exact ⟨_, rfl, .inl ⟨_, .inl (rd_mono ok2.sub q), h2 _ _ _ _ g2 ok2 (yld_list (.inl q) r)⟩⟩
  | tup ds =>
    cases r2 with
    | tup q r => exact ⟨_, rfl, .inr ⟨_, sqT_mono ok2.sub q, h2 _ _ _ _ g2 ok2 (yld_tup q r)⟩⟩
  | klst ds =>
    cases r2 with
    | klst q r => exact ⟨_, rfl, .inl ⟨_, sqL_mono ok2.sub q, h2 _ _ _ _ g2 ok2 (yld_list q r)⟩⟩
  | _ => exact h2.elim
theorem s_rng1 {p : Pos} (hX : XOk X G cl I lv) (hg : glb I "range" = true) (hn : notStar a = true) (ha : OE X cl B W a fa) (ma : MonoE fa) :
    OI X cl B W tg (.Call (.Name "range" p) [a] [] pos) (fun env Q Er => fa env (fun x env1 => ∃ j : Int, x = .d (.int j) ∧ -(2 ^ 62) ≤ j ∧ j < 2 ^ 62 ∧ Q (intsFrom 0 j.toNat) env1) Er) := by
  refine PI.imp (pi_range1 (hX.gl hg).1 (hX.gw.bi _ (by decide)) (pa_cons ha pa_nil (star_cons hn)) (star_cons hn)) fun σ H R ⟨F, env, A, ok, h⟩ => ?_
  refine step ma ok h fun ea env1 h1 v1 F1 H1 A1 g1 ok1 r1 => ?_
  obtain ⟨j, e, b1, b2, q⟩ := h1
  subst e
  cases r1
  exact ⟨j, rfl, b1, b2, q _ _ _ _ g1 ok1 yld_rng⟩
theorem s_rng2 {p : Pos} (hX : XOk X G cl I lv) (hg : glb I "range" = true) (hn : notStar a = true) (hn2 : notStar b = true) (ha : OE X cl B W a fa) (hb : OE X cl B W b fb) (ma : MonoE fa) (mb : MonoE fb) :
    OI X cl B W tg (.Call (.Name "range" p) [a, b] [] pos) (fun env Q Er => fa env (fun x env1 => fb env1 (fun y env2 => ∃ i j : Int, x = .d (.int i) ∧ y = .d (.int j) ∧ (-(2 ^ 62) ≤ i ∧ i < 2 ^ 62 ∧ -(2 ^ 62) ≤ j ∧ j < 2 ^ 62) ∧ Q (intsFrom i (j - i).toNat) env2) Er) Er) := by
  refine PI.imp (pi_range2 (hX.gl hg).1 (hX.gw.bi _ (by decide)) (pa_cons ha (pa_cons hb pa_nil (star_cons hn2)) (star_cons hn)) (by rw [star_cons hn, star_cons hn2]; rfl) (star_cons hn2)) fun σ H R ⟨F, env, A, ok, h⟩ => ?_
  refine step ma ok h fun ea env1 h1 v1 F1 H1 A1 g1 ok1 r1 => ?_
  refine step mb ok1 (mb.ap h1 (fun _ _ z => z) fun _ _ z => z.sh g1) fun eb env2 h2 v2 F2 H2 A2 g2 ok2 r2 => ?_
  obtain ⟨i, j, e, e', b1, q⟩ := h2
  subst e e'
  cases r1; cases r2
  exact ⟨i, j, rfl, b1, q _ _ _ _ (g1.trans g2) ok2 yld_rng⟩
theorem s_enum {p tpos : Pos} {elts : List Expr} {kk : Nat} (hX : XOk X G cl I lv) (hg : glb I "enumerate" = true) (hn : notStar a = true) (ha : OE X cl B W a fa) (ma : MonoE fa) :
    OI X cl B W (.Tuple elts kk tpos) (.Call (.Name "enumerate" p) [a] [] pos) (fun env Q Er => fa env (fun x env1 => settle env1 x fun d env2 => ∃ ds, d = .lst ds ∧ Q (enumD 0 ds) env2) Er) := by
  refine PI.imp (pi_enum (hX.gl hg).1 (hX.gw.bi _ (by decide)) (pa_cons ha pa_nil (star_cons hn)) (star_cons hn)) fun σ H R ⟨F, env, A, ok, h⟩ => ?_
  refine step ma ok h fun ea env1 h1 v1 F1 H1 A1 g1 ok1 r1 => ?_
  obtain ⟨d, env2, F2, A2, ⟨ds, e, h2⟩, ok2, r2, g2⟩ := settle_ok ok1 r1 g1 h1
  subst e
  cases r2 with
  | lst q r => exact ⟨_, _, rfl, .inl (rd_mono ok2.sub q), h2 _ _ _ _ g2 ok2 (yld_enum (.inl q) r)⟩
theorem s_zip {p tpos : Pos} {elts : List Expr} {kk : Nat} (hX : XOk X G cl I lv) (hg : glb I "zip" = true) (hn : notStar a = true) (hn2 : notStar b = true) (ha : OE X cl B W a fa) (hb : OE X cl B W b fb) (ma : MonoE fa) (mb : MonoE fb) :
    OI X cl B W (.Tuple elts kk tpos) (.Call (.Name "zip" p) [a, b] [] pos) (fun env Q Er => fa env (fun x env1 => settle env1 x fun d env2 => fb env2 (fun y env3 => settle env3 y fun d' env4 => ∃ ds es, d = .lst ds ∧ d' = .lst es ∧ Q (zipD ds es) env4) Er) Er) := by
  refine PI.imp (pi_zip (hX.gl hg).1 (hX.gw.bi _ (by decide)) (pa_cons ha (pa_cons hb pa_nil (star_cons hn2)) (star_cons hn)) (star_cons hn) (by rw [star_cons hn2]; rfl)) fun σ H R ⟨F, env, A, ok, h⟩ => ?_
  refine step ma ok h fun ea env1 h1 v1 F1 H1 A1 g1 ok1 r1 => ?_
  obtain ⟨d, env2, F2, A2, h2, ok2, r2, g2⟩ := settle_ok ok1 r1 g1 h1
  refine step mb ok2 (mb.ap h2 (fun _ _ z => z) fun _ _ z => z.sh g2) fun eb env3 h3 v3 F3 H3 A3 g3 ok3 r3 => ?_
  obtain ⟨d', env4, F4, A4, ⟨ds, es, e, e', h4⟩, ok4, r4, g4⟩ := settle_ok ok3 r3 g3 h3
  subst e e'
  have r2' := r2.mono g4.fr
  cases r2' with
  | lst q r =>
    cases r4 with
    | lst q' r' => exact ⟨_, _, _, _, rfl, .inl (rd_mono ok4.sub q), .inl (rd_mono ok4.sub q'), h4 _ _ _ _ (g2.trans g4) ok4 (yld_zip (.inl q) r (.inl q') r')⟩
end
end PF

set_option Elab.async false
set_option linter.all false
set_option maxRecDepth 100000
set_option maxHeartbeats 4000000

namespace PF
open PySem PySem.Spec PyProof.Rows L2
section
variable {X : Cx} {G : Tb} {cl : Str → Option Addr} {B : List Addr} {W : WX} {I : Info} {lv : Nat} {a b c tg : Expr} {es : List Expr} {pos : Pos} {fa fb fc : SemE} {ta tb : SemT}

/-! ### targets -/
def gNs : List Nat → TGs
  | [] => gNil
  | i :: is => gCons (gName i) (gNs is)
def gOf (K : PySem.W.Frag) : Tg → TG
  | .name i => gName i
  | .tup is => gTup K is.length (gNs is)
def tgOk (I : Info) (x : Str) : Bool := match I.sc.names.lookup x with | some .local => true | some .cell => I.fn x | _ => false
theorem pg_nm {i : Nat} {x : Str} (hX : XOk X G cl I lv) (h1 : I.N[i]? = some x) (h2 : tgOk I x = true) : PG X (.Name x pos) (gName i) := by
  unfold tgOk at h2
  have e : X.env.scope.names.lookup x = I.sc.names.lookup x := by rw [hX.sc]
  split at h2
  · rename_i h; exact pg_name (by rw [hX.N]; exact hX.nd) (by rw [hX.N]; exact h1) (.inl (e.trans h)) (.inr (e.trans h))
  · rename_i h; exact pg_name (by rw [hX.N]; exact hX.nd) (by rw [hX.N]; exact h1) (.inr (e.trans h)) (.inl (hX.fn _ h2))
  · cases h2
def chkNs (I : Info) : List Nat → List Expr → Bool
  | [], [] => true
  | i :: is, .Name x _ :: es => decide (I.N[i]? = some x) && tgOk I x && chkNs I is es
  | _, _ => false
theorem ns_plain {env : Env} : ∀ {is : List Nat} {es : List Expr}, chkNs I is es = true → (assignEach es env).length = is.length ∧ (assignEach es env).findIdx? (·.1) = none ∧ (∀ e ∈ es, notStar e = true)
  | [], [], _ => ⟨rfl, rfl, fun _ h => nomatch h⟩
  | i :: is, .Name x _ :: es, h => by
    simp only [chkNs, Bool.and_eq_true] at h
    obtain ⟨h1, h2, h3⟩ := ns_plain (env := env) h.2
    refine ⟨?_, ?_, fun e m => ?_⟩
    · show (assignEach es env).length + 1 = _
      rw [h1]; rfl
    · show List.findIdx? (·.1) ((false, _) :: assignEach es env) = none
      rw [List.findIdx?_cons]
      simp [h2]
    · rcases List.mem_cons.mp m with m | m
      · subst m; rfl
      · exact h3 e m
theorem pgs_ns (hX : XOk X G cl I lv) : ∀ {is : List Nat} {es : List Expr}, chkNs I is es = true → PGs X es (gNs is)
  | [], [], _ => pgs_nil
  | i :: is, .Name x _ :: es, h => by
    simp only [chkNs, Bool.and_eq_true, decide_eq_true_eq] at h
    exact pgs_cons (pg_nm hX h.1.1 h.1.2) (pgs_ns hX h.2) rfl
def chkTg (I : Info) : Tg → Expr → Bool
  | .name i, .Name x _ => decide (I.N[i]? = some x) && tgOk I x
  | .tup is, .Tuple es _ _ => chkNs I is es
  | _, _ => false
theorem pg_of (hX : XOk X G cl I lv) : ∀ {t : Tg} {e : Expr}, chkTg I t e = true → PG X e (gOf X.K t)
  | .name i, .Name x _, h => by
    simp only [chkTg, Bool.and_eq_true, decide_eq_true_eq] at h
    exact pg_nm hX h.1 h.2
  | .tup is, .Tuple es _ _, h => pg_tup hX.calm (pgs_ns hX h) (ns_plain h).1 (ns_plain h).2.1

theorem SOk.putFz {K : PySem.W.Frag} {F H : Hp} {σ : L2.St} {env : En} {A : List (List Addr)} {i : Nat} {v : V} {d : D} (ok : SOk K cl B F H σ env A) (r : Rep K cl F v d) : SOk K cl B F H (σ.set i (some v)) (env.set i (.fz d)) (A.set i []) := by
  by_cases hi : i < σ.length
  · exact ok.put hi ⟨rfl, v, rfl, r⟩ .nil (fun _ m => nomatch m) (fun _ m => nomatch m) fun _ m => nomatch m
  · rw [List.set_eq_of_length_le (by omega), List.set_eq_of_length_le (by rw [ok.len]; omega), List.set_eq_of_length_le (by rw [ok.lenA]; omega)]
    exact ok
theorem SOk.putNo {K : PySem.W.Frag} {F H : Hp} {σ : L2.St} {env : En} {A : List (List Addr)} {i : Nat} {w : Option V} (ok : SOk K cl B F H σ env A) : SOk K cl B F H (σ.set i w) (env.set i .no) (A.set i []) := by
  by_cases hi : i < σ.length
  · exact ok.put hi rfl .nil (fun _ m => nomatch m) (fun _ m => nomatch m) fun _ m => nomatch m
  · rw [List.set_eq_of_length_le (by omega), List.set_eq_of_length_le (by rw [ok.len]; omega), List.set_eq_of_length_le (by rw [ok.lenA]; omega)]
    exact ok
theorem Gr.putNo {F H : Hp} {A : List (List Addr)} {i : Nat} : Gr F H A F H (A.set i []) := Gr.put fun _ m => nomatch m

theorem wipe_set_out {σ : L2.St} {i : Nat} {x : Option V} : ∀ {js : List Nat}, i ∉ js → L2.wipe (σ.set i x) js = (L2.wipe σ js).set i x
  | [], _ => rfl
  | j :: js, m => by
    unfold L2.wipe
    have h1 : j ≠ i := fun e => m (by rw [e]; exact List.mem_cons_self)
    rw [wipe_set_out fun z => m (List.mem_cons_of_mem _ z), List.set_comm _ _ (Ne.symm h1)]
theorem wipe_set {σ : L2.St} {i : Nat} {x : Option V} : ∀ {js : List Nat}, i ∈ js → L2.wipe (σ.set i x) js = L2.wipe σ js
  | j :: js, m => by
    unfold L2.wipe
    by_cases e : i = j
    · subst e
      by_cases m2 : i ∈ js
      · rw [wipe_set m2]
      · rw [wipe_set_out m2, List.set_set]
    · have m2 : i ∈ js := by
        rcases List.mem_cons.mp m with m | m
        · exact absurd m e
        · exact m
      rw [wipe_set m2]
theorem gNs_ok {K : PySem.W.Frag} {F H : Hp} {Q : L2.St → Hp → Prop} : ∀ {is : List Nat} {ds : List D} {vs : List V} {σ : L2.St} {env env1 : En} {A : List (List Addr)}, SOk K cl B F H σ env A → RepL K cl F vs ds → putIs env is ds = some env1 →
    (∀ σ1 A1, SOk K cl B F H σ1 env1 A1 → Gr F H A F H A1 → (∀ js, (∀ i ∈ is, i ∈ js) → wipe σ1 js = wipe σ js) → Q σ1 H) → gNs is vs σ H Q
  | [], [], _, σ, env, env1, A, ok, .nil, h, k => by
    cases h
    exact ⟨rfl, k σ A ok (.refl ..) fun _ _ => rfl⟩
  | i :: is, d :: ds, _, σ, env, env1, A, ok, .cons (v := v) (vs := vs) r t, h, k => by
    refine ⟨v, vs, rfl, gNs_ok (ok.putFz r) t h fun σ1 A1 ok1 g1 w1 => k σ1 A1 ok1 (Gr.putNo.trans g1) fun js hj => ?_⟩
    rw [w1 js fun j m => hj j (List.mem_cons_of_mem _ m)]
    exact wipe_set (hj i List.mem_cons_self)
  | [], _ :: _, _, _, _, _, _, _, _, h, _ => by cases h
  | _ :: _, [], _, _, _, _, _, _, _, h, _ => by cases h
theorem gOf_ok {K : PySem.W.Frag} {F H : Hp} {Q : L2.St → Hp → Prop} {t : Tg} {d : D} {v : V} {σ : L2.St} {env env1 : En} {A : List (List Addr)} (ok : SOk K cl B F H σ env A) (r : Rep K cl F v d) (h : putTg t d env = some env1)
    (k : ∀ σ1 A1, SOk K cl B F H σ1 env1 A1 → Gr F H A F H A1 → (∀ js, (∀ i ∈ t.is, i ∈ js) → wipe σ1 js = wipe σ js) → Q σ1 H) : gOf K t v σ H Q := by
  cases t with
  | name i =>
    cases h
    exact k _ _ (ok.putFz r) Gr.putNo fun js hj => wipe_set (hj i (by simp [Tg.is]))
  | tup is =>
    cases d with
    | tup ds =>
      cases r with
      | tup q r =>
        have hl : ds.length = is.length := by
          have z : ∀ {is : List Nat} {ds : List D} {env : En}, putIs env is ds = some env1 → ds.length = is.length := by
            intro is
            induction is with
            | nil => intro ds env h; cases ds <;> first | rfl | cases h
            | cons i is ih => intro ds env h; cases ds with | nil => cases h | cons d ds => simp [ih h]
          exact z h
        exact ⟨_, _, rfl, sqT_mono ok.sub q, by rw [r.length, hl], gNs_ok ok r h k⟩
    | _ => cases h

/-! ### wiped slots -/
def wipeA (A : List (List Addr)) : List Nat → List (List Addr)
  | [] => A
  | i :: is => (wipeA A is).set i []
theorem SOk.wipe {K : PySem.W.Frag} {F H : Hp} {σ : L2.St} {env : En} {A : List (List Addr)} (ok : SOk K cl B F H σ env A) : ∀ is : List Nat, SOk K cl B F H (L2.wipe σ is) (wipeE env is) (wipeA A is)
  | [] => ok
  | _ :: is => (SOk.wipe ok is).putNo
theorem gr_wipe {F H : Hp} {A : List (List Addr)} : ∀ is : List Nat, Gr F H A F H (wipeA A is)
  | [] => .refl ..
  | _ :: is => (gr_wipe is).trans Gr.putNo
theorem wipeE_out {env : En} {i : Nat} : ∀ {is : List Nat}, i ∉ is → (wipeE env is)[i]? = env[i]?
  | [], _ => rfl
  | j :: is, h => by
    unfold wipeE
    rw [List.getElem?_set_ne fun e => h (by rw [e]; exact List.mem_cons_self)]
    exact wipeE_out fun m => h (List.mem_cons_of_mem _ m)
theorem wipeE_length {env : En} : ∀ is : List Nat, (wipeE env is).length = env.length
  | [] => rfl
  | j :: is => by unfold wipeE; rw [List.length_set, wipeE_length is]
theorem backE_out {env0 env : En} {i : Nat} : ∀ {is : List Nat}, i ∉ is → (backE env0 env is)[i]? = env[i]?
  | [], _ => rfl
  | j :: is, h => by
    unfold backE
    rw [List.getElem?_set_ne fun e => h (by rw [e]; exact List.mem_cons_self)]
    exact backE_out fun m => h (List.mem_cons_of_mem _ m)
theorem backE_length {env0 env : En} : ∀ is : List Nat, (backE env0 env is).length = env.length
  | [] => rfl
  | j :: is => by unfold backE; rw [List.length_set, backE_length is]
theorem backE_in {env0 env : En} {i : Nat} : ∀ {is : List Nat}, i ∈ is → i < env.length → (backE env0 env is)[i]? = some (env0[i]?.getD .no)
  | j :: is, h, hl => by
    unfold backE
    by_cases e : j = i
    · subst e; rw [List.getElem?_set_self (by rw [backE_length]; exact hl)]
    · rw [List.getElem?_set_ne e]
      exact backE_in (by rcases List.mem_cons.mp h with h | h; exact absurd h.symm e; exact h) hl
theorem wipe_in {σ : L2.St} {i : Nat} : ∀ {is : List Nat}, i ∈ is → i < σ.length → (L2.wipe σ is)[i]? = some none
  | j :: is, h, hl => by
    unfold L2.wipe
    by_cases e : j = i
    · subst e; rw [List.getElem?_set_self (by rw [wipe_length]; exact hl)]
    · rw [List.getElem?_set_ne e]
      exact wipe_in (by rcases List.mem_cons.mp h with h | h; exact absurd h.symm e; exact h) hl
/-- a list of ours that nobody knows changes -/
theorem SOk.updT {K : PySem.W.Frag} {F H : Hp} {σ : L2.St} {env : En} {A : List (List Addr)} {p : Addr} {o : HO} (ok : SOk K cl B F H σ env A) (fp : F p = none) (np : p ∉ A.flatten) : SOk K cl B F (upd H p o) σ env A :=
  ok.grow (fun _ _ h => h) (fun a o' m h => by rw [upd_ne (fun e => by subst e; exact np m)]; exact h) ok.fr fun a o' h => by
    rw [upd_ne (fun e => by subst e; rw [fp] at h; cases h)]; exact ok.sub _ _ h

/-! ### comprehensions -/
def ownOf (I : Info) (is : List Nat) : List (Str × Nat) := is.map fun i => (I.N[i]?.getD "", i)
theorem own_map (I : Info) (is : List Nat) : (ownOf I is).map (·.2) = is := by
  unfold ownOf
  rw [List.map_map]
  exact List.map_id is
theorem lc_sem {t : Tg} {fi : SemI} {cnd : SemT} {felt : SemE} (mi : MonoI fi) (mc : MonoT cnd) (me : MonoE felt) {σ : L2.St} {H : Hp} {Q : VK}
    (h : tOut X.K cl B W (fun env Q Er => fi env (fun ds env1 => noOwn env1 t.is ∧ lcL t.is t cnd felt ds env1 [] fun acc env2 => Q (.nw acc) (backE env1 env2 t.is)) Er) σ H Q) :
    tLc (tOutI X.K cl B W fi) (gOf X.K t) (tOutT X.K cl B (fun _ _ _ _ => False) cnd) (tOut X.K cl B (fun _ _ _ _ => False) felt) ((ownOf I t.is).map (·.2)) σ H Q := by
  obtain ⟨F, env, A, ok, h⟩ := h
  rw [own_map]
  refine ⟨F, env, A, ok, mi.ap h (fun ds env1 q J F1 H1 A1 g1 ok1 y => ?_) fun _ _ z => z⟩
  obtain ⟨no, q⟩ := q
  intro D hD
  have fD : F1 D = none := by
    cases z : F1 D with
    | none => rfl
    | some u => rw [ok1.sub _ _ z] at hD; cases hD
  have nD : D ∉ A1.flatten := fun m => ok1.tr D m hD
  -- the invariant
  let Inv' : Nat → Hp → Prop := fun i Hc => ∃ Fc envc Ac accV acc, Gr F1 H1 A1 Fc Hc Ac ∧ SOk X.K cl B Fc Hc (L2.wipe σ t.is) (wipeE envc t.is) Ac ∧ envc.length = σ.length ∧ Hc D = some (.lst accV) ∧ Fc D = none ∧ D ∉ Ac.flatten ∧ RepL X.K cl Fc accV acc ∧
    lcL t.is t cnd felt (ds.drop i) envc acc fun acc env2 => KQ X.K cl B F H A σ Q (.nw acc) (backE env1 env2 t.is)
  have wkeep : ∀ {Fc Hc envc Ac}, SOk X.K cl B Fc Hc (L2.wipe σ t.is) (wipeE envc t.is) Ac → envc.length = σ.length → Gr F1 H1 A1 Fc Hc Ac → SOk X.K cl B Fc Hc σ (backE env1 envc t.is) Ac := fun {Fc Hc envc Ac} okc hlen gc => by
    refine ⟨okc.sub, by rw [backE_length, hlen], by rw [okc.lenA, wipe_length], fun i sl w as h1 h2 h3 => ?_, okc.nd, okc.fr, okc.tr⟩
    by_cases m : i ∈ t.is
    · have hil : i < σ.length := (List.getElem?_eq_some_iff.mp h2).1
      rw [backE_in m (by rw [hlen]; exact hil)] at h1
      cases h1
      have as0 : as = [] := by
        have z : (wipeE envc t.is)[i]? = some .no := by
          have hw : ∀ {is : List Nat} {env : En}, i ∈ is → i < env.length → (wipeE env is)[i]? = some .no := by
            intro is
            induction is with
            | nil => intro env m; cases m
            | cons j is ih =>
              intro env m hl
              unfold wipeE
              by_cases e : j = i
              · subst e; rw [List.getElem?_set_self (by rw [wipeE_length]; exact hl)]
              · rw [List.getElem?_set_ne e]
                exact ih (by rcases List.mem_cons.mp m with m | m; exact absurd m.symm e; exact m) hl
          exact hw m (by rw [hlen]; exact hil)
        exact okc.slot i _ _ _ z (wipe_in m hil) h3
      subst as0
      have h1' : i < env1.length := by rw [ok1.len]; exact hil
      have no1 := no i m
      have e1 : env1[i]? = some env1[i] := List.getElem?_eq_getElem h1'
      rw [e1] at no1
      rw [e1]
      show RepS X.K cl B Fc Hc w [] (env1[i])
      obtain ⟨w', as', q1, q2, q3⟩ := ok1.at e1
      rw [h2] at q1; cases q1
      cases hsl : env1[i] with
      | no => exact rfl
      | fz d =>
        rw [hsl] at q3
        obtain ⟨_, x, e2, r⟩ := q3
        exact ⟨rfl, x, e2, r.mono gc.fr⟩
      | own k ds => rw [hsl] at no1; exact no1.elim
      | own2 dss => rw [hsl] at no1; exact no1.elim
      | ob C fs => rw [hsl] at no1; exact no1.elim
      | dic kvs => rw [hsl] at no1; exact no1.elim
      | dicF kvs =>
        rw [hsl] at q3
        obtain ⟨_, a, ks, e2, e4, r⟩ := q3
        exact ⟨rfl, a, ks, e2, rd_mono gc.fr e4, r.mono gc.fr⟩
    · rw [backE_out m] at h1
      exact okc.slot i sl w as (by rw [wipeE_out m]; exact h1) (by rw [wipe_out m]; exact h2) h3
  refine ⟨fun i m Hc => m = ds.length - i ∧ i ≤ ds.length ∧ Inv' i Hc, ⟨ds.length, by simp, Nat.zero_le _, F1, env1, wipeA A1 t.is, [], [], ?_, ?_, ok1.len, upd_same, fD, ?_, .nil, q⟩, ?_⟩
  · exact (Gr.lay hD).trans (gr_wipe _)
  · exact (ok1.lay hD).wipe _
  · intro m
    rcases (gr_wipe (F := F1) (H := H1) (A := A1) t.is).own D m with z | z
    · exact nD z
    · exact nD (by
        have sub : ∀ {is : List Nat} {a : Addr}, a ∈ (wipeA A1 is).flatten → a ∈ A1.flatten := by
          intro is
          induction is with
          | nil => intro a m; exact m
          | cons j is ih => intro a m; rcases fl_set m with m | m; exact ih m; cases m
        exact sub m)
  · rintro i m Hc ⟨rfl, hi', Fc, envc, Ac, accV, acc, gc, okc, hlen, hDc, fDc, nDc, rac, hL⟩
    by_cases hlt : i < ds.length
    · refine .inr ⟨(y.mono gc.fr).go i Hc hlt okc.sub, fun H' => Inv' (i + 1) H', fun H' z => ⟨ds.length - (i + 1), by omega, rfl, hlt, z⟩, fun x H' yl => ?_⟩
      obtain ⟨d, hd, alt⟩ := (y.mono gc.fr).yld i Hc x H' hlt okc.sub yl
      rw [List.drop_eq_getElem_cons hlt] at hL
      have ed : ds[i] = d := by
        rw [List.getElem?_eq_getElem hlt] at hd
        exact Option.some.inj hd
      rw [ed] at hL
      obtain ⟨envt, ht', hL⟩ := hL
      -- the item is there
      have item : ∃ F2, SOk X.K cl B F2 H' (L2.wipe σ t.is) (wipeE envc t.is) Ac ∧ Rep X.K cl F2 x d ∧ Gr Fc Hc Ac F2 H' Ac ∧ H' D = some (.lst accV) ∧ F2 D = none ∧ RepL X.K cl F2 accV acc := by
        rcases alt with ⟨e, r⟩ | ⟨p, vs, es, hp, e1, e2, e3, r⟩
        · subst e; exact ⟨Fc, okc, r, .refl .., hDc, fDc, rac⟩
        · subst e1 e2 e3
          have fp : Fc p = none := by
            cases z : Fc p with
            | none => rfl
            | some u => rw [okc.sub _ _ z] at hp; cases hp
          have pD : D ≠ p := fun e => by subst e; rw [hp] at hDc; cases hDc
          exact ⟨upd Fc p (.tup vs), okc.layF hp, .tup (SqT.of upd_same) (r.mono (upd_mono fp)), Gr.layF okc.sub hp, by rw [upd_ne pD]; exact hDc, by rw [upd_ne pD]; exact fDc, rac.mono (upd_mono fp)⟩
      obtain ⟨F2, ok2, rx, g2, hD2, fD2, rac2⟩ := item
      refine gOf_ok ok2 rx ht' fun σ3 A3 ok3 g3 w3 => ⟨?_, ?_⟩
      · rw [w3 t.is fun _ m => m]
        have : ∀ is : List Nat, L2.wipe (L2.wipe σ is) is = L2.wipe σ is := fun is => by
          apply List.ext_getElem?
          intro j
          by_cases m : j ∈ is
          · by_cases hl : j < σ.length
            · rw [wipe_in m (by rw [wipe_length]; exact hl), wipe_in m hl]
            · rw [List.getElem?_eq_none (by rw [wipe_length, wipe_length]; omega), List.getElem?_eq_none (by rw [wipe_length]; omega)]
          · rw [wipe_out m]
        exact this t.is
      · have nD3 : D ∉ A3.flatten := fun m => by
          rcases g3.own D m with z | z
          · exact nDc z
          · rw [hD2] at z; cases z
        have w3' : L2.wipe σ3 t.is = L2.wipe σ t.is := by
          rw [w3 t.is fun _ m => m]
          apply List.ext_getElem?
          intro j
          by_cases m : j ∈ t.is
          · by_cases hl : j < σ.length
            · rw [wipe_in m (by rw [wipe_length]; exact hl), wipe_in m hl]
            · rw [List.getElem?_eq_none (by rw [wipe_length, wipe_length]; omega), List.getElem?_eq_none (by rw [wipe_length]; omega)]
          · rw [wipe_out m]
        have len3 : σ3.length = σ.length := by
          have := congrArg List.length w3'
          rwa [wipe_length, wipe_length] at this
        refine ⟨F2, envt, A3, ok3, mc.ap hL (fun b envb hb F4 H4 A4 g4 ok4 => ?_) fun _ _ z => z.elim⟩
        have g14 := ((gc.trans g2).trans g3).trans g4
        have d4 := g4.fresh fD2 (by rw [hD2]; exact fun z => nomatch z) nD3
        have hD4 := g4.keep D _ hD2 nD3
        have rac4 := rac2.mono (g3.trans g4).fr
        cases b with
        | true =>
          simp only [if_true] at hb ⊢
          refine ⟨F4, envb, A4, ok4, me.ap hb (fun e enve he' v F5 H5 A5 g5 ok5 r5 => ?_) fun _ _ z => z.elim⟩
          obtain ⟨xd, env6, F6, A6, ⟨hz, hL6⟩, ok6, r6, g6⟩ := settle_ok ok5 r5 g5 he'
          have d6 := g6.fresh d4.1 (by rw [hD4]; exact fun z => nomatch z) d4.2
          have hD6 := g6.keep D _ hD4 d4.2
          refine ⟨accV, hD6, by rw [rac4.length]; exact hz, F6, env6, wipeA A6 t.is, accV ++ [v], acc ++ [xd], ?_, ?_, ?_, upd_same, d6.1, ?_, ?_, hL6⟩
          · have gg := g14.trans g6
            refine ⟨gg.fr, fun a o h n => ?_, gg.new, fun a m => ?_, fun a h => ?_, gg.nf⟩
            · rw [upd_ne (ne_of_none h hD)]; exact gg.keep a o h n
            · rcases (gr_wipe (F := F6) (H := H5) (A := A6) t.is).own a m with z | z
              · exact gg.own a z
              · exact .inr (gg.none z)
            · rw [upd_ne (fun e => by subst e; exact h hD)]; exact gg.stay a h
          · rw [← w3']
            exact (ok6.updT d6.1 d6.2).wipe _
          · rw [ok6.len, len3]
          · intro m
            rcases (gr_wipe (F := F6) (H := H5) (A := A6) t.is).own D m with z | z
            · exact d6.2 z
            · rw [hD6] at z; cases z
          · exact (rac4.mono g6.fr).append (.cons r6 .nil)
        | false =>
          simp only [Bool.false_eq_true, if_false] at hb ⊢
          refine ⟨F4, envb, wipeA A4 t.is, accV, acc, g14.trans (gr_wipe _), ?_, ?_, hD4, d4.1, ?_, rac4, hb⟩
          · rw [← w3']
            exact ok4.wipe _
          · rw [ok4.len, len3]
          · intro m
            rcases (gr_wipe (F := F4) (H := H4) (A := A4) t.is).own D m with z | z
            · exact d4.2 z
            · rw [hD4] at z; cases z
    · have e : i = ds.length := by omega
      subst e
      refine .inl ⟨(y.mono gc.fr).stop Hc okc.sub, ?_⟩
      rw [List.drop_length] at hL
      exact hL _ _ _ _ (g1.trans gc) (wkeep okc hlen gc) ⟨D, accV, rfl, fDc, hDc, rac, nDc, g1.none hD⟩
theorem fold_set {iter : Expr} (hs : notSet iter = true) : ∀ x, foldedSetIterable iter X.env x = pure x := fun x => by
  unfold foldedSetIterable
  cases iter <;> first | rfl | cases hs
theorem s_lc {t : Tg} {elt iter : Expr} {ifs : List Expr} {scope : Scope} {fi : SemI} {cnd : SemT} {felt : SemE} (hX : XOk X G cl I lv) (hi : OI X cl B W tg iter fi) (hb : blkC I.N I.sc scope (ownOf I t.is) = true) (hs : notSet iter = true)
    (hg : ∀ (s : Shared) (H : Hp) (C : Addr) (cl : List (Str × Addr)) (fp : List Addr), PG (X.blk s H scope (compEnvC scope cl C X.env) fp) tg (gOf X.K t))
    (ht : ∀ (s : Shared) (H : Hp) (C : Addr) (cl' : List (Str × Addr)) (fp : List Addr), PTs (X.blk s H scope (compEnvC scope cl' C X.env) fp) ifs (tOutT X.K cl B (fun _ _ _ _ => False) cnd))
    (he : ∀ (s : Shared) (H : Hp) (C : Addr) (cl' : List (Str × Addr)) (fp : List Addr), PE (X.blk s H scope (compEnvC scope cl' C X.env) fp) elt (tOut X.K cl B (fun _ _ _ _ => False) felt))
    (mi : MonoI fi) (mc : MonoT cnd) (me : MonoE felt) :
    OE X cl B W (.ListComp elt [⟨tg, iter, ifs, 0⟩] scope pos) (fun env Q Er => fi env (fun ds env1 => noOwn env1 t.is ∧ lcL t.is t cnd felt ds env1 [] fun acc env2 => Q (.nw acc) (backE env1 env2 t.is)) Er) :=
  PE.imp (pe_lc (own := ownOf I t.is) hX.calm (by rw [hX.N]; exact hX.nd) hi (by rw [hX.N, hX.sc]; exact blkOk_by hb) hg ht he (fold_set hs)) fun σ H Q h => lc_sem mi mc me h
/-- name = [..] on one line, the name a local -/
theorem s_setLc {i : Nat} {y : Str} {py spos : Pos} {t : Tg} {elt iter : Expr} {ifs : List Expr} {scope : Scope} {fi : SemI} {cnd : SemT} {felt : SemE} (hX : XOk X G cl I lv) (hi : OI X cl B W tg iter fi) (hb : blkC I.N I.sc scope (ownOf I t.is) = true) (hs : notSet iter = true)
    (hg : ∀ (s : Shared) (H : Hp) (C : Addr) (cl : List (Str × Addr)) (fp : List Addr), PG (X.blk s H scope (compEnvC scope cl C X.env) fp) tg (gOf X.K t))
    (ht : ∀ (s : Shared) (H : Hp) (C : Addr) (cl' : List (Str × Addr)) (fp : List Addr), PTs (X.blk s H scope (compEnvC scope cl' C X.env) fp) ifs (tOutT X.K cl B (fun _ _ _ _ => False) cnd))
    (he : ∀ (s : Shared) (H : Hp) (C : Addr) (cl' : List (Str × Addr)) (fp : List Addr), PE (X.blk s H scope (compEnvC scope cl' C X.env) fp) elt (tOut X.K cl B (fun _ _ _ _ => False) felt))
    (mi : MonoI fi) (mc : MonoT cnd) (me : MonoE felt) (h1 : I.N[i]? = some y) (h2 : loc I y = true) (hl : (py.line == pos.line) = true) (ha : (scope.names.any fun (n, k) => n == y && (k == .local || k == .cell)) = false) :
    PS X (.Assign [.Name y py] (.ListComp elt [⟨tg, iter, ifs, 0⟩] scope pos) spos) (tAsg (tOut X.K cl B W (fun env Q Er => fi env (fun ds env1 => noOwn env1 t.is ∧ lcL t.is t cnd felt ds env1 [] fun acc env2 => Q (.nw acc) (backE env1 env2 t.is)) Er)) (gName i)) :=
  PS.imp (ps_setLc (own := ownOf I t.is) hX.calm (by rw [hX.N]; exact hX.nd) (by rw [hX.N]; exact h1) (hX.loc h2) (sw_true (by rw [hX.sc]; exact hX.fk) (hX.loc h2) hl ha) hi (by rw [hX.N, hX.sc]; exact blkOk_by hb) hg ht he (fold_set hs)) fun D σ H h => lc_sem mi mc me h
end
end PF

set_option Elab.async false
set_option linter.all false
set_option maxRecDepth 100000
set_option maxHeartbeats 1000000
namespace PF
open PySem PySem.Spec PyProof.Rows L2
section
variable {X : Cx} {G : Tb} {cl : Str → Option Addr} {B : List Addr} {W : WX} {I : Info} {lv : Nat} {a b : Expr} {fa fb : SemE} {pos : Pos}
theorem repl_ints {K : PySem.W.Frag} {F : Hp} : ∀ (n : Nat) (lo : Int), RepL K cl F ((List.range n).map fun i => V.int (lo + (i : Nat))) (intsFrom lo n)
  | 0, _ => .nil
  | n + 1, lo => by
    rw [List.range_succ_eq_map, List.map_cons, List.map_map]
    show RepL K cl F (V.int (lo + ((0 : Nat) : Int)) :: _) (.int lo :: intsFrom (lo + 1) n)
    rw [show lo + ((0 : Nat) : Int) = lo by omega]
    refine .cons (.int _) ?_
    have := repl_ints (K := K) (F := F) n (lo + 1)
    have e : ((fun i : Nat => V.int (lo + (i : Nat))) ∘ Nat.succ) = fun i : Nat => V.int (lo + 1 + (i : Nat)) := by
      funext i
      show V.int _ = V.int _
      congr 1
      push_cast
      omega
    rw [e]
    exact this
theorem s_lrng2 {p p2 pos2 : Pos} (hX : XOk X G cl I lv) (hg1 : glb I "list" = true) (hg : glb I "range" = true) (hn : notStar a = true) (hn2 : notStar b = true) (ha : OE X cl B W a fa) (hb : OE X cl B W b fb) (ma : MonoE fa) (mb : MonoE fb) :
    OE X cl B W (.Call (.Name "list" p) [.Call (.Name "range" p2) [a, b] [] pos2] [] pos) (fun env Q Er => fa env (fun x env1 => fb env1 (fun y env2 => ∃ i j : Int, x = .d (.int i) ∧ y = .d (.int j) ∧ (-(2 ^ 62) ≤ i ∧ i < 2 ^ 62 ∧ -(2 ^ 62) ≤ j ∧ j < 2 ^ 62) ∧ (intsFrom i (j - i).toNat).length ≤ 100000 ∧ Q (.nw (intsFrom i (j - i).toNat)) env2) Er) Er) := by
  refine PE.imp (pe_listRg hX.calm (hX.gl hg1).1 (hX.gw.bi _ (by decide)) (prg_2 (hX.gl hg).1 (hX.gw.bi _ (by decide)) ha hb (by rw [star_cons hn, star_cons hn2]) (star_cons hn2) (by rw [star_cons hn2]; rfl)) rfl) fun σ H R ⟨F, env, A, ok, h⟩ => ?_
  refine step ma ok h fun ea env1 h1 v1 F1 H1 A1 g1 ok1 r1 => ?_
  refine step mb ok1 (mb.ap h1 (fun _ _ z => z) fun _ _ z => z.sh g1) fun eb env2 h2 v2 F2 H2 A2 g2 ok2 r2 => ?_
  obtain ⟨i, j, e, e', b1, hl, q⟩ := h2
  subst e e'
  cases r1; cases r2
  rw [intsFrom_length] at hl
  refine ⟨i, j, rfl, rfl, ⟨b1.1, b1.2.1, b1.2.2.1, b1.2.2.2, ?_⟩, give_nw (g1.trans g2) ok2 q (repl_ints _ _)⟩
  exact Nat.le_trans hl (by decide)
end
end PF

set_option Elab.async false
set_option linter.all false
set_option maxRecDepth 100000
set_option maxHeartbeats 1000000
namespace PF
open PySem PySem.Spec PyProof.Rows L2
section
variable {X : Cx} {G : Tb} {cl : Str → Option Addr} {B : List Addr} {W : WX} {I : Info} {lv : Nat} {a b : Expr} {fa fb : SemE} {pos p1 : Pos} {i : Nat} {y : Str}
theorem pe_slotD (hX : XOk X G cl I lv) (h1 : I.N[i]? = some y) (h2 : vis I y = true) (h3 : (y == ("__debug__" : Str)) = false) (h4 : (y == ("__classdict__" : Str)) = false) : PE X (.Name y pos) (tVar i) := by
  exact pe_var (by rw [hX.N]; exact h1) (hX.vis h2) h3 h4
theorem dic_ok {K : PySem.W.Frag} {F H : Hp} {σ : L2.St} {env : En} {A : List (List Addr)} {kvs : List (Int × D)} (ok : SOk K cl B F H σ env A) (h : dicAt env i = some kvs) :
    ∃ p ks, σ[i]? = some (some (.ref p)) ∧ Rd H p (.dK ks) ∧ RepK K cl F ks kvs := by
  unfold dicAt at h
  split at h
  · rename_i k he
    cases h
    obtain ⟨w, as, e1, e2, p, ks, e3, e4, e5, e6, r⟩ := ok.at he
    subst e3
    exact ⟨p, ks, e1, .inl e6, r⟩
  · rename_i k he
    cases h
    obtain ⟨w, as, e1, e2, e4, p, ks, e3, e6, r⟩ := ok.at he
    subst e3
    exact ⟨p, ks, e1, rd_mono ok.sub e6, r⟩
  · cases h
theorem dgetN {K : PySem.W.Frag} {F H : Hp} {p : Addr} {ks : List (Key × V)} {n : Int} (q : Rd H p (.dK ks)) : DGet H p (.int n) (valV ks (.inl n)) := .inl ⟨ks, .inl n, q, rfl, rfl⟩
theorem isNone_rep {K : PySem.W.Frag} {F : Hp} {ks : List (Key × V)} {kvs : List (Int × D)} {n : Int} (r : RepK K cl F ks kvs) : (!(valV ks (.inl n)).isSome) = (kvs.lookup n).isNone := by
  cases e : kvs.lookup n with
  | none => rw [r.miss e]; rfl
  | some d => obtain ⟨v, h1, _⟩ := r.hit e; rw [h1]; rfl
theorem s_dnin (hX : XOk X G cl I lv) (ha : OE X cl B W a fa) (ma : MonoE fa) (h1 : I.N[i]? = some y) (h2 : vis I y = true) (h3 : (y == ("__debug__" : Str)) = false) (h4 : (y == ("__classdict__" : Str)) = false) :
    OE X cl B W (.Compare a [.NotIn] [.Name y p1] pos) (fun env Q Er => fa env (fun ea env1 => ∃ n kvs, ea = .d (.int n) ∧ dicAt env1 i = some kvs ∧ Q (.d (.bl (kvs.lookup n).isNone)) env1) Er) := by
  refine PE.imp (pe_cmp (pc_dnotin (by have := hX.hu; omega) ha (pe_slotD hX h1 h2 h3 h4)) (mark_set rfl)) fun σ H Q ⟨F, env, A, ok, h⟩ => ?_
  refine step ma ok h fun ea env1 ⟨n, kvs, e1, e2, q⟩ v1 F1 H1 A1 g1 ok1 r1 => ?_
  subst e1
  cases r1
  obtain ⟨p, ks, w1, w2, w3⟩ := dic_ok ok1 e2
  refine ⟨_, w1, p, _, rfl, dgetN (K := X.K) (F := F1) w2, ?_⟩
  rw [isNone_rep w3]
  exact give_d g1 ok1 q (.bl _)
theorem s_dninT (hX : XOk X G cl I lv) (ha : OE X cl B W a fa) (ma : MonoE fa) (h1 : I.N[i]? = some y) (h2 : vis I y = true) (h3 : (y == ("__debug__" : Str)) = false) (h4 : (y == ("__classdict__" : Str)) = false) :
    OT X cl B W (.Compare a [.NotIn] [.Name y p1] pos) (truS fun env Q Er => fa env (fun ea env1 => ∃ n kvs, ea = .d (.int n) ∧ dicAt env1 i = some kvs ∧ Q (.d (.bl (kvs.lookup n).isNone)) env1) Er) := by
  refine PT.imp (pt_cmp (pc_dnotin (by have := hX.hu; omega) ha (pe_slotD hX h1 h2 h3 h4)) (mark_set rfl)) fun σ H Q ⟨F, env, A, ok, h⟩ => ?_
  refine step ma ok h fun ea env1 ⟨n, kvs, e1, e2, q⟩ v1 F1 H1 A1 g1 ok1 r1 => ?_
  subst e1
  cases r1
  obtain ⟨p, ks, w1, w2, w3⟩ := dic_ok ok1 e2
  refine ⟨_, w1, p, _, rfl, dgetN (K := X.K) (F := F1) w2, ?_⟩
  rw [isNone_rep w3]
  exact ⟨_, rfl, q _ _ _ g1 ok1⟩
theorem noSl_of {e : Expr} (h : notSlice e = true) : NoSl e := by
  intro o i
  cases e <;> first | rfl | cases h
theorem s_dget (hX : XOk X G cl I lv) (ha : OE X cl B W a fa) (ma : MonoE fa) (h1 : I.N[i]? = some y) (h2 : vis I y = true) (h3 : (y == ("__debug__" : Str)) = false) (h4 : (y == ("__classdict__" : Str)) = false) (hn : notSlice a = true) :
    OE X cl B W (.Subscript (.Name y p1) a pos) (fun env Q Er => (∃ kvs, dicAt env i = some kvs) ∧ fa env (fun ea env1 => ∃ n kvs d, ea = .d (.int n) ∧ dicAt env1 i = some kvs ∧ kvs.lookup n = some d ∧ Q (.d d) env1) Er) := by
  refine PE.imp (pe_dget (by have := hX.hu; omega) (pe_slotD hX h1 h2 h3 h4) ha (noSl_of hn)) fun σ H Q ⟨F, env, A, ok, ⟨kv0, h0⟩, h⟩ => ?_
  obtain ⟨p0, ks0, w0, _, _⟩ := dic_ok ok h0
  refine ⟨_, w0, ?_⟩
  refine step ma ok h fun ea env1 ⟨n, kvs, d, e1, e2, e3, q⟩ v1 F1 H1 A1 g1 ok1 r1 => ?_
  subst e1
  cases r1
  obtain ⟨p, ks, w1, w2, w3⟩ := dic_ok ok1 e2
  rw [w0] at w1
  cases w1
  obtain ⟨v, l1, rv⟩ := w3.hit e3
  refine ⟨p0, v, rfl, ?_, give_d g1 ok1 q rv⟩
  rw [← l1]
  exact dgetN (K := X.K) (F := F1) w2
end
end PF

set_option Elab.async false
set_option linter.all false
set_option maxRecDepth 100000
set_option maxHeartbeats 4000000

namespace PF
open PySem PySem.Spec PyProof.Rows L2

def notSuper : Expr → Bool | .Call (.Name _ _) [] [] _ => false | _ => true
def blkI (I : Info) (sc : Scope) : Info := { N := I.N, sc := relS sc I.sc, fn := fun x => match sc.names.lookup x with | some .cell => true | _ => false, gc := I.gc }
def isR2 : It → Bool | .rng2 _ _ => true | _ => false
mutual
def chk : E → Info → Expr → Bool
  | .cst c => fun _ x => match x with | .Constant k _ _ => cstEq c k | _ => false
  | .var i => fun I x => match x with | .Name x _ => decide (I.N[i]? = some x) && vis I x && !(x == ("__debug__" : Str)) && !(x == ("__classdict__" : Str)) | _ => false
  | .glob y => fun I x => match x with | .Name x _ => decide (x = y) && glb I x | _ => false
  | .bin op a b => fun I x => match x with | .BinOp l o r _ => decide (o = op.py) && chk a I l && chk b I r | _ => false
  | .neg a => fun I x => match x with | .UnaryOp o x _ => decide (o = .USub) && chk a I x | _ => false
  | .cmp op a b => fun I x => match x with | .Compare l [o] [r] _ => decide (o = op.py) && notSet r && chk a I l && chk b I r | _ => false
  | .chain o1 o2 a b c => fun I x => match x with | .Compare l [p1, p2] [m, r] _ => decide (p1 = o1.py) && decide (p2 = o2.py) && notSet r && chk a I l && chk b I m && chk c I r | _ => false
  | .band l => fun I x => match x with | .BoolOp o vs _ => decide (o = .And) && chkB l I vs | _ => false
  | .bor l => fun I x => match x with | .BoolOp o vs _ => decide (o = .Or) && chkB l I vs | _ => false
  | .bnot a => fun I x => match x with | .UnaryOp o x _ => decide (o = .Not) && chk a I x | _ => false
  | .ife c a b => fun I x => match x with | .IfExp t x y _ => chk c I t && chk a I x && chk b I y | _ => false
  | .call f l => fun I x => match x with | .Call (.Name x _) (e :: es) [] _ => decide (x = f) && glb I x && (e :: es).all notStar && chkL l I (e :: es) | .Call (.Name x _) [] [] _ => decide (x = f) && glb I x && (match l with | .nil => true | _ => false) | _ => false
  | .mk f l => fun I x => match x with | .Call (.Name x _) (e :: es) [] _ => decide (x = f) && glb I x && (e :: es).all notStar && chkL l I (e :: es) | _ => false
  | .meth m o l => fun I x => match x with | .Call (.Attribute x n ap) es [] p => decide (n = m) && notSuper x && es.all notStar && fewArgs es && (ap.endLine == p.line) && chk o I x && chkL l I es | _ => false
  | .bi f l => fun I x => match x with | .Call (.Name x _) (e :: es) [] _ => decide (x = f.nm) && glb I x && (match f with | .gcd => I.gc | _ => true) && (e :: es).all notStar && chkL l I (e :: es) | _ => false
  | .isi a ty => fun I x => match x with | .Call (.Name x _) [e, .Name t _] [] _ => decide (x = "isinstance") && decide (t = ty) && glb I "isinstance" && notStar e && (clsV ty).isSome && glb I ty && chk a I e | _ => false
  | .attr o f => fun I x => match x with | .Attribute x n _ => decide (n = f) && notSuper x && chk o I x | _ => false
  | .ix a b => fun I x => match x with | .Subscript x i _ => notSlice i && chk a I x && chk b I i | _ => false
  | .sl a lo hi => fun I x => match x with | .Subscript x (.Slice l h none _) _ => chk a I x && chkO lo I l && chkO hi I h | _ => false
  | .tup l => fun I x => match x with | .Tuple es _ _ => es.all notStar && chkL l I es | _ => false
  | .lst l => fun I x => match x with | .List es _ => es.all notStar && chkL l I es | _ => false
  | .lst2 l => fun I x => match x with | .List es _ => es.all notStar && chkL l I es | _ => false
  | .lc tg it cnd elt => fun I x => match x with | .ListComp x [⟨t, i, ifs, as⟩] sc _ => decide (as = 0) && notSet i && blkC I.N I.sc sc (ownOf I tg.is) && chkI it I t i && chkTg (blkI I sc) tg t && chkC cnd (blkI I sc) ifs && chk elt (blkI I sc) x | _ => false
  | .callN f l => fun I x => match x with | .Call (.Name x _) (e :: es) [] _ => decide (x = f) && glb I x && (e :: es).all notStar && chkL l I (e :: es) | _ => false
  | .dnin a i => fun I x => match x with | .Compare l [o] [.Name y _] _ => decide (o = .NotIn) && decide (I.N[i]? = some y) && vis I y && !(y == ("__debug__" : Str)) && !(y == ("__classdict__" : Str)) && chk a I l | _ => false
  | .dget i a => fun I x => match x with | .Subscript (.Name y _) s _ => notSlice s && decide (I.N[i]? = some y) && vis I y && !(y == ("__debug__" : Str)) && !(y == ("__classdict__" : Str)) && chk a I s | _ => false
  | .lrng it => fun I x => match x with | .Call (.Name x _) [y] [] _ => decide (x = "list") && glb I "list" && isR2 it && chkI it I y y | _ => false
def chkL : EL → Info → List Expr → Bool
  | .nil => fun _ xs => match xs with | [] => true | _ => false
  | .cons e l => fun I xs => match xs with | x :: xs => chk e I x && chkL l I xs | _ => false
/-- operands of and, or: one at least -/
def chkB : EL → Info → List Expr → Bool
  | .nil => fun _ _ => false
  | .cons e .nil => fun I xs => match xs with | [x] => chk e I x | _ => false
  | .cons e (.cons e' l) => fun I xs => match xs with | x :: y :: xs => chk e I x && chkB (.cons e' l) I (y :: xs) | _ => false
def chkO : EO → Info → Option Expr → Bool
  | .none => fun _ x => match x with | none => true | _ => false
  | .some e => fun I x => match x with | some x => chk e I x | _ => false
def chkC : EL → Info → List Expr → Bool
  | .nil => fun _ xs => match xs with | [] => true | _ => false
  | .cons e .nil => fun I xs => match xs with | [x] => chk e I x | _ => false
  | .cons _ (.cons _ _) => fun _ _ => false
def chkI : It → Info → Expr → Expr → Bool
  | .of e => fun I _ x => chk e I x
  | .rng1 a => fun I _ x => match x with | .Call (.Name x _) [e] [] _ => decide (x = "range") && glb I "range" && notStar e && chk a I e | _ => false
  | .rng2 a b => fun I _ x => match x with | .Call (.Name x _) [e, f] [] _ => decide (x = "range") && glb I "range" && notStar e && notStar f && chk a I e && chk b I f | _ => false
  | .enum a => fun I t x => match t with | .Tuple _ _ _ => (match x with | .Call (.Name x _) [e] [] _ => decide (x = "enumerate") && glb I "enumerate" && notStar e && chk a I e | _ => false) | _ => false
  | .zip a b => fun I t x => match t with | .Tuple _ _ _ => (match x with | .Call (.Name x _) [e, f] [] _ => decide (x = "zip") && glb I "zip" && notStar e && notStar f && chk a I e && chk b I f | _ => false) | _ => false
end

theorem XOk.blk {X : Cx} {G : Tb} {cl : Str → Option Addr} {I : Info} {lv : Nat} {sc : Scope} {own : List (Str × Nat)} (hX : XOk X G cl I lv) (hb : blkC I.N I.sc sc own = true) (s : Shared) (H : Hp) (C : Addr) (c : List (Str × Addr)) (fp : List Addr) :
    XOk (X.blk s H sc (compEnvC sc c C X.env) fp) G cl (blkI I sc) lv where
  N := hX.N
  nd := hX.nd
  sc := by
    show relS sc X.env.scope = relS sc I.sc
    rw [hX.sc]
  fn := fun x h => by
    show (sc.names.lookup x == some NameKind.cell) = true
    have h' : (match sc.names.lookup x with | some .cell => true | _ => false) = true := h
    split at h'
    · rename_i e; rw [e]; rfl
    · cases h'
  gc := hX.gc
  fk := (blkOk_by hb).kind
  calm := hX.calm
  room := hX.room
  gw := hX.gw

structure Snd (G : Tb) (e : E) : Prop where
  v : ∀ (X : Cx) (cl : Str → Option Addr) (B : List Addr) (W : WX) (I : Info) (lv : Nat) (x : Expr), XOk X G cl I lv → Takes X W → chk e I x = true → OE X cl B W x (ev G e).1
  t : ∀ (X : Cx) (cl : Str → Option Addr) (B : List Addr) (W : WX) (I : Info) (lv : Nat) (x : Expr), XOk X G cl I lv → Takes X W → chk e I x = true → OT X cl B W x (ev G e).2
/-- a test that has no meaning -/
theorem s_noT {X : Cx} {cl : Str → Option Addr} {B : List Addr} {W : WX} {x : Expr} : OT X cl B W x (fun _ _ _ => False) := ⟨fun _ _ _ _ _ _ ⟨_, _, _, _, z⟩ => z.elim⟩
section
variable {G : Tb}
theorem Snd.plain {e : E} (hv : ∀ (X : Cx) (cl : Str → Option Addr) (B : List Addr) (W : WX) (I : Info) (lv : Nat) (x : Expr), XOk X G cl I lv → Takes X W → chk e I x = true → OE X cl B W x (ev G e).1 ∧ plainT x = true)
    (ht : (ev G e).2 = truS (ev G e).1) : Snd G e :=
  ⟨fun X cl B W I lv x a b c => (hv X cl B W I lv x a b c).1, fun X cl B W I lv x a b c => by rw [ht]; exact s_truth (hv X cl B W I lv x a b c).2 (hv X cl B W I lv x a b c).1 (ev_mono e).1⟩
theorem takesF {X : Cx} : Takes X (fun _ _ _ _ => False) := fun _ _ x => by
  obtain ⟨_, _, _, _, _, _, _, _, _, _, _, _, _, _, _, _, z⟩ := x
  exact z.elim

abbrev VCtx (P : Cx → (Str → Option Addr) → List Addr → WX → Info → Nat → Prop) : Prop := ∀ (X : Cx) (cl : Str → Option Addr) (B : List Addr) (W : WX) (I : Info) (lv : Nat), P X cl B W I lv
structure SndL (G : Tb) (l : EL) : Prop where
  L : ∀ (X : Cx) (cl : Str → Option Addr) (B : List Addr) (W : WX) (I : Info) (lv : Nat) (xs : List Expr), XOk X G cl I lv → Takes X W → xs.all notStar = true → chkL l I xs = true → OL X cl B W xs (evL G l)
  M : ∀ (X : Cx) (cl : Str → Option Addr) (B : List Addr) (W : WX) (I : Info) (lv : Nat) (xs : List Expr), XOk X G cl I lv → Takes X W → xs.all notStar = true → chkL l I xs = true → OM X cl B W xs (evM G l)
  A : ∀ (X : Cx) (cl : Str → Option Addr) (B : List Addr) (W : WX) (I : Info) (lv : Nat) (xs : List Expr), XOk X G cl I lv → Takes X W → xs.all notStar = true → chkL l I xs = true → ∀ ms, OA X cl B W xs (evA G l ms)
  C : ∀ (X : Cx) (cl : Str → Option Addr) (B : List Addr) (I : Info) (lv : Nat) (xs : List Expr), XOk X G cl I lv → chkC l I xs = true → PTs X xs (tOutT X.K cl B (fun _ _ _ _ => False) (evC G l))
  av : ∀ (X : Cx) (cl : Str → Option Addr) (B : List Addr) (W : WX) (I : Info) (lv : Nat) (xs : List Expr) (p : Pos), XOk X G cl I lv → Takes X W → chkB l I xs = true → OE X cl B W (.BoolOp .And xs p) (evAndV G l)
  ov : ∀ (X : Cx) (cl : Str → Option Addr) (B : List Addr) (W : WX) (I : Info) (lv : Nat) (xs : List Expr) (p : Pos), XOk X G cl I lv → Takes X W → chkB l I xs = true → OE X cl B W (.BoolOp .Or xs p) (evOrV G l)
  at_ : ∀ (X : Cx) (cl : Str → Option Addr) (B : List Addr) (W : WX) (I : Info) (lv : Nat) (xs : List Expr) (p : Pos), XOk X G cl I lv → Takes X W → chkB l I xs = true → OW X cl B W (.BoolOp .And xs p) (evAndT G l)
  ot : ∀ (X : Cx) (cl : Str → Option Addr) (B : List Addr) (W : WX) (I : Info) (lv : Nat) (xs : List Expr) (p : Pos), XOk X G cl I lv → Takes X W → chkB l I xs = true → OW X cl B W (.BoolOp .Or xs p) (evOrT G l)
structure SndO (G : Tb) (l : EO) : Prop where
  o : ∀ (X : Cx) (cl : Str → Option Addr) (B : List Addr) (W : WX) (I : Info) (lv : Nat) (x : Option Expr), XOk X G cl I lv → Takes X W → chkO l I x = true → OO X cl B W x (evO G l)
structure SndI (G : Tb) (l : It) : Prop where
  i : ∀ (X : Cx) (cl : Str → Option Addr) (B : List Addr) (W : WX) (I : Info) (lv : Nat) (t x : Expr), XOk X G cl I lv → Takes X W → chkI l I t x = true → OI X cl B W t x (evI G l)
  l : ∀ (X : Cx) (cl : Str → Option Addr) (B : List Addr) (W : WX) (I : Info) (lv : Nat) (x : Expr) (p pos : Pos), XOk X G cl I lv → Takes X W → isR2 l = true → glb I "list" = true → chkI l I x x = true → OE X cl B W (.Call (.Name "list" p) [x] [] pos) (ev G (.lrng l)).1
theorem snd_cst (c : Cst) : Snd G (.cst c) :=
  Snd.plain (fun X cl B W I lv x hX tk h => by
      cases x with
      | Constant k j p => exact ⟨s_cst h, rfl⟩
      | _ => cases h) rfl
theorem snd_var (i : Nat) : Snd G (.var i) :=
  Snd.plain (fun X cl B W I lv x hX tk h => by
      cases x with
      | Name y p =>
        simp only [chk, Bool.and_eq_true, decide_eq_true_eq, Bool.not_eq_true'] at h
        exact ⟨s_var hX h.1.1.1 h.1.1.2 h.1.2 h.2, rfl⟩
      | _ => cases h) rfl
theorem snd_glob (y : Str) : Snd G (.glob y) :=
  Snd.plain (fun X cl B W I lv x hX tk h => by
      cases x with
      | Name y p =>
        simp only [chk, Bool.and_eq_true, decide_eq_true_eq] at h
        obtain ⟨h1, h2⟩ := h
        subst h1
        exact ⟨s_glob hX h2, rfl⟩
      | _ => cases h) rfl
theorem snd_bin (op : Bop) {a : E} {b : E} (ha : Snd G a) (hb : Snd G b) : Snd G (.bin op a b) :=
  Snd.plain (fun X cl B W I lv x hX tk h => by
      cases x with
      | BinOp l o r p =>
        simp only [chk, Bool.and_eq_true, decide_eq_true_eq] at h
        obtain ⟨⟨h1, h2⟩, h3⟩ := h
        subst h1
        exact ⟨s_bin (ha.v X cl B W I lv _ hX tk h2) (hb.v X cl B W I lv _ hX tk h3) (ev_mono a).1 (ev_mono b).1, rfl⟩
      | _ => cases h) rfl
theorem snd_neg {a : E} (ha : Snd G a) : Snd G (.neg a) :=
  Snd.plain (fun X cl B W I lv x hX tk h => by
      cases x with
      | UnaryOp o y p =>
        simp only [chk, Bool.and_eq_true, decide_eq_true_eq] at h
        obtain ⟨h1, h2⟩ := h
        subst h1
        exact ⟨s_neg (ha.v X cl B W I lv _ hX tk h2) (ev_mono a).1, rfl⟩
      | _ => cases h) rfl
theorem snd_cmp (op : Cop) {a : E} {b : E} (ha : Snd G a) (hb : Snd G b) : Snd G (.cmp op a b) :=
  by
    have g : ∀ {I x}, chk (.cmp op a b) I x = true → ∃ l r p, x = .Compare l [op.py] [r] p ∧ notSet r = true ∧ chk a I l = true ∧ chk b I r = true := fun {I x} h => by
      cases x with
      | Compare l os rs p =>
        match os, rs, h with
        | [o], [r], h =>
          simp only [chk, Bool.and_eq_true, decide_eq_true_eq] at h
          obtain ⟨⟨⟨h1, h2⟩, h3⟩, h4⟩ := h
          subst h1
          exact ⟨l, r, p, rfl, h2, h3, h4⟩
      | _ => cases h
    refine ⟨fun X cl B W I lv x hX tk h => ?_, fun X cl B W I lv x hX tk h => ?_⟩
    · obtain ⟨l, r, p, e, h2, h3, h4⟩ := g h
      subst e
      exact s_cmp hX h2 (ha.v X cl B W I lv _ hX tk h3) (hb.v X cl B W I lv _ hX tk h4) (ev_mono a).1 (ev_mono b).1
    · obtain ⟨l, r, p, e, h2, h3, h4⟩ := g h
      subst e
      exact s_cmpT hX h2 (ha.v X cl B W I lv _ hX tk h3) (hb.v X cl B W I lv _ hX tk h4) (ev_mono a).1 (ev_mono b).1
theorem snd_chain (o1 : Cop) (o2 : Cop) {a : E} {b : E} {c : E} (ha : Snd G a) (hb : Snd G b) (hc : Snd G c) : Snd G (.chain o1 o2 a b c) :=
  by
    have g : ∀ {I x}, chk (.chain o1 o2 a b c) I x = true → ∃ l m r p, x = .Compare l [o1.py, o2.py] [m, r] p ∧ notSet r = true ∧ chk a I l = true ∧ chk b I m = true ∧ chk c I r = true := fun {I x} h => by
      cases x with
      | Compare l os rs p =>
        match os, rs, h with
        | [q1, q2], [m, r], h =>
          simp only [chk, Bool.and_eq_true, decide_eq_true_eq] at h
          obtain ⟨⟨⟨⟨⟨h1, h2⟩, h3⟩, h4⟩, h5⟩, h6⟩ := h
          subst h1 h2
          exact ⟨l, m, r, p, rfl, h3, h4, h5, h6⟩
      | _ => cases h
    refine ⟨fun X cl B W I lv x hX tk h => ?_, fun X cl B W I lv x hX tk h => ?_⟩
    · obtain ⟨l, m, r, p, e, h3, h4, h5, h6⟩ := g h
      subst e
      exact s_chain hX h3 (ha.v X cl B W I lv _ hX tk h4) (hb.v X cl B W I lv _ hX tk h5) (hc.v X cl B W I lv _ hX tk h6) (ev_mono a).1 (ev_mono b).1 (ev_mono c).1
    · obtain ⟨l, m, r, p, e, h3, h4, h5, h6⟩ := g h
      subst e
      exact s_chainT hX h3 (ha.v X cl B W I lv _ hX tk h4) (hb.v X cl B W I lv _ hX tk h5) (hc.v X cl B W I lv _ hX tk h6) (ev_mono a).1 (ev_mono b).1 (ev_mono c).1
theorem snd_band {l : EL} (hl : SndL G l) : Snd G (.band l) :=
  by
    have g : ∀ {I x}, chk (.band l) I x = true → ∃ vs p, x = .BoolOp .And vs p ∧ chkB l I vs = true := fun {I x} h => by
      cases x with
      | BoolOp o vs p =>
        simp only [chk, Bool.and_eq_true, decide_eq_true_eq] at h
        obtain ⟨h1, h2⟩ := h
        subst h1
        exact ⟨vs, p, rfl, h2⟩
      | _ => cases h
    refine ⟨fun X cl B W I lv x hX tk h => ?_, fun X cl B W I lv x hX tk h => ?_⟩
    · obtain ⟨vs, p, e, h2⟩ := g h
      subst e
      exact hl.av X cl B W I lv _ _ hX tk h2
    · obtain ⟨vs, p, e, h2⟩ := g h
      subst e
      exact PW.pt (hl.at_ X cl B W I lv _ _ hX tk h2)
theorem snd_bor {l : EL} (hl : SndL G l) : Snd G (.bor l) :=
  by
    have g : ∀ {I x}, chk (.bor l) I x = true → ∃ vs p, x = .BoolOp .Or vs p ∧ chkB l I vs = true := fun {I x} h => by
      cases x with
      | BoolOp o vs p =>
        simp only [chk, Bool.and_eq_true, decide_eq_true_eq] at h
        obtain ⟨h1, h2⟩ := h
        subst h1
        exact ⟨vs, p, rfl, h2⟩
      | _ => cases h
    refine ⟨fun X cl B W I lv x hX tk h => ?_, fun X cl B W I lv x hX tk h => ?_⟩
    · obtain ⟨vs, p, e, h2⟩ := g h
      subst e
      exact hl.ov X cl B W I lv _ _ hX tk h2
    · obtain ⟨vs, p, e, h2⟩ := g h
      subst e
      exact PW.pt (hl.ot X cl B W I lv _ _ hX tk h2)
theorem snd_bnot {a : E} (ha : Snd G a) : Snd G (.bnot a) :=
  by
    have g : ∀ {I x}, chk (.bnot a) I x = true → ∃ y p, x = .UnaryOp .Not y p ∧ chk a I y = true := fun {I x} h => by
      cases x with
      | UnaryOp o y p =>
        simp only [chk, Bool.and_eq_true, decide_eq_true_eq] at h
        obtain ⟨h1, h2⟩ := h
        subst h1
        exact ⟨y, p, rfl, h2⟩
      | _ => cases h
    refine ⟨fun X cl B W I lv x hX tk h => ?_, fun X cl B W I lv x hX tk h => ?_⟩
    · obtain ⟨y, p, e, h2⟩ := g h
      subst e
      exact s_notV (ha.v X cl B W I lv _ hX tk h2) (ev_mono a).1
    · obtain ⟨y, p, e, h2⟩ := g h
      subst e
      exact s_notT (ha.t X cl B W I lv _ hX tk h2) (ev_mono a).2
theorem snd_ife {c : E} {a : E} {b : E} (hc : Snd G c) (ha : Snd G a) (hb : Snd G b) : Snd G (.ife c a b) :=
  ⟨(fun X cl B W I lv x hX tk h => by
      cases x with
      | IfExp t y z p =>
        simp only [chk, Bool.and_eq_true] at h
        obtain ⟨⟨h1, h2⟩, h3⟩ := h
        exact s_ife (hc.t X cl B W I lv _ hX tk h1) (ha.v X cl B W I lv _ hX tk h2) (hb.v X cl B W I lv _ hX tk h3) (ev_mono c).2 (ev_mono a).1 (ev_mono b).1
      | _ => cases h), fun _ _ _ _ _ _ _ _ _ _ => s_noT⟩
theorem snd_call (f : Str) {l : EL} (hl : SndL G l) : Snd G (.call f l) :=
  Snd.plain (fun X cl B W I lv x hX tk h => by
      cases x with
      | Call g es ks p =>
        match g, es, ks, h with
        | .Name y _, e :: es, [], h =>
          simp only [chk, Bool.and_eq_true, decide_eq_true_eq] at h
          obtain ⟨⟨⟨h1, h2⟩, h3⟩, h4⟩ := h
          subst h1
          exact ⟨s_call (fl := evA G l) hX tk h2 (by simpa using h3) (fun ms => hl.A X cl B W I lv _ hX tk (by simpa using h3) h4 ms) (evA_mono l), rfl⟩
        | .Name y _, [], [], h =>
          cases l with
          | nil =>
            simp only [chk, Bool.and_eq_true, decide_eq_true_eq] at h
            obtain ⟨⟨h1, h2⟩, _⟩ := h
            subst h1
            exact ⟨s_call0 hX tk h2, rfl⟩
          | cons _ _ => simp [chk] at h
      | _ => cases h) rfl
theorem snd_mk (f : Str) {l : EL} (hl : SndL G l) : Snd G (.mk f l) :=
  Snd.plain (fun X cl B W I lv x hX tk h => by
      cases x with
      | Call g es ks p =>
        match g, es, ks, h with
        | .Name y _, e :: es, [], h =>
          simp only [chk, Bool.and_eq_true, decide_eq_true_eq] at h
          obtain ⟨⟨⟨h1, h2⟩, h3⟩, h4⟩ := h
          subst h1
          exact ⟨s_mk hX tk h2 (by simpa using h3) (hl.M X cl B W I lv _ hX tk (by simpa using h3) h4) (evM_mono l), rfl⟩
      | _ => cases h) rfl
theorem snd_callN (f : Str) {l : EL} (hl : SndL G l) : Snd G (.callN f l) :=
  Snd.plain (fun X cl B W I lv x hX tk h => by
      cases x with
      | Call g es ks p =>
        match g, es, ks, h with
        | .Name y _, e :: es, [], h =>
          simp only [chk, Bool.and_eq_true, decide_eq_true_eq] at h
          obtain ⟨⟨⟨h1, h2⟩, h3⟩, h4⟩ := h
          subst h1
          exact ⟨s_callN hX tk h2 (by simpa using h3) (hl.M X cl B W I lv _ hX tk (by simpa using h3) h4) (evM_mono l), rfl⟩
      | _ => cases h) rfl
theorem snd_meth (m : Str) {o : E} {l : EL} (ho : Snd G o) (hl : SndL G l) : Snd G (.meth m o l) :=
  Snd.plain (fun X cl B W I lv x hX tk h => by
      cases x with
      | Call g es ks p =>
        match g, ks, h with
        | .Attribute y n ap, [], h =>
          simp only [chk, Bool.and_eq_true, decide_eq_true_eq] at h
          obtain ⟨⟨⟨⟨⟨⟨h1, h2⟩, h3⟩, h4⟩, h5⟩, h6⟩, h7⟩ := h
          subst h1
          refine ⟨s_meth hX tk h2 h3 h4 h5 (ho.v X cl B W I lv _ hX tk h6) (hl.M X cl B W I lv _ hX tk h3 h7) (ev_mono o).1 (evM_mono l) (fun e => ?_), rfl⟩
          subst e
          cases l with
          | nil => rfl
          | cons _ _ => cases h7
      | _ => cases h) rfl
theorem snd_bi (f : Bi) {l : EL} (hl : SndL G l) : Snd G (.bi f l) :=
  Snd.plain (fun X cl B W I lv x hX tk h => by
      cases x with
      | Call g es ks p =>
        match g, es, ks, h with
        | .Name y _, e :: es, [], h =>
          simp only [chk, Bool.and_eq_true, decide_eq_true_eq] at h
          obtain ⟨⟨⟨⟨h1, h2⟩, h0⟩, h3⟩, h4⟩ := h
          subst h1
          refine ⟨s_bi hX h2 (fun e => hX.gc ?_) (by simpa using h3) (hl.L X cl B W I lv _ hX tk (by simpa using h3) h4) (evL_mono l), rfl⟩
          · subst e; exact h0
      | _ => cases h) rfl
theorem snd_isi {a : E} (ty : Str) (ha : Snd G a) : Snd G (.isi a ty) :=
  Snd.plain (fun X cl B W I lv x hX tk h => by
      cases x with
      | Call g es ks p =>
        match g, es, ks, h with
        | .Name y _, [e, .Name t _], [], h =>
          simp only [chk, Bool.and_eq_true, decide_eq_true_eq] at h
          obtain ⟨⟨⟨⟨⟨⟨h1, h2⟩, h3⟩, h4⟩, h5⟩, h6⟩, h7⟩ := h
          subst h1 h2
          exact ⟨s_isi hX h3 h4 h5 h6 (ha.v X cl B W I lv _ hX tk h7) (ev_mono a).1, rfl⟩
      | _ => cases h) rfl
theorem snd_attr {o : E} (f : Str) (ho : Snd G o) : Snd G (.attr o f) :=
  Snd.plain (fun X cl B W I lv x hX tk h => by
      cases x with
      | Attribute y n p =>
        simp only [chk, Bool.and_eq_true, decide_eq_true_eq] at h
        obtain ⟨⟨h1, h2⟩, h3⟩ := h
        subst h1
        exact ⟨s_attr hX h2 (ho.v X cl B W I lv _ hX tk h3) (ev_mono o).1, rfl⟩
      | _ => cases h) rfl
theorem snd_ix {a : E} {b : E} (ha : Snd G a) (hb : Snd G b) : Snd G (.ix a b) :=
  Snd.plain (fun X cl B W I lv x hX tk h => by
      cases x with
      | Subscript y i p =>
        simp only [chk, Bool.and_eq_true] at h
        obtain ⟨⟨h1, h2⟩, h3⟩ := h
        exact ⟨s_ix h1 (ha.v X cl B W I lv _ hX tk h2) (hb.v X cl B W I lv _ hX tk h3) (ev_mono a).1 (ev_mono b).1, rfl⟩
      | _ => cases h) rfl
theorem snd_sl {a : E} {lo : EO} {hi : EO} (ha : Snd G a) (hlo : SndO G lo) (hhi : SndO G hi) : Snd G (.sl a lo hi) :=
  Snd.plain (fun X cl B W I lv x hX tk h => by
      cases x with
      | Subscript y i p =>
        match i, h with
        | .Slice l hh none _, h =>
          simp only [chk, Bool.and_eq_true] at h
          obtain ⟨⟨h1, h2⟩, h3⟩ := h
          exact ⟨s_sl (ha.v X cl B W I lv _ hX tk h1) (hlo.o X cl B W I lv _ hX tk h2) (hhi.o X cl B W I lv _ hX tk h3) (ev_mono a).1 (evO_mono lo) (evO_mono hi), rfl⟩
      | _ => cases h) rfl
theorem snd_tup {l : EL} (hl : SndL G l) : Snd G (.tup l) :=
  Snd.plain (fun X cl B W I lv x hX tk h => by
      cases x with
      | Tuple es k p =>
        simp only [chk, Bool.and_eq_true] at h
        exact ⟨s_tup (hl.M X cl B W I lv _ hX tk h.1 h.2) (evM_mono l), rfl⟩
      | _ => cases h) rfl
theorem snd_lst {l : EL} (hl : SndL G l) : Snd G (.lst l) :=
  Snd.plain (fun X cl B W I lv x hX tk h => by
      cases x with
      | List es p =>
        simp only [chk, Bool.and_eq_true] at h
        exact ⟨s_lst (hl.M X cl B W I lv _ hX tk h.1 h.2) (evM_mono l), rfl⟩
      | _ => cases h) rfl
theorem snd_lst2 {l : EL} (hl : SndL G l) : Snd G (.lst2 l) :=
  ⟨(fun X cl B W I lv x hX tk h => by
      cases x with
      | List es p =>
        simp only [chk, Bool.and_eq_true] at h
        exact s_lst2 (hl.L X cl B W I lv _ hX tk h.1 h.2) (evL_mono l)
      | _ => cases h), fun _ _ _ _ _ _ _ _ _ _ => s_noT⟩
theorem snd_lc (tg : Tg) {it : It} {cnd : EL} {elt : E} (hit : SndI G it) (hcnd : SndL G cnd) (helt : Snd G elt) : Snd G (.lc tg it cnd elt) :=
  Snd.plain (fun X cl B W I lv x hX tk h => by
      cases x with
      | ListComp y gs sc p =>
        match gs, h with
        | [⟨t, i, ifs, as⟩], h =>
          simp only [chk, Bool.and_eq_true, decide_eq_true_eq] at h
          obtain ⟨⟨⟨⟨⟨⟨h0, h1⟩, h2⟩, h3⟩, h4⟩, h5⟩, h6⟩ := h
          subst h0
          exact ⟨s_lc hX (hit.i X cl B W I lv _ _ hX tk h3) h2 h1 (fun s H C c fp => pg_of (hX.blk h2 s H C c fp) h4) (fun s H C c fp => hcnd.C _ cl B _ lv _ (hX.blk h2 s H C c fp) h5)
            (fun s H C c fp => helt.v _ cl B _ _ lv _ (hX.blk h2 s H C c fp) takesF h6) (evI_mono it) (evC_mono cnd) (ev_mono elt).1, rfl⟩
      | _ => cases h) rfl
theorem snd_dnin {a : E} (i : Nat) (ha : Snd G a) : Snd G (.dnin a i) := by
  have g : ∀ {I x}, chk (.dnin a i) I x = true → ∃ l y p1 p, x = .Compare l [.NotIn] [.Name y p1] p ∧ I.N[i]? = some y ∧ vis I y = true ∧ (y == ("__debug__" : Str)) = false ∧ (y == ("__classdict__" : Str)) = false ∧ chk a I l = true := fun {I x} h => by
    cases x with
    | Compare l os rs p =>
      match os, rs, h with
      | [o], [.Name y p1], h =>
        simp only [chk, Bool.and_eq_true, decide_eq_true_eq, Bool.not_eq_true'] at h
        obtain ⟨⟨⟨⟨⟨h1, h2⟩, h3⟩, h4⟩, h5⟩, h6⟩ := h
        subst h1
        exact ⟨l, y, p1, p, rfl, h2, h3, h4, h5, h6⟩
    | _ => cases h
  refine ⟨fun X cl B W I lv x hX tk h => ?_, fun X cl B W I lv x hX tk h => ?_⟩
  · obtain ⟨l, y, p1, p, e, h2, h3, h4, h5, h6⟩ := g h
    subst e
    exact s_dnin hX (ha.v X cl B W I lv _ hX tk h6) (ev_mono a).1 h2 h3 h4 h5
  · obtain ⟨l, y, p1, p, e, h2, h3, h4, h5, h6⟩ := g h
    subst e
    exact s_dninT hX (ha.v X cl B W I lv _ hX tk h6) (ev_mono a).1 h2 h3 h4 h5
theorem snd_dget {a : E} (i : Nat) (ha : Snd G a) : Snd G (.dget i a) :=
  Snd.plain (fun X cl B W I lv x hX tk h => by
      cases x with
      | Subscript o s p =>
        cases o with
        | Name y p1 =>
          simp only [chk, Bool.and_eq_true, decide_eq_true_eq, Bool.not_eq_true'] at h
          obtain ⟨⟨⟨⟨⟨h1, h2⟩, h3⟩, h4⟩, h5⟩, h6⟩ := h
          exact ⟨s_dget hX (ha.v X cl B W I lv _ hX tk h6) (ev_mono a).1 h2 h3 h4 h5 h1, rfl⟩
        | _ => cases h
      | _ => cases h) rfl
theorem snd_lrng {it : It} (hit : SndI G it) : Snd G (.lrng it) :=
  Snd.plain (fun X cl B W I lv x hX tk h => by
    cases x with
    | Call g es ks p =>
      match g, es, ks, h with
      | .Name x _, [y], [], h =>
        simp only [chk, Bool.and_eq_true, decide_eq_true_eq] at h
        obtain ⟨⟨⟨h1, h2⟩, h3⟩, h4⟩ := h
        subst h1
        exact ⟨hit.l X cl B W I lv y _ _ hX tk h3 h2 h4, rfl⟩
    | _ => cases h) rfl

theorem sndL_nil : SndL G .nil where
  L := fun X cl B W I lv xs hX tk hn h => by
    cases xs with
    | nil => exact s_lnil
    | cons _ _ => cases h
  M := fun X cl B W I lv xs hX tk hn h => by
    cases xs with
    | nil => exact s_mnil
    | cons _ _ => cases h
  A := fun X cl B W I lv xs hX tk hn h ms => by
    cases xs with
    | nil => exact PA.imp pa_nil fun σ H Q ⟨F, env, A, ok, h⟩ => h.2 [] F H A (.refl ..) ok .nil
    | cons _ _ => cases h
  C := fun X cl B I lv xs hX h => by
    cases xs with
    | nil => exact ⟨fun pins s σ H Q J ⟨F, env, A, ok, z⟩ => pts_nil.run pins s σ H Q J (z F H A (.refl ..) ok)⟩
    | cons _ _ => cases h
  av := fun X cl B W I lv xs p hX tk h => by cases h
  ov := fun X cl B W I lv xs p hX tk h => by cases h
  at_ := fun X cl B W I lv xs p hX tk h => by cases h
  ot := fun X cl B W I lv xs p hX tk h => by cases h
theorem sndL_cons {e : E} {l : EL} (he : Snd G e) (hl : SndL G l) : SndL G (.cons e l) where
  L := fun X cl B W I lv xs hX tk hn h => by
    cases xs with
    | nil => cases h
    | cons x xs =>
      simp only [chkL, Bool.and_eq_true] at h
      simp only [List.all_cons, Bool.and_eq_true] at hn
      exact s_lcons hn.1 (he.v X cl B W I lv _ hX tk h.1) (hl.L X cl B W I lv _ hX tk hn.2 h.2) (ev_mono e).1 (evL_mono l)
  M := fun X cl B W I lv xs hX tk hn h => by
    cases xs with
    | nil => cases h
    | cons x xs =>
      simp only [chkL, Bool.and_eq_true] at h
      simp only [List.all_cons, Bool.and_eq_true] at hn
      exact s_mcons hn.1 (he.v X cl B W I lv _ hX tk h.1) (hl.M X cl B W I lv _ hX tk hn.2 h.2) (ev_mono e).1 (evM_mono l)
  A := fun X cl B W I lv xs hX tk hn h ms => by
    cases xs with
    | nil => cases h
    | cons x xs =>
      simp only [chkL, Bool.and_eq_true] at h
      simp only [List.all_cons, Bool.and_eq_true] at hn
      match ms with
      | false :: ms => exact s_acons hn.1 (he.v X cl B W I lv _ hX tk h.1) (hl.A X cl B W I lv _ hX tk hn.2 h.2 ms) (ev_mono e).1 (evA_mono l ms)
      | true :: ms => exact s_aref hn.1 (he.v X cl B W I lv _ hX tk h.1) (hl.A X cl B W I lv _ hX tk hn.2 h.2 ms) (ev_mono e).1 (evA_mono l ms)
      | [] => exact ⟨fun _ _ _ _ _ _ _ ⟨_, _, _, _, z⟩ => z.elim⟩
  C := fun X cl B I lv xs hX h => by
    cases l with
    | nil =>
      match xs, h with
      | [x], h => exact pts_one (he.t X cl B _ I lv _ hX takesF h)
    | cons _ _ => cases h
  av := fun X cl B W I lv xs p hX tk h => by
    cases l with
    | nil =>
      match xs, h with
      | [x], h => exact s_one (he.v X cl B W I lv _ hX tk h)
    | cons e' l =>
      match xs, h with
      | x :: y :: xs, h =>
        simp only [chkB, Bool.and_eq_true] at h
        exact s_andV (he.v X cl B W I lv _ hX tk h.1) (hl.av X cl B W I lv _ _ hX tk h.2) (ev_mono e).1 (evAndV_mono _)
  ov := fun X cl B W I lv xs p hX tk h => by
    cases l with
    | nil =>
      match xs, h with
      | [x], h => exact s_one (he.v X cl B W I lv _ hX tk h)
    | cons e' l =>
      match xs, h with
      | x :: y :: xs, h =>
        simp only [chkB, Bool.and_eq_true] at h
        exact s_orV (he.v X cl B W I lv _ hX tk h.1) (hl.ov X cl B W I lv _ _ hX tk h.2) (ev_mono e).1 (evOrV_mono _)
  at_ := fun X cl B W I lv xs p hX tk h => by
    cases l with
    | nil =>
      match xs, h with
      | [x], h => exact s_andW1 (he.t X cl B W I lv _ hX tk h)
    | cons e' l =>
      match xs, h with
      | x :: y :: xs, h =>
        simp only [chkB, Bool.and_eq_true] at h
        exact s_andW (he.t X cl B W I lv _ hX tk h.1) (hl.at_ X cl B W I lv _ _ hX tk h.2) (ev_mono e).2 (evAndT_mono _)
  ot := fun X cl B W I lv xs p hX tk h => by
    cases l with
    | nil =>
      match xs, h with
      | [x], h => exact s_orW1 (he.t X cl B W I lv _ hX tk h)
    | cons e' l =>
      match xs, h with
      | x :: y :: xs, h =>
        simp only [chkB, Bool.and_eq_true] at h
        exact s_orW (he.t X cl B W I lv _ hX tk h.1) (hl.ot X cl B W I lv _ _ hX tk h.2) (ev_mono e).2 (evOrT_mono _)
theorem sndO_none : SndO G .none := ⟨fun X cl B W I lv x hX tk h => by
  cases x with
  | none => exact s_onone
  | some _ => cases h⟩
theorem sndO_some {e : E} (he : Snd G e) : SndO G (.some e) := ⟨fun X cl B W I lv x hX tk h => by
  cases x with
  | none => cases h
  | some x => exact s_osome (he.v X cl B W I lv _ hX tk h) (ev_mono e).1⟩
theorem sndI_of {e : E} (he : Snd G e) : SndI G (.of e) := ⟨fun X cl B W I lv t x hX tk h => s_itof (he.v X cl B W I lv _ hX tk h) (ev_mono e).1, fun X cl B W I lv x p pos hX tk h => Bool.noConfusion h⟩
theorem sndI_rng1 {e : E} (he : Snd G e) : SndI G (.rng1 e) := ⟨fun X cl B W I lv t x hX tk h => by
  cases x with
  | Call g es ks p =>
    match g, es, ks, h with
    | .Name x _, [f], [], h =>
      simp only [chkI, Bool.and_eq_true, decide_eq_true_eq] at h
      obtain ⟨⟨⟨h1, h2⟩, h3⟩, h4⟩ := h
      subst h1
      exact s_rng1 hX h2 h3 (he.v X cl B W I lv _ hX tk h4) (ev_mono e).1
  | _ => (cases h), fun X cl B W I lv x p pos hX tk h => Bool.noConfusion h⟩
theorem sndI_rng2 {e e' : E} (he : Snd G e) (he' : Snd G e') : SndI G (.rng2 e e') := ⟨fun X cl B W I lv t x hX tk h => by
  cases x with
  | Call g es ks p =>
    match g, es, ks, h with
    | .Name x _, [f, f'], [], h =>
      simp only [chkI, Bool.and_eq_true, decide_eq_true_eq] at h
      obtain ⟨⟨⟨⟨⟨h1, h2⟩, h3⟩, h4⟩, h5⟩, h6⟩ := h
      subst h1
      exact s_rng2 hX h2 h3 h4 (he.v X cl B W I lv _ hX tk h5) (he'.v X cl B W I lv _ hX tk h6) (ev_mono e).1 (ev_mono e').1
  | _ => (cases h), fun X cl B W I lv x p pos hX tk _ hg h => by
  cases x with
  | Call g es ks p =>
    match g, es, ks, h with
    | .Name x _, [f, f'], [], h =>
      simp only [chkI, Bool.and_eq_true, decide_eq_true_eq] at h
      obtain ⟨⟨⟨⟨⟨h1, h2⟩, h3⟩, h4⟩, h5⟩, h6⟩ := h
      subst h1
      exact s_lrng2 hX hg h2 h3 h4 (he.v X cl B W I lv _ hX tk h5) (he'.v X cl B W I lv _ hX tk h6) (ev_mono e).1 (ev_mono e').1
  | _ => cases h⟩
theorem sndI_enum {e : E} (he : Snd G e) : SndI G (.enum e) := ⟨fun X cl B W I lv t x hX tk h => by
  cases t with
  | Tuple _ _ _ =>
    cases x with
    | Call g es ks p =>
      match g, es, ks, h with
      | .Name x _, [f], [], h =>
        simp only [chkI, Bool.and_eq_true, decide_eq_true_eq] at h
        obtain ⟨⟨⟨h1, h2⟩, h3⟩, h4⟩ := h
        subst h1
        exact s_enum hX h2 h3 (he.v X cl B W I lv _ hX tk h4) (ev_mono e).1
    | _ => cases h
  | _ => (cases h), fun X cl B W I lv x p pos hX tk h => Bool.noConfusion h⟩
theorem sndI_zip {e e' : E} (he : Snd G e) (he' : Snd G e') : SndI G (.zip e e') := ⟨fun X cl B W I lv t x hX tk h => by
  cases t with
  | Tuple _ _ _ =>
    cases x with
    | Call g es ks p =>
      match g, es, ks, h with
      | .Name x _, [f, f'], [], h =>
        simp only [chkI, Bool.and_eq_true, decide_eq_true_eq] at h
        obtain ⟨⟨⟨⟨⟨h1, h2⟩, h3⟩, h4⟩, h5⟩, h6⟩ := h
        subst h1
        exact s_zip hX h2 h3 h4 (he.v X cl B W I lv _ hX tk h5) (he'.v X cl B W I lv _ hX tk h6) (ev_mono e).1 (ev_mono e').1
    | _ => cases h
  | _ => (cases h), fun X cl B W I lv x p pos hX tk h => Bool.noConfusion h⟩
theorem snd (e : E) : Snd G e := E.rec (motive_1 := Snd G) (motive_2 := SndL G) (motive_3 := SndO G) (motive_4 := SndI G)
  (fun c => snd_cst c )
  (fun i => snd_var i )
  (fun y => snd_glob y )
  (fun op a b ha hb => snd_bin op ha hb)
  (fun a ha => snd_neg  ha)
  (fun op a b ha hb => snd_cmp op ha hb)
  (fun o1 o2 a b c ha hb hc => snd_chain o1 o2 ha hb hc)
  (fun l hl => snd_band  hl)
  (fun l hl => snd_bor  hl)
  (fun a ha => snd_bnot  ha)
  (fun c a b hc ha hb => snd_ife  hc ha hb)
  (fun f l hl => snd_call f hl)
  (fun f l hl => snd_mk f hl)
  (fun m o l ho hl => snd_meth m ho hl)
  (fun f l hl => snd_bi f hl)
  (fun a ty ha => snd_isi ty ha)
  (fun o f ho => snd_attr f ho)
  (fun a b ha hb => snd_ix  ha hb)
  (fun a lo hi ha hlo hhi => snd_sl  ha hlo hhi)
  (fun l hl => snd_tup  hl)
  (fun l hl => snd_lst  hl)
  (fun l hl => snd_lst2  hl)
  (fun tg it cnd elt hit hcnd helt => snd_lc tg hit hcnd helt)
  (fun it hit => snd_lrng  hit)
  (fun f l hl => snd_callN f hl)
  (fun a i ha => snd_dnin i ha)
  (fun i a ha => snd_dget i ha)
  sndL_nil
  (fun e l he hl => sndL_cons he hl)
  sndO_none
  (fun e he => sndO_some he)
  (fun e he => sndI_of he)
  (fun e he => sndI_rng1 he)
  (fun a b ha hb => sndI_rng2 ha hb)
  (fun e he => sndI_enum he)
  (fun a b ha hb => sndI_zip ha hb) e
theorem sndL (e : EL) : SndL G e := EL.rec (motive_1 := Snd G) (motive_2 := SndL G) (motive_3 := SndO G) (motive_4 := SndI G)
  (fun c => snd_cst c )
  (fun i => snd_var i )
  (fun y => snd_glob y )
  (fun op a b ha hb => snd_bin op ha hb)
  (fun a ha => snd_neg  ha)
  (fun op a b ha hb => snd_cmp op ha hb)
  (fun o1 o2 a b c ha hb hc => snd_chain o1 o2 ha hb hc)
  (fun l hl => snd_band  hl)
  (fun l hl => snd_bor  hl)
  (fun a ha => snd_bnot  ha)
  (fun c a b hc ha hb => snd_ife  hc ha hb)
  (fun f l hl => snd_call f hl)
  (fun f l hl => snd_mk f hl)
  (fun m o l ho hl => snd_meth m ho hl)
  (fun f l hl => snd_bi f hl)
  (fun a ty ha => snd_isi ty ha)
  (fun o f ho => snd_attr f ho)
  (fun a b ha hb => snd_ix  ha hb)
  (fun a lo hi ha hlo hhi => snd_sl  ha hlo hhi)
  (fun l hl => snd_tup  hl)
  (fun l hl => snd_lst  hl)
  (fun l hl => snd_lst2  hl)
  (fun tg it cnd elt hit hcnd helt => snd_lc tg hit hcnd helt)
  (fun it hit => snd_lrng  hit)
  (fun f l hl => snd_callN f hl)
  (fun a i ha => snd_dnin i ha)
  (fun i a ha => snd_dget i ha)
  sndL_nil
  (fun e l he hl => sndL_cons he hl)
  sndO_none
  (fun e he => sndO_some he)
  (fun e he => sndI_of he)
  (fun e he => sndI_rng1 he)
  (fun a b ha hb => sndI_rng2 ha hb)
  (fun e he => sndI_enum he)
  (fun a b ha hb => sndI_zip ha hb) e
theorem sndI (e : It) : SndI G e := It.rec (motive_1 := Snd G) (motive_2 := SndL G) (motive_3 := SndO G) (motive_4 := SndI G)
  (fun c => snd_cst c )
  (fun i => snd_var i )
  (fun y => snd_glob y )
  (fun op a b ha hb => snd_bin op ha hb)
  (fun a ha => snd_neg  ha)
  (fun op a b ha hb => snd_cmp op ha hb)
  (fun o1 o2 a b c ha hb hc => snd_chain o1 o2 ha hb hc)
  (fun l hl => snd_band  hl)
  (fun l hl => snd_bor  hl)
  (fun a ha => snd_bnot  ha)
  (fun c a b hc ha hb => snd_ife  hc ha hb)
  (fun f l hl => snd_call f hl)
  (fun f l hl => snd_mk f hl)
  (fun m o l ho hl => snd_meth m ho hl)
  (fun f l hl => snd_bi f hl)
  (fun a ty ha => snd_isi ty ha)
  (fun o f ho => snd_attr f ho)
  (fun a b ha hb => snd_ix  ha hb)
  (fun a lo hi ha hlo hhi => snd_sl  ha hlo hhi)
  (fun l hl => snd_tup  hl)
  (fun l hl => snd_lst  hl)
  (fun l hl => snd_lst2  hl)
  (fun tg it cnd elt hit hcnd helt => snd_lc tg hit hcnd helt)
  (fun it hit => snd_lrng  hit)
  (fun f l hl => snd_callN f hl)
  (fun a i ha => snd_dnin i ha)
  (fun i a ha => snd_dget i ha)
  sndL_nil
  (fun e l he hl => sndL_cons he hl)
  sndO_none
  (fun e he => sndO_some he)
  (fun e he => sndI_of he)
  (fun e he => sndI_rng1 he)
  (fun a b ha hb => sndI_rng2 ha hb)
  (fun e he => sndI_enum he)
  (fun a b ha hb => sndI_zip ha hb) e
end
end PF

set_option Elab.async false
set_option linter.all false
set_option maxRecDepth 100000
set_option maxHeartbeats 4000000

namespace PF
open PySem PySem.Spec PyProof.Rows L2

/-! ## statements -/
section
variable (K : PySem.W.Frag) (cl : Str → Option Addr) (B : List Addr) (W : WX)
def PoK (F H : Hp) (A : List (List Addr)) (D : Ends) : Po where
  nx := fun env' => ∀ σ' F' H' A', Gr F H A F' H' A' → SOk K cl B F' H' σ' env' A' → D.nx σ' H'
  rt := fun d env' => ∀ v σ' F' H' A', Gr F H A F' H' A' → SOk K cl B F' H' σ' env' A' → Rep K cl F' v d → D.rt v H'
  bk := fun env' => ∀ σ' F' H' A', Gr F H A F' H' A' → SOk K cl B F' H' σ' env' A' → D.bk σ' H'
  ct := fun env' => ∀ σ' F' H' A', Gr F H A F' H' A' → SOk K cl B F' H' σ' env' A' → D.ct σ' H'
  er := fun c env' => ∀ σ' F' H' A' Ca, Gr F H A F' H' A' → SOk K cl B F' H' σ' env' A' → cl c = some Ca → W (.ref Ca) none σ' H'
def tS (g : SemS) : TS := fun D σ H => ∃ F env A, SOk K cl B F H σ env A ∧ g env (PoK K cl B W F H A D)
end
theorem PoK.sh {K : PySem.W.Frag} {cl : Str → Option Addr} {B : List Addr} {W : WX} {F H F1 H1 : Hp} {A A1 : List (List Addr)} {D : Ends} (g : Gr F H A F1 H1 A1) : Po.Le (PoK K cl B W F H A D) (PoK K cl B W F1 H1 A1 D) where
  nx := fun _ h σ' F' H' A' g' => h σ' F' H' A' (g.trans g')
  rt := fun _ _ h v σ' F' H' A' g' => h v σ' F' H' A' (g.trans g')
  bk := fun _ h σ' F' H' A' g' => h σ' F' H' A' (g.trans g')
  ct := fun _ h σ' F' H' A' g' => h σ' F' H' A' (g.trans g')
  er := fun _ _ h σ' F' H' A' Ca g' => h σ' F' H' A' Ca (g.trans g')
section
variable {X : Cx} {G : Tb} {cl : Str → Option Addr} {B : List Addr} {W : WX} {I : Info} {lv : Nat} {a b c : Expr} {es : List Expr} {pos p1 p2 p3 p4 : Pos} {fa fb fc : SemE} {x y z : Str} {i j k : Nat}
abbrev OS (X : Cx) (cl : Str → Option Addr) (B : List Addr) (W : WX) (s : Stmt) (g : SemS) : Prop := PS X s (tS X.K cl B W g)
abbrev OSs (X : Cx) (cl : Str → Option Addr) (B : List Addr) (W : WX) (s : List Stmt) (g : SemS) : Prop := PSs X s (tS X.K cl B W g)

/-- an expression's step inside a statement -/
theorem stepS {f : SemE} (mf : MonoE f) {σ : L2.St} {H : Hp} {F : Hp} {env : En} {A : List (List Addr)} {D : Ends} {Q1 : Ev → En → Prop} {R : V → Hp → Prop} (ok : SOk X.K cl B F H σ env A)
    (h : f env Q1 (PoK X.K cl B W F H A D).er) (k : ∀ e env1, Q1 e env1 → ∀ v F1 H1 A1, Gr F H A F1 H1 A1 → SOk X.K cl B F1 H1 σ env1 A1 → RepE X.K cl H F1 H1 σ env1 A1 v e → R v H1) :
    tOut X.K cl B W f σ H R := ⟨F, env, A, ok, mf.ap h (fun e env1 q v F1 H1 A1 g ok1 r => k e env1 q v F1 H1 A1 g ok1 r) fun _ _ z F' H' A' Ca => z σ F' H' A' Ca⟩
theorem stepTS {f : SemT} (mf : MonoT f) {σ : L2.St} {H : Hp} {F : Hp} {env : En} {A : List (List Addr)} {D : Ends} {Q1 : Bool → En → Prop} {R : Bool → Hp → Prop} (ok : SOk X.K cl B F H σ env A)
    (h : f env Q1 (PoK X.K cl B W F H A D).er) (k : ∀ e env1, Q1 e env1 → ∀ F1 H1 A1, Gr F H A F1 H1 A1 → SOk X.K cl B F1 H1 σ env1 A1 → R e H1) :
    tOutT X.K cl B W f σ H R := ⟨F, env, A, ok, mf.ap h (fun e env1 q F1 H1 A1 g ok1 => k e env1 q F1 H1 A1 g ok1) fun _ _ z F' H' A' Ca => z σ F' H' A' Ca⟩

theorem Gr.putN {F H F1 H1 : Hp} {A A1 : List (List Addr)} {i : Nat} {as : List Addr} (g : Gr F H A F1 H1 A1) (h : ∀ a ∈ as, a ∈ A.flatten ∨ H a = Option.none) : Gr F H A F1 H1 (A1.set i as) where
  fr := g.fr
  keep := g.keep
  new := g.new
  own := fun a m => (fl_set m).elim (g.own a) (h a)
  stay := g.stay
  nf := g.nf
theorem SOk.putNew {K : PySem.W.Frag} {F H : Hp} {σ : L2.St} {env : En} {A : List (List Addr)} {i : Nat} {sl : Sl} {w : Option V} {as : List Addr} (ok : SOk K cl B F H σ env A) (r : RepS K cl B F H w as sl)
    (na : as.Nodup) (hd : ∀ a ∈ as, a ∉ A.flatten) (hF : ∀ a ∈ as, F a = none) (hH : ∀ a ∈ as, H a ≠ none) : SOk K cl B F H (σ.set i w) (env.set i sl) (A.set i as) := by
  by_cases hi : i < σ.length
  · exact ok.put hi r na (fun a m z => absurd z (hd a m)) hF hH
  · rw [List.set_eq_of_length_le (by omega), List.set_eq_of_length_le (by rw [ok.len]; omega), List.set_eq_of_length_le (by rw [ok.lenA]; omega)]
    exact ok
/-- a value goes into a slot -/
theorem store_put {K : PySem.W.Frag} {F H F1 H1 : Hp} {A A1 : List (List Addr)} {σ : L2.St} {env1 : En} {e : Ev} {v : V} {N : L2.St → Hp → Prop} (ok : SOk K cl B F1 H1 σ env1 A1) (r : RepE K cl H F1 H1 σ env1 A1 v e) (g : Gr F H A F1 H1 A1)
    (h : storeE i e env1 fun env' => ∀ σ' F' H' A', Gr F H A F' H' A' → SOk K cl B F' H' σ' env' A' → N σ' H') : N (σ.set i (some v)) H1 := by
  cases e with
  | d d => exact h _ _ _ _ (g.trans Gr.putNo) (ok.putFz r)
  | vw j =>
    obtain ⟨d, env2, F2, A2, q, ok2, r2, g2⟩ := settle_ok (Q := fun d env1 => ∀ σ' F' H' A', Gr F H A F' H' A' → SOk K cl B F' H' σ' (env1.set i (.fz d)) A' → N σ' H') ok r g h
    exact q _ _ _ _ (g2.trans Gr.putNo) (ok2.putFz r2)
  | nw ds =>
    obtain ⟨a, vs, e1, e2, e3, e4, e5, e6⟩ := r
    subst e1
    refine h _ _ _ _ (g.putN (i := i) (as := [a]) fun b m => .inr (by simp at m; subst m; exact e6)) (ok.putNew ⟨a, vs, rfl, rfl, e2, e3, e4, fun j z => nomatch z⟩ (by simp) (fun b m => ?_) (fun b m => ?_) fun b m => ?_)
    · simp at m; subst m; exact e5
    · simp at m; subst m; exact e2
    · simp at m; subst m; rw [e3]; exact fun z => nomatch z
  | nw2 dss =>
    obtain ⟨a, bs, e1, e2, e3, e5, e6, e7, e8, e9⟩ := r
    subst e1
    refine h _ _ _ _ (g.putN (i := i) (as := a :: bs) fun b m => .inr (e9 b m)) (ok.putNew ⟨a, bs, rfl, rfl, e2, e3, e8⟩ e6 (fun b m => ?_) (fun b m => ?_) fun b m => ?_)
    · rcases List.mem_cons.mp m with m | m
      · subst m; exact e5
      · exact e7 b m
    · rcases List.mem_cons.mp m with m | m
      · subst m; exact e2
      · exact (e8.there b m).1
    · rcases List.mem_cons.mp m with m | m
      · subst m; rw [e3]; exact fun z => nomatch z
      · exact (e8.there b m).2

def plainA : Expr → Bool | .ListComp .. => false | .SetComp .. => false | .DictComp .. => false | _ => true
theorem swaps_no {e : Expr} {t : Option Expr} {n : Nat} {env : Env} (h : plainA e = true) : swapsWith e t n env = pure false := by
  cases e <;> first | rfl | cases h
theorem sole_no {e t : Expr} {n : Nat} {env : Env} (h : plainA e = true) : swapsWithSole [t] e n env = pure false := by
  unfold swapsWithSole; exact swaps_no h
theorem XOk.Loc (hX : XOk X G cl I lv) (h : tgOk I x = true) : L2.Loc X.env.scope x ∧ (X.fn x = true ∨ X.env.scope.names.lookup x = some .local) := by
  unfold tgOk at h
  have e : X.env.scope.names.lookup x = I.sc.names.lookup x := by rw [hX.sc]
  split at h
  · rename_i q; exact ⟨.inl (e.trans q), .inr (e.trans q)⟩
  · rename_i q; exact ⟨.inr (e.trans q), .inl (hX.fn _ h)⟩
  · cases h
theorem asg_sem {f : SemE} (mf : MonoE f) {D : Ends} {σ : L2.St} {H : Hp} (h : tS X.K cl B W (fun env P => f env (fun v env1 => storeE i v env1 P.nx) P.er) D σ H) : tAsg (tOut X.K cl B W f) (gName i) D σ H := by
  obtain ⟨F, env, A, ok, h⟩ := h
  exact stepS mf ok h fun e env1 q v F1 H1 A1 g ok1 r => store_put ok1 r g q
theorem s_asg {f : SemE} (hX : XOk X G cl I lv) (he : OE X cl B W a f) (mf : MonoE f) (h1 : I.N[i]? = some x) (h2 : tgOk I x = true) (hp : plainA a = true) :
    OS X cl B W (.Assign [.Name x p1] a pos) (fun env P => f env (fun v env1 => storeE i v env1 P.nx) P.er) :=
  PS.imp (ps_set (by rw [hX.N]; exact hX.nd) (by rw [hX.N]; exact h1) (hX.Loc h2).1 he (swaps_no hp) (hX.Loc h2).2) fun D σ H h => asg_sem mf h
def notTup : Expr → Bool | .Tuple _ _ _ => false | _ => true
theorem swapped_tup {ts : List Expr} {kt : Nat} {pt : Pos} {env : Env} (h : notTup a = true) : swappedStores [.Tuple ts kt pt] a env = pure none := by
  cases a <;> first | rfl | cases h
theorem s_asgT {f : SemE} {is : List Nat} {kt : Nat} (hX : XOk X G cl I lv) (he : OE X cl B W a f) (mf : MonoE f) (h1 : chkNs I is es = true) (hp : plainA a = true) (hw : swappedStores [.Tuple es kt p1] a X.env = pure none) :
    OS X cl B W (.Assign [.Tuple es kt p1] a pos) (fun env P => f env (fun v env1 => settle env1 v fun d env2 => ∃ ds env3, d = .tup ds ∧ putIs env2 is ds = some env3 ∧ P.nx env3) P.er) := by
  refine PS.imp (ps_asg he (pg_of (t := .tup is) hX h1) (sole_no hp) hw) fun D σ H h => ?_
  obtain ⟨F, env, A, ok, h⟩ := h
  refine stepS mf ok h fun e env1 q v F1 H1 A1 g ok1 r => ?_
  obtain ⟨d, env2, F2, A2, ⟨ds, env3, e1, e2, q⟩, ok2, r2, g2⟩ := settle_ok ok1 r g q
  subst e1
  exact gOf_ok (t := .tup is) ok2 r2 e2 fun σ1 A3 ok3 g3 _ => q _ _ _ _ (g2.trans g3) ok3

/-! ### lists written -/
theorem ne_slots {A : List (List Addr)} {i j : Nat} {l l' : List Addr} {p : Addr} (nd : A.flatten.Nodup) (h : i ≠ j) (h1 : A[i]? = some l) (h2 : A[j]? = some l') (m1 : p ∈ l) : p ∉ l' := fun m2 => by
  obtain ⟨hi, e⟩ := List.getElem?_eq_some_iff.mp h1
  subst e
  exact not_fl_set (as := []) hi nd m1 (by simp) (mem_fl (i := j) (by rw [List.getElem?_set_ne h]; exact h2) m2)
/-- something owned by slot i is written -/
theorem SOk.updO {K : PySem.W.Frag} {F H : Hp} {σ : L2.St} {env : En} {A : List (List Addr)} {i : Nat} {sl : Sl} {w : Option V} {as : List Addr} {p : Addr} {o : HO} (ok : SOk K cl B F H σ env A) (hs : σ[i]? = some w) (hA : A[i]? = some as) (hp : p ∈ as)
    (r : RepS K cl B F (upd H p o) w as sl) : SOk K cl B F (upd H p o) σ (env.set i sl) A ∧ Gr F H A F (upd H p o) A := by
  have pf := mem_fl hA hp
  have hF := ok.fr p pf
  have hH := ok.tr p pf
  refine ⟨⟨fun a u h => ?_, ?_, ok.lenA, fun j sl' w' as' h1 h2 h3 => ?_, ok.nd, ok.fr, fun a m => ?_⟩, ⟨fun _ _ h => h, fun a u h n => ?_, fun _ h => .inl h, fun _ m => .inl m, fun a h => ?_, fun _ _ _ h => by rw [h]; exact fun z => nomatch z⟩⟩
  · rw [upd_ne (fun e => by subst e; rw [hF] at h; cases h)]; exact ok.sub _ _ h
  · rw [List.length_set]; exact ok.len
  · by_cases e : i = j
    · subst e
      rw [List.getElem?_set_self (by rw [ok.len]; exact (List.getElem?_eq_some_iff.mp hs).1)] at h1
      rw [hs] at h2
      rw [hA] at h3
      cases h1; cases h2; cases h3
      exact r
    · rw [List.getElem?_set_ne e] at h1
      refine (ok.slot j _ _ _ h1 h2 h3).grow (fun _ _ h => h) (fun a u m h => ?_) fun a m => ok.fr a (mem_fl h3 m)
      rw [upd_ne (fun e' => by subst e'; exact ne_slots ok.nd e hA h3 hp m)]
      exact h
  · by_cases e : a = p
    · subst e; rw [upd_same]; exact fun z => nomatch z
    · rw [upd_ne e]; exact ok.tr a m
  · rw [upd_ne (fun e => by subst e; exact n pf)]; exact h
  · by_cases e : a = p
    · subst e; rw [upd_same]; exact fun z => nomatch z
    · rw [upd_ne e]; exact h
theorem SOk.ownAt {K : PySem.W.Frag} {F H : Hp} {σ : L2.St} {env : En} {A : List (List Addr)} {i k : Nat} {ds : List D} (ok : SOk K cl B F H σ env A) (h : env[i]? = some (.own k ds)) :
    ∃ p vs, σ[i]? = some (some (.ref p)) ∧ A[i]? = some [p] ∧ H p = some (.lst vs) ∧ RepL K cl F vs ds ∧ ∀ vs' ds', RepL K cl F vs' ds' → SOk K cl B F (upd H p (.lst vs')) σ (env.set i (.own k ds')) A ∧ Gr F H A F (upd H p (.lst vs')) A := by
  obtain ⟨w, as, h1, h2, p, vs, e1, e2, e3, e4, e5, e6⟩ := ok.at h
  subst e1 e2
  exact ⟨p, vs, h1, h2, e4, e5, fun vs' ds' r => ok.updO h1 h2 (by simp) ⟨p, vs', rfl, rfl, e3, upd_same, r, e6⟩⟩
theorem pe_slot (hX : XOk X G cl I lv) (h1 : I.N[i]? = some x) (h2 : vis I x = true) (h3 : (x == ("__debug__" : Str)) = false) (h4 : (x == ("__classdict__" : Str)) = false) : PE X (.Name x pos) (tVar i) := by
  exact pe_var (by rw [hX.N]; exact h1) (hX.vis h2) h3 h4
def par2Ok (I : Info) (x y : Str) (p1 p2 : Pos) (a b : Expr) : Bool := loc I x && loc I y && !(decide (x = y)) && (p2.line == p1.line) && notStar a && notStar b && !(foldedForSure 8 a && foldedForSure 8 b) && !(constantsAlone 8 a && constantsAlone 8 b)
theorem notStar_any {a : Expr} (h : notStar a = true) : (match (generalizing := false) a with | .Starred .. => true | _ => false) = false := by
  cases a <;> first | rfl | cases h
theorem sw_par2 {kt k2 : Nat} (hX : XOk X G cl I lv) (h : par2Ok I x y p1 p2 a b = true) : swappedStores [.Tuple [.Name x p1, .Name y p2] kt p3] (.Tuple [a, b] k2 p4) X.env = pure (some [x, y]) := by
  unfold par2Ok at h
  simp only [Bool.and_eq_true, Bool.not_eq_true', decide_eq_false_iff_not] at h
  obtain ⟨⟨⟨⟨⟨⟨⟨h1, h2⟩, h3⟩, h4⟩, h5⟩, h6⟩, h7⟩, h8⟩ := h
  have k1 : X.env.kindOf x = some .local := hX.loc h1
  have k2 : X.env.kindOf y = some .local := hX.loc h2
  have kb : X.env.blockKind = .function := by
    unfold Env.blockKind
    rw [hX.sc, hX.fk]; rfl
  have e5 := notStar_any h5
  have e6 := notStar_any h6
  have h4' : p2.line = p1.line := by simpa using h4
  unfold swappedStores
  simp only [List.length_cons, List.length_nil, kb, List.any_cons, List.any_nil, e5, e6, Bool.or_false, List.head?_cons, Option.map_some, Option.getD_some, List.filterMap_cons, List.filterMap_nil, k1, k2, Expr.pos, h4', beq_self_eq_true, Bool.true_and, Bool.and_self, if_true, List.all_cons, List.all_nil, Bool.and_true, h7, h8, if_false, Bool.false_eq_true]
  have ed : ([x, y].eraseDups).length = 2 := by
    simp [List.eraseDups_cons, Ne.symm h3]
  rw [ed]
  refine (if_neg (by decide)).trans ((if_neg fun hh => ?_).trans rfl)
  rw [Bool.or_eq_true] at hh
  rcases hh with hh | hh
  · exact Bool.noConfusion (hh.symm.trans e5)
  · exact Bool.noConfusion (hh.symm.trans e6)
def par3Ok (I : Info) (x y z : Str) (p1 p2 p3 : Pos) (a b c : Expr) : Bool := loc I x && loc I y && loc I z && !(decide (x = y)) && !(decide (x = z)) && !(decide (y = z)) && (p2.line == p1.line) && (p3.line == p1.line) && notStar a && notStar b && notStar c && !(foldedForSure 8 a && (foldedForSure 8 b && foldedForSure 8 c)) && !(constantsAlone 8 a && (constantsAlone 8 b && constantsAlone 8 c))
theorem sw_par3 {kt k2 : Nat} {p5 : Pos} (hX : XOk X G cl I lv) (h : par3Ok I x y z p1 p2 p3 a b c = true) : swappedStores [.Tuple [.Name x p1, .Name y p2, .Name z p3] kt p4] (.Tuple [a, b, c] k2 p5) X.env = pure (some [x, y, z]) := by
  unfold par3Ok at h
  simp only [Bool.and_eq_true, Bool.not_eq_true', decide_eq_false_iff_not] at h
  obtain ⟨⟨⟨⟨⟨⟨⟨⟨⟨⟨⟨⟨h1, h2⟩, h21⟩, h3⟩, h31⟩, h32⟩, h4⟩, h41⟩, h5⟩, h6⟩, h61⟩, h7⟩, h8⟩ := h
  have k1 : X.env.kindOf x = some .local := hX.loc h1
  have k2 : X.env.kindOf y = some .local := hX.loc h2
  have k3 : X.env.kindOf z = some .local := hX.loc h21
  have kb : X.env.blockKind = .function := by
    unfold Env.blockKind
    rw [hX.sc, hX.fk]; rfl
  have e5 := notStar_any h5
  have e6 := notStar_any h6
  have e7 := notStar_any h61
  have h4' : p2.line = p1.line := by simpa using h4
  have h41' : p3.line = p1.line := by simpa using h41
  unfold swappedStores
  simp only [List.length_cons, List.length_nil, kb, List.any_cons, List.any_nil, e5, e6, e7, Bool.or_false, List.head?_cons, Option.map_some, Option.getD_some, List.filterMap_cons, List.filterMap_nil, k1, k2, k3, Expr.pos, h4', h41', beq_self_eq_true, Bool.true_and, Bool.and_self, if_true, List.all_cons, List.all_nil, Bool.and_true, h7, h8, if_false, Bool.false_eq_true]
  have ed : ([x, y, z].eraseDups).length = 3 := by
    simp [List.eraseDups_cons, Ne.symm h3, Ne.symm h31, Ne.symm h32, h3, h31, h32]
  rw [ed]
  refine (if_neg (by decide)).trans ((if_neg fun hh => ?_).trans rfl)
  rw [Bool.or_eq_true, Bool.or_eq_true] at hh
  rcases hh with hh | hh | hh
  · exact Bool.noConfusion (hh.symm.trans e5)
  · exact Bool.noConfusion (hh.symm.trans e6)
  · exact Bool.noConfusion (hh.symm.trans e7)
/-- no store is swapped: a name is no local -/
def noSwap (I : Info) (ts : List Expr) (v : Expr) : Bool := match v with
  | .Tuple vs _ _ => !(ts.length == 2 || ts.length == 3) || (vs.length != ts.length) || vs.all (foldedForSure 8) || !(ts.all fun t => match t with | .Name x _ => loc I x | _ => true)
  | _ => true
theorem sw_none {kt : Nat} (hX : XOk X G cl I lv) (h : noSwap I es a = true) : swappedStores [.Tuple es kt p1] a X.env = pure none := by
  cases a with
  | Tuple vs k p =>
    unfold noSwap at h
    simp only [Bool.or_eq_true] at h
    unfold swappedStores
    have go : ∀ {ts : List Expr} {ln : Nat}, (ts.all fun t => match t with | .Name x _ => loc I x | _ => true) = false → (ts.filterMap fun
      | .Name id pos => if X.env.kindOf id == some .local && pos.line == ln then some id else none
      | _ => none).length < ts.length := by
      intro ts ln
      induction ts with
      | nil => intro h; cases h
      | cons t ts ih =>
        intro h
        simp only [List.all_cons, Bool.and_eq_false_iff] at h
        rw [List.filterMap_cons]
        have len := List.length_filterMap_le (fun
          | .Name id pos => if X.env.kindOf id == some .local && pos.line == ln then some id else none
          | _ => none) ts
        rcases h with h | h
        · cases t with
          | Name id pos =>
            have hk : X.env.kindOf id ≠ some .local := fun e => by
              dsimp only at h
              unfold loc at h
              rw [← hX.sc] at h
              have e' : X.env.scope.names.lookup id = some .local := e
              rw [e'] at h; cases h
            have hb : (X.env.kindOf id == some .local && pos.line == ln) = false := by
              rw [beq_false_of_ne hk]; rfl
            simp only [hb, if_false, Bool.false_eq_true, List.length_cons]
            exact Nat.lt_succ_of_le len
          | _ => cases h
        · have := ih h
          rw [List.length_cons]
          split
          · exact Nat.lt_succ_of_lt this
          · rw [List.length_cons]; exact Nat.succ_lt_succ this
    dsimp only
    by_cases c1 : (!(es.length == 2 || es.length == 3) || vs.length != es.length || X.env.blockKind != .function) = true
    · exact if_pos c1
    · refine (if_neg c1).trans ?_
      by_cases c2 : (vs.any fun | .Starred .. => true | _ => false) = true
      · exact if_pos c2
      · refine (if_neg c2).trans ?_
        simp only [Bool.or_eq_true, not_or] at c1
        by_cases c3 : ((es.filterMap fun
              | .Name id pos => if X.env.kindOf id == some .local && pos.line == (es.head?.map (·.pos.line)).getD 0 then some id else none
              | _ => none).length != es.length || (es.filterMap fun
              | .Name id pos => if X.env.kindOf id == some .local && pos.line == (es.head?.map (·.pos.line)).getD 0 then some id else none
              | _ => none).eraseDups.length != (es.filterMap fun
              | .Name id pos => if X.env.kindOf id == some .local && pos.line == (es.head?.map (·.pos.line)).getD 0 then some id else none
              | _ => none).length) = true
        · exact if_pos c3
        · refine (if_neg c3).trans ?_
          rcases h with ((h | h) | h) | h
          · exact absurd h c1.1.1
          · exact absurd h c1.1.2
          · exact if_pos h
          · have hlt := go (ln := (es.head?.map (·.pos.line)).getD 0) (by simpa using h)
            have hb : ((es.filterMap fun
                | .Name id pos => if X.env.kindOf id == some .local && pos.line == (es.head?.map (·.pos.line)).getD 0 then some id else none
                | _ => none).length != es.length) = true := by
              simp only [bne_iff_ne, ne_eq]; omega
            exact absurd (by rw [hb]; rfl) c3
  | _ => rfl

/-! ### parallel stores -/
def parE (env : En) (i : Nat) : Ev → Option En
  | .d d => some (env.set i (.fz d))
  | .nw ds => some (env.set i (.own 0 ds))
  | _ => none
theorem putEs_cons {env env2 : En} {i : Nat} {is : List Nat} {e : Ev} {es : List Ev} (h : putEs env (i :: is) (e :: es) = some env2) : ∃ env1, parE env i e = some env1 ∧ putEs env1 is es = some env2 := by
  cases e <;> simp only [putEs] at h <;> first | exact ⟨_, rfl, h⟩ | cases h
theorem parE_ok {K : PySem.W.Frag} {F H F0 H0 : Hp} {A0 A : List (List Addr)} {σ : L2.St} {env env1 : En} {e : Ev} {v : V} (ok : SOk K cl B F H σ env A) (r : RepE K cl H0 F H σ env A v e) (g : Gr F0 H0 A0 F H A) (h : parE env i e = some env1) :
    ∃ as, (∀ p ∈ as, p ∈ adr v e) ∧ SOk K cl B F H (σ.set i (some v)) env1 (A.set i as) ∧ Gr F0 H0 A0 F H (A.set i as) := by
  cases e with
  | d d => cases h; exact ⟨[], (fun _ m => nomatch m), ok.putFz r, g.trans Gr.putNo⟩
  | nw ds =>
    cases h
    obtain ⟨a, vs, e1, e2, e3, e4, e5, e6⟩ := r
    subst e1
    refine ⟨[a], fun p m => m, ok.putNew ⟨a, vs, rfl, rfl, e2, e3, e4, fun j z => nomatch z⟩ (by simp) (fun b m => ?_) (fun b m => ?_) fun b m => ?_, g.putN (i := i) (as := [a]) fun b m => .inr (by simp at m; subst m; exact e6)⟩
    · simp at m; subst m; exact e5
    · simp at m; subst m; exact e2
    · simp at m; subst m; rw [e3]; exact fun z => nomatch z
  | _ => cases h
theorem rep_stay {K : PySem.W.Frag} {Hb F H : Hp} {σ σ' : L2.St} {env env' : En} {A : List (List Addr)} {v : V} {e : Ev} {i : Nat} {as : List Addr} (r : RepE K cl Hb F H σ env A v e) (h : ∀ p ∈ adr v e, p ∉ as) (hp : ∀ env, parE env 0 e ≠ none) : RepE K cl Hb F H σ' env' (A.set i as) v e := by
  cases e with
  | d d => exact r
  | nw ds =>
    obtain ⟨a, vs, e1, e2, e3, e4, e5, e6⟩ := r
    subst e1
    exact ⟨a, vs, rfl, e2, e3, e4, fun m => (fl_set m).elim e5 (h a (by simp [adr])), e6⟩
  | _ => exact absurd rfl (hp [])
theorem parE_no {env env1 : En} {i : Nat} {e : Ev} (h : parE env i e = some env1) : ∀ env, parE env 0 e ≠ none := by
  cases e with
  | d d => intro env z; cases z
  | nw d => intro env z; cases z
  | _ => cases h
theorem s_par2 {kt k2 : Nat} {fl : SemL} (hX : XOk X G cl I lv) (hl : OL X cl B W [a, b] fl) (ml : MonoL fl) (h1 : I.N[i]? = some x) (h2 : I.N[j]? = some y) (h : par2Ok I x y p1 p2 a b = true) :
    OS X cl B W (.Assign [.Tuple [.Name x p1, .Name y p2] kt p3] (.Tuple [a, b] k2 p4) pos) (fun env P => fl env (fun es env1 => ∃ env2, putEs env1 [i, j] es = some env2 ∧ P.nx env2) P.er) := by
  have hw := sw_par2 (kt := kt) (k2 := k2) (p3 := p3) (p4 := p4) hX h
  unfold par2Ok at h
  simp only [Bool.and_eq_true, Bool.not_eq_true', decide_eq_false_iff_not] at h
  have hij : i ≠ j := fun e => by subst e; rw [h1] at h2; cases h2; exact h.1.1.1.1.1.2 rfl
  refine PS.imp (ps_par hX.calm (by rw [hX.N]; exact hX.nd) (by rw [hX.N]; exact h1) (by rw [hX.N]; exact h2) hij (hX.loc h.1.1.1.1.1.1.1) (hX.loc h.1.1.1.1.1.1.2) hl hw) fun D σ H ⟨F, env, A, ok, h⟩ => ?_
  refine ⟨F, env, A, ok, ml.ap h (fun es env1 ⟨env2, q1, q2⟩ vs F1 H1 A1 g1 ok1 r1 => ?_) fun _ _ z F' H' A' Ca => z σ F' H' A' Ca⟩
  cases r1 with
  | nil => cases q1
  | cons ra rb da =>
    cases rb with
    | nil => obtain ⟨_, _, z⟩ := putEs_cons q1; cases z
    | cons rb rc db =>
      cases rc with
      | cons _ _ _ => obtain ⟨_, _, z⟩ := putEs_cons q1; obtain ⟨_, _, z⟩ := putEs_cons z; cases z
      | nil =>
        obtain ⟨e1, q3, z⟩ := putEs_cons q1
        obtain ⟨e2, q4, z⟩ := putEs_cons z
        cases z
        obtain ⟨as, w1, ok2, g2⟩ := parE_ok ok1 ra g1 q3
        obtain ⟨as2, w2, ok3, g3⟩ := parE_ok ok2 (rep_stay rb (fun p m z => da p (w1 p z) p (by simp [m]) rfl) (parE_no q4)) g2 q4
        exact ⟨_, _, rfl, q2 _ _ _ _ g3 ok3⟩
theorem s_par3 {kt k2 : Nat} {p5 : Pos} {fl : SemL} (hX : XOk X G cl I lv) (hl : OL X cl B W [a, b, c] fl) (ml : MonoL fl) (h1 : I.N[i]? = some x) (h2 : I.N[j]? = some y) (h3 : I.N[k]? = some z) (h : par3Ok I x y z p1 p2 p3 a b c = true) :
    OS X cl B W (.Assign [.Tuple [.Name x p1, .Name y p2, .Name z p3] kt p4] (.Tuple [a, b, c] k2 p5) pos) (fun env P => fl env (fun es env1 => ∃ env2, putEs env1 [i, j, k] es = some env2 ∧ P.nx env2) P.er) := by
  have hw := sw_par3 (kt := kt) (k2 := k2) (p4 := p4) (p5 := p5) hX h
  unfold par3Ok at h
  simp only [Bool.and_eq_true, Bool.not_eq_true', decide_eq_false_iff_not] at h
  obtain ⟨⟨⟨⟨⟨⟨⟨⟨⟨⟨⟨⟨n1, n2⟩, n3⟩, n4⟩, n5⟩, n6⟩, _⟩, _⟩, _⟩, _⟩, _⟩, _⟩, _⟩ := h
  have hij : i ≠ j := fun e => by subst e; rw [h1] at h2; cases h2; exact n4 rfl
  have hik : i ≠ k := fun e => by subst e; rw [h1] at h3; cases h3; exact n5 rfl
  have hjk : j ≠ k := fun e => by subst e; rw [h2] at h3; cases h3; exact n6 rfl
  refine PS.imp (ps_par3 hX.calm (by rw [hX.N]; exact hX.nd) (by rw [hX.N]; exact h1) (by rw [hX.N]; exact h2) (by rw [hX.N]; exact h3) hij hik hjk (hX.loc n1) (hX.loc n2) (hX.loc n3) hl hw) fun D σ H ⟨F, env, A, ok, h⟩ => ?_
  refine ⟨F, env, A, ok, ml.ap h (fun es env1 ⟨env2, q1, q2⟩ vs F1 H1 A1 g1 ok1 r1 => ?_) fun _ _ z F' H' A' Ca => z σ F' H' A' Ca⟩
  cases r1 with
  | nil => cases q1
  | cons ra rb da =>
    cases rb with
    | nil => obtain ⟨_, _, z⟩ := putEs_cons q1; cases z
    | cons rb rc db =>
      cases rc with
      | nil => obtain ⟨_, _, z⟩ := putEs_cons q1; obtain ⟨_, _, z⟩ := putEs_cons z; cases z
      | cons rc rd dc =>
        cases rd with
        | cons _ _ _ => obtain ⟨_, _, z⟩ := putEs_cons q1; obtain ⟨_, _, z⟩ := putEs_cons z; obtain ⟨_, _, z⟩ := putEs_cons z; cases z
        | nil =>
          obtain ⟨e1, q3, z⟩ := putEs_cons q1
          obtain ⟨e2, q4, z⟩ := putEs_cons z
          obtain ⟨e3, q5, z⟩ := putEs_cons z
          cases z
          obtain ⟨as, w1, ok2, g2⟩ := parE_ok ok1 ra g1 q3
          obtain ⟨as2, w2, ok3, g3⟩ := parE_ok ok2 (rep_stay rb (fun p m z => da p (w1 p z) p (by simp [m]) rfl) (parE_no q4)) g2 q4
          obtain ⟨as3, w3, ok4, g4⟩ := parE_ok ok3 (rep_stay (rep_stay (σ' := σ) (env' := e1) rc (fun p m z => da p (w1 p z) p (by simp [m]) rfl) (parE_no q5)) (fun p m z => db p (w2 p z) p (by simp [m]) rfl) (parE_no q5)) g3 q5
          exact ⟨_, _, _, rfl, q2 _ _ _ _ g4 ok4⟩
end
end PF

set_option Elab.async false
set_option linter.all false
set_option maxRecDepth 100000
set_option maxHeartbeats 4000000

namespace PF
open PySem PySem.Spec PyProof.Rows L2
section
variable {X : Cx} {G : Tb} {cl : Str → Option Addr} {B : List Addr} {W : WX} {I : Info} {lv : Nat} {a b c : Expr} {es : List Expr} {pos p1 p2 p3 p4 : Pos} {fa fb fc : SemE} {x y z : Str} {i j k : Nat}

theorem PoK.er_kr {K : PySem.W.Frag} {F H : Hp} {A : List (List Addr)} {D : Ends} {σ : L2.St} {c : Str} {env' : En} (h : (PoK K cl B W F H A D).er c env') : KR K cl B F H A σ W c env' := fun F' H' A' Ca => h σ F' H' A' Ca
def augOp : Bop → Bool | .add => true | .sub => true | _ => false
theorem s_aug {op : Bop} (hop : augOp op = true) (hX : XOk X G cl I lv) (he : OE X cl B W a fa) (mf : MonoE fa) (h1 : I.N[i]? = some x) (h2 : tgOk I x = true) :
    OS X cl B W (.AugAssign (.Name x p1) op.py a pos) (fun env P => ∃ n, env[i]? = some (.fz (.int n)) ∧ fa env (fun y env1 => ∃ m, y = .d (.int m) ∧ match (generalizing := false) op with
    | .add => P.nx (env1.set i (.fz (.int (n + m))))
    | .sub => P.nx (env1.set i (.fz (.int (n - m))))
    | _ => False) P.er) := by
  have go : ∀ {f : Int → Int → Int}, PIp X op.py (ipI f) → OS X cl B W (.AugAssign (.Name x p1) op.py a pos) (fun env P => ∃ n, env[i]? = some (.fz (.int n)) ∧ fa env (fun y env1 => ∃ m, y = .d (.int m) ∧ P.nx (env1.set i (.fz (.int (f n m))))) P.er) := fun {f} hp => by
    refine PS.imp (ps_aug (by rw [hX.N]; exact hX.nd) (by rw [hX.N]; exact h1) (hX.Loc h2).1 he hp (hX.Loc h2).2) fun D σ H ⟨F, env, A, ok, n, h0, h⟩ => ?_
    obtain ⟨w, as, e1, e2, e3, v, e4, r⟩ := ok.at h0
    subst e4
    cases r
    refine ⟨_, e1, stepS mf ok h fun e env1 ⟨m, q1, q⟩ v F1 H1 A1 g ok1 r => ?_⟩
    subst q1
    cases r
    exact ⟨n, m, rfl, rfl, q _ _ _ _ (g.trans Gr.putNo) (ok1.putFz (.int _))⟩
  cases op with
  | add => exact go ip_add
  | sub => exact go ip_sub
  | _ => cases hop
theorem sw_sub {o i e : Expr} {p : Pos} {env : Env} : swappedStores [.Subscript o i p] e env = pure none := by cases e <;> rfl
theorem set_sub {o i : Expr} {p : Pos} {env : Env} (h : notSlice i = true) : ∀ v, assign (.Subscript o i p) env v = (do
      let ov ← holding [v] (eval o env)
      let iv ← holding [v, ov] (eval i env)
      standAt p
      holding [v, ov, iv] (setItem ov iv v)
      release [v, ov, iv] []) := by intro v; cases i <;> first | rfl | cases h
theorem s_setIx (hX : XOk X G cl I lv) (he : OE X cl B W b fb) (mf : MonoE fb) (hi : OE X cl B W a fa) (ma : MonoE fa) (h1 : I.N[i]? = some x) (h2 : vis I x = true) (h3 : (x == ("__debug__" : Str)) = false) (h4 : (x == ("__classdict__" : Str)) = false) (hp : plainA b = true) (hn : notSlice a = true) :
    OS X cl B W (.Assign [.Subscript (.Name x p1) a p2] b pos) (fun env P => fb env (fun v env1 => settle env1 v fun d env2 => (∃ k ds, env2[i]? = some (.own k ds)) ∧ fa env2 (fun ia env3 => ∃ k ds n j, env3[i]? = some (.own k ds) ∧ ia = .d (.int n) ∧ ixN ds.length n = some j ∧ P.nx (env3.set i (.own k (ds.set j d)))) P.er) P.er) := by
  refine PS.imp (ps_asg he (pg_sub (pe_slot hX h1 h2 h3 h4) hi set_list (set_sub hn)) (sole_no hp) sw_sub) fun D σ H ⟨F, env, A, ok, h⟩ => ?_
  refine stepS mf ok h fun e env1 q v F1 H1 A1 g ok1 r => ?_
  obtain ⟨d, env2, F2, A2, ⟨⟨k0, ds0, e0⟩, q⟩, ok2, r2, g2⟩ := settle_ok ok1 r g q
  obtain ⟨p, vs0, w1, w2, w3, w4, w5⟩ := ok2.ownAt e0
  refine ⟨_, w1, ?_⟩
  refine ⟨F2, env2, A2, ok2, ma.ap q (fun ia env3 ⟨k, ds, n, j, e1, e2, e3, q⟩ iv F3 H3 A3 g3 ok3 r3 => ?_) fun _ _ z F' H' A' Ca g' => z σ F' H' A' Ca (g2.trans g')⟩
  subst e2
  cases r3
  obtain ⟨p', vs, z1, z2, z3, z4, z5⟩ := ok3.ownAt e1
  rw [w1] at z1; cases z1
  obtain ⟨ok4, g4⟩ := z5 _ _ (z4.set j (r2.mono g3.fr))
  exact ⟨_, vs, n, j, rfl, rfl, z3, by rw [z4.length]; exact e3, q _ _ _ _ ((g2.trans g3).trans g4) ok4⟩
/-! methods of a list -/
def fewA (e : Expr) : Bool := notStar e
theorem s_app (hX : XOk X G cl I lv) (he : OE X cl B W a fa) (mf : MonoE fa) (h1 : I.N[i]? = some x) (h2 : vis I x = true) (h3 : (x == ("__debug__" : Str)) = false) (h4 : (x == ("__classdict__" : Str)) = false) (hs : notStar a = true) (hl : (p2.endLine == p3.line) = true) :
    OS X cl B W (.Expr (.Call (.Attribute (.Name x p1) "append" p2) [a] [] p3) pos) (fun env P => (∃ k ds, env[i]? = some (.own k ds)) ∧ fa env (fun v env1 => settle env1 v fun d env2 => ∃ k ds, env2[i]? = some (.own k ds) ∧ ds.length < sizeLine ∧ P.nx (env2.set i (.own k (ds ++ [d])))) P.er) := by
  refine PS.imp (ps_expr (pe_bm PySem.F.plainAttrs_list PySem.F.slot_list_append PySem.F.type_list_append mt_append (pe_slot hX h1 h2 h3 h4) (pa_cons he pa_nil (by cases a <;> first | rfl | cases hs)) rfl (by cases a <;> first | rfl | cases hs) hl (by cases a <;> first | rfl | cases hs) rfl) rfl) fun D σ H ⟨F, env, A, ok, ⟨k0, ds0, e0⟩, h⟩ => ?_
  obtain ⟨p, vs0, w1, w2, w3, w4, w5⟩ := ok.ownAt e0
  refine ⟨_, w1, .inl ⟨rfl, vs0, SqL.of w3⟩, ?_⟩
  refine stepS mf ok h fun e env1 q v F1 H1 A1 g ok1 r => ?_
  obtain ⟨d, env2, F2, A2, ⟨k, ds, e1, e2, q⟩, ok2, r2, g2⟩ := settle_ok ok1 r g q
  obtain ⟨p', vs, z1, z2, z3, z4, z5⟩ := ok2.ownAt e1
  rw [w1] at z1; cases z1
  obtain ⟨ok4, g4⟩ := z5 _ _ (z4.append (.cons r2 .nil))
  exact ⟨_, vs, v, rfl, rfl, z3, by rw [z4.length]; exact e2, q _ _ _ _ (g2.trans g4) ok4⟩

def tIxs : E → TE
  | .cst (.int n) => tC (.int n)
  | .var i => tVar i
  | _ => fun _ _ _ => False
def ixP (I : Info) : E → Expr → Bool
  | .cst (.int n), .Constant (.int m) _ _ => decide (n = m)
  | .var i, .Name x _ => decide (I.N[i]? = some x) && vis I x && !(x == ("__debug__" : Str)) && !(x == ("__classdict__" : Str))
  | _, _ => false
theorem pe_ixs (hX : XOk X G cl I lv) : ∀ {e : E} {a : Expr}, ixP I e a = true → PE X a (tIxs e) := fun {e a} h => by
  cases e with
  | cst c =>
    cases c with
    | int n =>
      cases a with
      | Constant k j p =>
        cases k with
        | int m =>
          simp only [ixP, decide_eq_true_eq] at h
          subst h
          exact pe_int
        | _ => cases h
      | _ => cases h
    | _ => cases a <;> cases h
  | var i =>
    cases a with
    | Name x p =>
      simp only [ixP, Bool.and_eq_true, decide_eq_true_eq, Bool.not_eq_true'] at h
      exact pe_slot hX h.1.1.1 h.1.1.2 h.1.2 h.2
    | _ => cases h
  | _ => cases a <;> cases h
theorem ixP_slice {e : E} {a : Expr} (h : ixP I e a = true) : notSlice a = true := by
  cases a with
  | Slice _ _ _ _ => cases e <;> first | cases h | (rename_i c; cases c <;> cases h)
  | _ => rfl
theorem ixs_ok {K : PySem.W.Frag} {F H : Hp} {σ : L2.St} {env : En} {A : List (List Addr)} {e : E} {n : Int} {Q : VK} (ok : SOk K cl B F H σ env A) (h : pureIx env e = some n) (q : Q (.int n) H) : tIxs e σ H Q := by
  cases e with
  | cst c =>
    cases c with
    | int m => cases h; exact q
    | _ => cases h
  | var i =>
    simp only [pureIx] at h
    split at h
    · rename_i m he
      cases h
      obtain ⟨w, as, e1, e2, e3, v, e4, r⟩ := ok.at he
      subst e4
      cases r
      exact ⟨_, e1, q⟩
    · cases h
  | _ => cases h
theorem plainIx_of {a : Expr} (h : notSlice a = true) : PlainIx a := by
  intro v u
  cases a <;> first | rfl | cases h
theorem Rows2.at {K : PySem.W.Frag} {F H : Hp} : ∀ {bs : List Addr} {dss : List (List D)} {j : Nat} {row : List D}, Rows2 K cl F H bs dss → dss[j]? = some row → ∃ b vs, bs[j]? = some b ∧ F b = none ∧ H b = some (.lst vs) ∧ RepL K cl F vs row
  | _, _, _, _, .nil, h => by simp at h
  | _, _, 0, _, .cons a b c _, h => by simp at h; subst h; exact ⟨_, _, rfl, a, b, c⟩
  | _, _, j + 1, _, .cons _ _ _ t, h => by
    obtain ⟨b, vs, h1, h2⟩ := Rows2.at (j := j) t (by simpa using h)
    exact ⟨b, vs, by simpa using h1, h2⟩
theorem Rows2.len {K : PySem.W.Frag} {F H : Hp} {bs : List Addr} {dss : List (List D)} (r : Rows2 K cl F H bs dss) : bs.length = dss.length := by
  induction r with
  | nil => rfl
  | cons _ _ _ _ ih => simp [ih]
theorem Rows2.upd {K : PySem.W.Frag} {F H : Hp} {p : Addr} {ws : List V} {es : List D} (rw' : RepL K cl F ws es) : ∀ {bs : List Addr} {dss : List (List D)} {j : Nat}, Rows2 K cl F H bs dss → bs.Nodup → bs[j]? = some p → Rows2 K cl F (upd H p (.lst ws)) bs (dss.set j es)
  | _, _, _, .nil, _, _ => .nil
  | b :: bs, _, 0, .cons a b' c t, nd, h => by
    simp at h
    subst h
    rw [List.nodup_cons] at nd
    refine .cons a upd_same rw' (t.mono (fun _ _ h => h) (fun _ _ h => h) fun x m o h => ?_)
    rw [upd_ne (fun e => by subst e; exact nd.1 m)]; exact h
  | b :: bs, _, j + 1, .cons a b' c t, nd, h => by
    rw [List.nodup_cons] at nd
    have h' : bs[j]? = some p := by simpa using h
    have ne : b ≠ p := fun e => by subst e; exact nd.1 (List.mem_of_getElem? h')
    exact .cons a (by rw [upd_ne ne]; exact b') c (Rows2.upd rw' t nd.2 h')
theorem nd_at {A : List (List Addr)} {i : Nat} {as : List Addr} (nd : A.flatten.Nodup) (h : A[i]? = some as) : as.Nodup := by
  obtain ⟨hi, e⟩ := List.getElem?_eq_some_iff.mp h
  subst e
  rw [fl_split hi] at nd
  exact (List.nodup_append.mp (List.nodup_append.mp nd).2.1).1
theorem s_setIx2 {ea eb : E} (hX : XOk X G cl I lv) (he : OE X cl B W c fc) (mf : MonoE fc) (ha : ixP I ea a = true) (hb : ixP I eb b = true) (h1 : I.N[i]? = some x) (h2 : vis I x = true) (h3 : (x == ("__debug__" : Str)) = false) (h4 : (x == ("__classdict__" : Str)) = false) (hp : plainA c = true) :
    OS X cl B W (.Assign [.Subscript (.Subscript (.Name x p1) a p2) b p3] c pos) (fun env P => fc env (fun v env1 => settle env1 v fun d env2 => ∃ dss n j row m l, env2[i]? = some (.own2 dss) ∧ pureIx env2 ea = some n ∧ ixN dss.length n = some j ∧ dss[j]? = some row ∧
      pureIx env2 eb = some m ∧ ixN row.length m = some l ∧ P.nx (env2.set i (.own2 (dss.set j (row.set l d))))) P.er) := by
  refine PS.imp (ps_asg he (pg_sub (pe_ix ix_seq (pe_slot hX h1 h2 h3 h4) (pe_ixs hX ha) (plainIx_of (ixP_slice ha))) (pe_ixs hX hb) set_list (set_sub (ixP_slice hb))) (sole_no hp) sw_sub) fun D σ H ⟨F, env, A, ok, h⟩ => ?_
  refine stepS mf ok h fun e env1 q v F1 H1 A1 g ok1 r => ?_
  obtain ⟨d, env2, F2, A2, ⟨dss, n, j, row, m, l, e1, e2, e3, e4, e5, e6, q⟩, ok2, r2, g2⟩ := settle_ok ok1 r g q
  obtain ⟨w, as, w1, w2, p, bs, w3, w4, w5, w6, w7⟩ := ok2.at e1
  subst w3 w4
  obtain ⟨rb, vs, y1, y2, y3, y4⟩ := w7.at e4
  have ndA := nd_at ok2.nd w2
  have hat : atI (bs.map V.ref) n = some (.ref rb) := by
    unfold atI
    have : ixN (bs.map V.ref).length n = some j := by rw [List.length_map, w7.len]; exact e3
    rw [this]
    simp [y1]
  refine ⟨_, w1, ixs_ok ok2 e2 (.inl ⟨p, bs.map V.ref, n, .ref rb, rfl, rfl, SqL.of w6, hat, ?_⟩)⟩
  refine ixs_ok ok2 e5 ⟨rb, vs, m, l, rfl, rfl, y3, by rw [y4.length]; exact e6, ?_⟩
  have mrb : rb ∈ bs := List.mem_of_getElem? y1
  have npb : p ≠ rb := fun e => by subst e; exact (List.nodup_cons.mp ndA).1 mrb
  have rr := Rows2.upd (H := H1) (y4.set l r2) w7 (List.nodup_cons.mp ndA).2 y1
  obtain ⟨ok4, g4⟩ := ok2.updO (o := .lst (vs.set l v)) (sl := .own2 (dss.set j (row.set l d))) w1 w2 (List.mem_cons_of_mem _ mrb) ⟨p, bs, rfl, rfl, w5, by rw [upd_ne npb]; exact w6, rr⟩
  exact q _ _ _ _ (g2.trans g4) ok4
end
end PF

set_option Elab.async false
set_option linter.all false
set_option maxRecDepth 100000
set_option maxHeartbeats 4000000

namespace PF
open PySem PySem.Spec PyProof.Rows L2
section
variable {X : Cx} {G : Tb} {cl : Str → Option Addr} {B : List Addr} {W : WX} {I : Info} {lv : Nat} {a b c tg : Expr} {es : List Expr} {pos p1 p2 p3 p4 : Pos} {fa fb fc : SemE} {x y z : Str} {i j k : Nat}

def rExtR : V → List V → Hp → VK → Prop := fun x vs H Q => ∃ l b xs zs, x = .ref l ∧ vs = [.ref b] ∧ H l = some (.lst xs) ∧ Rd H b (.lst zs) ∧ xs.length + zs.length ≤ sizeLine ∧ Q .non (upd H l (.lst (xs ++ zs)))
theorem mt_extR : MtM X "list.extend" rExtR := by
  intro pins s σ H x vs v us Q I rx rv h
  obtain ⟨l, b, xs, zs, rfl, rfl, hH, hB, hz, q⟩ := h
  rcases hB with hB | ⟨o, hB⟩
  · exact mt_extend pins s σ H _ _ v us Q I rx rv ⟨l, b, xs, zs, rfl, rfl, hH, hB, hz, q⟩
  cases rx
  obtain ⟨u, rfl, ru⟩ := rv.one
  cases ru
  obtain ⟨z, its, n, r, hl, e⟩ := I.lstM hH
  obtain ⟨z2, its2, n2, r2, e2⟩ := (show Rd H b (.lst zs) from .inr ⟨o, hB⟩).ok I.hok
  have hl2 := r2.length
  have hsz : its.toArray.size + its2.toArray.size ≤ sizeLine := by rw [List.size_toArray, List.size_toArray]; omega
  have hlong : ¬ (!its.toArray.isEmpty && Builtin.List.listTooLong (its.toArray.size + its2.toArray.size)) = true := by
    rw [notLongL hsz, Bool.and_false]
    exact Bool.false_ne_true
  refine call_meets F.slot_list_extend ⟨_, e, rfl⟩ F.entry_list_extend (F.args_list_extend_2 _ _)
    (AutoSeq1.list_extend_list_list_0 l its.toArray n b its2.toArray n2 hlong (by rw [List.size_toArray]; omega) (by omega)) ⟨e, e2, ?_⟩
  refine ⟨.non, _, I.lset (its' := its ++ its2) hH e (by simp) (r.append r2) ?_, rfl, q⟩
  rw [List.length_append]
  omega

theorem s_ext (hX : XOk X G cl I lv) (he : OE X cl B W a fa) (mf : MonoE fa) (h1 : I.N[i]? = some x) (h2 : vis I x = true) (h3 : (x == ("__debug__" : Str)) = false) (h4 : (x == ("__classdict__" : Str)) = false) (hs : notStar a = true) (hl : (p2.endLine == p3.line) = true) :
    OS X cl B W (.Expr (.Call (.Attribute (.Name x p1) "extend" p2) [a] [] p3) pos) (fun env P => (∃ k ds, env[i]? = some (.own k ds)) ∧ fa env (fun v env1 => settle env1 v fun d env2 => ∃ k ds es, env2[i]? = some (.own k ds) ∧ d = .lst es ∧ ds.length + es.length ≤ sizeLine ∧ P.nx (env2.set i (.own k (ds ++ es)))) P.er) := by
  refine PS.imp (ps_expr (pe_bm PySem.F.plainAttrs_list PySem.F.slot_list_extend PySem.F.type_list_extend mt_extR (pe_slot hX h1 h2 h3 h4) (pa_cons he pa_nil (by cases a <;> first | rfl | cases hs)) rfl (by cases a <;> first | rfl | cases hs) hl (by cases a <;> first | rfl | cases hs) rfl) rfl) fun D σ H ⟨F, env, A, ok, ⟨k0, ds0, e0⟩, h⟩ => ?_
  obtain ⟨p, vs0, w1, w2, w3, w4, w5⟩ := ok.ownAt e0
  refine ⟨_, w1, .inl ⟨rfl, vs0, SqL.of w3⟩, ?_⟩
  refine stepS mf ok h fun e env1 q v F1 H1 A1 g ok1 r => ?_
  obtain ⟨d, env2, F2, A2, ⟨k, ds, es, e1, e2, e3, q⟩, ok2, r2, g2⟩ := settle_ok ok1 r g q
  subst e2
  obtain ⟨p', vs, z1, z2, z3, z4, z5⟩ := ok2.ownAt e1
  rw [w1] at z1; cases z1
  cases r2 with
  | lst rd rl =>
    obtain ⟨ok4, g4⟩ := z5 _ _ (z4.append rl)
    exact ⟨_, _, vs, _, rfl, rfl, z3, rd_mono ok2.sub rd, by rw [z4.length, rl.length]; exact e3, q _ _ _ _ (g2.trans g4) ok4⟩
theorem s_popA (hX : XOk X G cl I lv) (h1 : I.N[i]? = some x) (h2 : vis I x = true) (h3 : (x == ("__debug__" : Str)) = false) (h4 : (x == ("__classdict__" : Str)) = false) (k1 : I.N[j]? = some y) (k2 : tgOk I y = true) (hl : (p2.endLine == p3.line) = true) :
    OS X cl B W (.Assign [.Name y p4] (.Call (.Attribute (.Name x p1) "pop" p2) [] [] p3) pos) (fun env P => ∃ k ds d, env[i]? = some (.own k ds) ∧ i ≠ j ∧ ds[ds.length - 1]? = some d ∧ P.nx ((env.set i (.own k ds.dropLast)).set j (.fz d))) := by
  refine PS.imp (ps_set (by rw [hX.N]; exact hX.nd) (by rw [hX.N]; exact k1) (hX.Loc k2).1 (pe_bm0 PySem.F.plainAttrs_list PySem.F.slot_list_pop PySem.F.type_list_pop mt_pop (pe_slot hX h1 h2 h3 h4) rfl hl) rfl (hX.Loc k2).2) fun D σ H ⟨F, env, A, ok, k, ds, d, e0, e1, e2, q⟩ => ?_
  obtain ⟨p, vs, z1, z2, z3, z4, z5⟩ := ok.ownAt e0
  obtain ⟨v, hv, rv⟩ := z4.get e2
  obtain ⟨ok4, g4⟩ := z5 _ _ z4.dropLast
  refine ⟨_, z1, .inl ⟨rfl, vs, SqL.of z3⟩, p, vs, v, rfl, rfl, z3, by rw [z4.length]; exact hv, ?_⟩
  exact q _ _ _ _ (g4.trans Gr.putNo) (ok4.putFz rv)
theorem s_expr (he : OE X cl B W a fa) (mf : MonoE fa) (hp : plainA a = true) : OS X cl B W (.Expr a pos) (fun env P => fa env (fun _ env1 => P.nx env1) P.er) :=
  PS.imp (ps_expr he (swaps_no hp)) fun D σ H ⟨F, env, A, ok, h⟩ => stepS mf ok h fun e env1 q v F1 H1 A1 g ok1 r => q _ _ _ _ g ok1
theorem s_ret (he : OE X cl B W a fa) (mf : MonoE fa) : OS X cl B W (.Return (some a) pos) (fun env P => fa env (fun v env1 => settle env1 v P.rt) P.er) :=
  PS.imp (ps_ret he) fun D σ H ⟨F, env, A, ok, h⟩ => stepS mf ok h fun e env1 q v F1 H1 A1 g ok1 r => by
    obtain ⟨d, env2, F2, A2, q, ok2, r2, g2⟩ := settle_ok ok1 r g q
    exact q _ _ _ _ _ g2 ok2 r2
theorem s_retN : OS X cl B W (.Return none pos) (fun env P => P.rt .non env) :=
  PS.imp ps_retN fun D σ H ⟨F, env, A, ok, h⟩ => h _ _ _ _ _ (.refl ..) ok .non
theorem s_pas : OS X cl B W (.Pass pos) (fun env P => P.nx env) :=
  PS.imp ps_pass fun D σ H ⟨F, env, A, ok, h⟩ => h _ _ _ _ (.refl ..) ok
theorem s_doc {m : Str} {n : Nat} : OS X cl B W (.Expr (.Constant (.str m) n p1) pos) (fun env P => P.nx env) :=
  PS.imp ps_doc fun D σ H ⟨F, env, A, ok, h⟩ => h _ _ _ _ (.refl ..) ok
theorem tS_sh {g : SemS} (mg : MonoS g) {D : Ends} {F H F1 H1 : Hp} {A A1 : List (List Addr)} {σ1 : L2.St} {env1 : En} (gr : Gr F H A F1 H1 A1) (ok : SOk X.K cl B F1 H1 σ1 env1 A1) (h : g env1 (PoK X.K cl B W F H A D)) : tS X.K cl B W g D σ1 H1 :=
  ⟨F1, env1, A1, ok, mg _ _ _ h (PoK.sh gr)⟩
theorem s_nil : OSs X cl B W [] (fun env P => P.nx env) :=
  PSs.imp pss_nil fun D σ H ⟨F, env, A, ok, h⟩ => h _ _ _ _ (.refl ..) ok
theorem s_cons {s : Stmt} {l : List Stmt} {f g : SemS} (hs : OS X cl B W s f) (hl : OSs X cl B W l g) (mf : MonoS f) (mg : MonoS g) : OSs X cl B W (s :: l) (fun env P => f env { P with nx := fun env1 => g env1 P }) := by
  refine PSs.imp (pss_cons hs hl) fun D σ H ⟨F, env, A, ok, h⟩ => ?_
  exact ⟨F, env, A, ok, mf _ _ _ h ⟨fun env1 q σ' F' H' A' gr ok' => tS_sh mg gr ok' q, fun _ _ z => z, fun _ z => z, fun _ z => z, fun _ _ z => z⟩⟩
theorem frz_ok {g : SemS} (mg : MonoS g) {D : Ends} {σ : L2.St} : ∀ (is : List Nat) {H : Hp} {F : Hp} {env : En} {A : List (List Addr)}, SOk X.K cl B F H σ env A → g (frzs env is) (PoK X.K cl B W F H A D) → tS X.K cl B W g D σ H
  | [], H, F, env, A, ok, h => ⟨F, env, A, ok, h⟩
  | i :: is, H, F, env, A, ok, h => by
    have go : ∀ sl v, env[i]? = some sl → σ[i]? = some (some v) → (∀ Q : PF.D → En → Prop, (∀ d, Q d (frz1 env i)) → settle env (.vw i) Q) → tS X.K cl B W g D σ H := fun sl v he hs hq => by
      obtain ⟨d, env1, F1, A1, q, ok1, r1, g1⟩ := settle_ok (e := .vw i) (v := v) (H0 := H) (Q := fun _ env1 => env1 = frz1 env i) ok hs (Gr.refl F H A) (hq _ fun _ => rfl)
      subst q
      exact frz_ok mg is ok1 (mg _ _ _ h (PoK.sh g1))
    have h' : g (frzs (frz1 env i) is) (PoK X.K cl B W F H A D) := h
    by_cases hf : frz1 env i = env
    · rw [hf] at h'; exact frz_ok mg is ok h'
    · cases he : env[i]? with
      | none => exact (hf (by unfold frz1; simp only [he])).elim
      | some sl =>
        obtain ⟨v, as, h1, h2, r⟩ := ok.at he
        cases sl with
        | own k ds =>
          cases k with
          | zero =>
            obtain ⟨a, vs, e1, _⟩ := r
            subst e1
            exact go _ _ he h1 fun Q q => by
              have : frz1 env i = env.set i (.fz (.lst ds)) := by unfold frz1; simp only [he]
              unfold settle
              simp only [he]
              rw [← this]; exact q _
          | succ k => exact (hf (by unfold frz1; simp only [he])).elim
        | own2 dss =>
          obtain ⟨a, bs, e1, _⟩ := r
          subst e1
          exact go _ _ he h1 fun Q q => by
            have : frz1 env i = env.set i (.fz (.lst (dss.map .lst))) := by unfold frz1; simp only [he]
            unfold settle
            simp only [he]
            rw [← this]; exact q _
        | no => exact (hf (by unfold frz1; simp only [he])).elim
        | fz d => exact (hf (by unfold frz1; simp only [he])).elim
        | ob C fs => exact (hf (by unfold frz1; simp only [he])).elim
        | dicF kvs => exact (hf (by unfold frz1; simp only [he])).elim
        | dic kvs =>
          obtain ⟨a, ks, e1, e2, e3, e4, r⟩ := r
          subst e1 e2
          have e5 : frz1 env i = env.set i (.dicF kvs) := by unfold frz1; simp only [he]
          rw [e5] at h'
          have hi : i < σ.length := (List.getElem?_eq_some_iff.mp h1).1
          have hiA : i < A.length := by rw [ok.lenA]; exact hi
          have hA : A[i] = [a] := (List.getElem?_eq_some_iff.mp h2).2
          have ok1 := ok.put (i := i) (sl := .no) (w := some (.ref a)) (as := []) hi rfl .nil (fun _ m => nomatch m) (fun _ m => nomatch m) fun _ m => nomatch m
          have nm : a ∉ (A.set i []).flatten := not_fl_set hiA ok.nd (by rw [hA]; simp) (by simp)
          have ok2 := ok1.freeze e4 e3 nm
          have r3 : RepS X.K cl B (upd F a (.dK ks)) H (some (.ref a)) [] (.dicF kvs) := ⟨rfl, _, _, rfl, Rd.of upd_same, r.mono (upd_mono e3)⟩
          have ok3 := ok2.put (i := i) (sl := .dicF kvs) (w := some (.ref a)) (as := []) (by simpa using hi) r3 .nil (fun _ m => nomatch m) (fun _ m => nomatch m) fun _ m => nomatch m
          rw [List.set_set, List.set_set, List.set_set, set_id h1] at ok3
          exact frz_ok mg is ok3 (mg _ _ _ h' (PoK.sh (Gr.freeze (fun b m => (fl_set m).elim id fun z => nomatch z) e3 (.inr (mem_fl h2 (by simp))))))
theorem s_consF {s : Stmt} {l : List Stmt} {f g : SemS} (hs : OS X cl B W s f) (hl : OSs X cl B W l g) (mf : MonoS f) (mg : MonoS g) : OSs X cl B W (s :: l) (fun env P => ∃ is, f (frzs env is) { P with nx := fun env1 => g env1 P }) := by
  refine PSs.imp (s_cons hs hl mf mg) fun D σ H ⟨F, env, A, ok, is, h⟩ => ?_
  exact frz_ok (g := fun env P => f env { P with nx := fun env1 => g env1 P }) (fun env P P' h q => mf _ _ _ h ⟨fun env1 h => mg _ _ _ h q, q.rt, q.bk, q.ct, q.er⟩) is ok h
theorem s_ite {ft : SemT} {l m : List Stmt} {f g : SemS} (hc : OT X cl B W c ft) (ha : OSs X cl B W l f) (hb : OSs X cl B W m g) (mt : MonoT ft) (mf : MonoS f) (mg : MonoS g) :
    OS X cl B W (.If c l m pos) (fun env P => ft env (fun k env1 => if k = true then f env1 P else g env1 P) P.er) := by
  refine PS.imp (ps_if hc ha hb) fun D σ H ⟨F, env, A, ok, h⟩ => ?_
  refine stepTS mt ok h fun k env1 q F1 H1 A1 gr ok1 => ?_
  cases k with
  | true => simp only [if_true] at q ⊢; exact tS_sh mf gr ok1 q
  | false => simp only [Bool.false_eq_true, if_false] at q ⊢; exact tS_sh mg gr ok1 q
theorem for_core {t : Tg} {g : SemS} {ds : List PF.D} {D : Ends} {σ : L2.St} {F H F1 H1 : Hp} {A A1 : List (List Addr)} {env1 : En} {J : L2.It} (mg : MonoS g) (q : forL t g ds env1 (PoK X.K cl B W F H A D)) (g1 : Gr F H A F1 H1 A1) (ok1 : SOk X.K cl B F1 H1 σ env1 A1) (y : Yld X.K cl J F1 ds) :
    ∃ Wv : Nat → Nat → L2.St → Hp → Prop, (∃ m, Wv 0 m σ H1) ∧ ∀ i m σ H, Wv i m σ H →
      (J.stop i H ∧ D.nx σ H) ∨ (J.go i H ∧ ∃ N : L2.St → Hp → Prop, (∀ σ' H', N σ' H' → ∃ m', m' < m ∧ Wv (i + 1) m' σ' H') ∧ ∀ x H', J.yld i H x H' → gOf X.K t x σ H' fun σ2 H2 => tS X.K cl B W g { D with nx := N, ct := N, bk := D.nx } σ2 H2) := by
  refine ⟨fun i m σ' H' => m = ds.length - i ∧ i ≤ ds.length ∧ ∃ F' env' A', Gr F H A F' H' A' ∧ Gr F1 H1 A1 F' H' A' ∧ SOk X.K cl B F' H' σ' env' A' ∧ forL t g (ds.drop i) env' (PoK X.K cl B W F H A D), ⟨ds.length, by simp, Nat.zero_le _, F1, env1, A1, g1, .refl .., ok1, q⟩, ?_⟩
  rintro i m σ' H' ⟨em, hle, F', env', A', gr, gr1, ok', hL⟩
  rcases Nat.lt_or_eq_of_le hle with hlt | he
  · refine .inr ⟨y.go i H' hlt fun a o z => ok'.sub _ _ (gr1.fr _ _ z), ?_⟩
    have hd : ds.drop i = ds[i] :: ds.drop (i + 1) := (List.getElem_cons_drop hlt).symm
    rw [hd] at hL
    obtain ⟨env2, e1, hB⟩ := hL
    refine ⟨fun σ2 H2 => ∃ m', m' < m ∧ m' = ds.length - (i + 1) ∧ i + 1 ≤ ds.length ∧ ∃ F' env' A', Gr F H A F' H2 A' ∧ Gr F1 H1 A1 F' H2 A' ∧ SOk X.K cl B F' H2 σ2 env' A' ∧ forL t g (ds.drop (i + 1)) env' (PoK X.K cl B W F H A D), fun σ2 H2 ⟨m', q1, q2⟩ => ⟨m', q1, q2⟩, fun v H2 yv => ?_⟩
    obtain ⟨d, hd1, hv⟩ := y.yld i H' v H2 hlt (fun a o z => ok'.sub _ _ (gr1.fr _ _ z)) yv
    rw [List.getElem?_eq_getElem hlt] at hd1
    cases hd1
    have go : ∀ {F2 : Hp}, Gr F' H' A' F2 H2 A' → SOk X.K cl B F2 H2 σ' env' A' → Rep X.K cl F2 v ds[i] → gOf X.K t v σ' H2 fun σ2 H2 => tS X.K cl B W g { D with
        nx := fun σ2 H2 => ∃ m', m' < m ∧ m' = ds.length - (i + 1) ∧ i + 1 ≤ ds.length ∧ ∃ F' env' A', Gr F H A F' H2 A' ∧ Gr F1 H1 A1 F' H2 A' ∧ SOk X.K cl B F' H2 σ2 env' A' ∧ forL t g (ds.drop (i + 1)) env' (PoK X.K cl B W F H A D)
        ct := fun σ2 H2 => ∃ m', m' < m ∧ m' = ds.length - (i + 1) ∧ i + 1 ≤ ds.length ∧ ∃ F' env' A', Gr F H A F' H2 A' ∧ Gr F1 H1 A1 F' H2 A' ∧ SOk X.K cl B F' H2 σ2 env' A' ∧ forL t g (ds.drop (i + 1)) env' (PoK X.K cl B W F H A D)
        bk := D.nx } σ2 H2 := fun {F2} g2 ok2 r2 => by
      refine gOf_ok ok2 r2 e1 fun σ3 A3 ok3 g3 _ => ⟨F2, env2, A3, ok3, mg _ _ _ hB ⟨fun env4 q4 σ4 F4 H4 A4 g4 ok4 => ?_, fun d env4 q4 v σ4 F4 H4 A4 g4 ok4 r4 => ?_, fun env4 q4 σ4 F4 H4 A4 g4 ok4 => ?_, fun env4 q4 σ4 F4 H4 A4 g4 ok4 => ?_, fun c env4 q4 σ4 F4 H4 A4 Ca g4 ok4 => ?_⟩⟩
      · exact ⟨_, by omega, rfl, hlt, F4, env4, A4, ((gr.trans g2).trans g3).trans g4, ((gr1.trans g2).trans g3).trans g4, ok4, q4⟩
      · exact q4 _ _ _ _ _ (((gr.trans g2).trans g3).trans g4) ok4 r4
      · exact q4 _ _ _ _ (((gr.trans g2).trans g3).trans g4) ok4
      · exact ⟨_, by omega, rfl, hlt, F4, env4, A4, ((gr.trans g2).trans g3).trans g4, ((gr1.trans g2).trans g3).trans g4, ok4, q4⟩
      · exact q4 _ _ _ _ _ (((gr.trans g2).trans g3).trans g4) ok4
    rcases hv with ⟨e, r⟩ | ⟨p, vs, es, hp', e1', e2', e3', r⟩
    · subst e; exact go (.refl ..) ok' (r.mono gr1.fr)
    · subst e1' e2'
      have fp : F' p = none := by
        cases z : F' p with
        | none => rfl
        | some u => rw [ok'.sub _ _ z] at hp'; cases hp'
      refine go (Gr.layF ok'.sub hp') (ok'.layF hp') ?_
      rw [e3']
      exact .tup (SqT.of upd_same) ((r.mono gr1.fr).mono (upd_mono fp))
  · subst he
    refine .inl ⟨(y.mono gr1.fr).stop H' ok'.sub, ?_⟩
    rw [List.drop_length] at hL
    exact hL _ _ _ _ gr ok'
theorem s_for {t : Tg} {iter : Expr} {body : List Stmt} {fi : SemI} {g : SemS} (hp : PassesOwn (model X.prog X.w) X.A X.env X.xe) (hX : XOk X G cl I lv) (hi : OI X cl B W tg iter fi) (hg : chkTg I t tg = true) (hb : OSs X cl B W body g) (hs : notSet iter = true)
    (mi : MonoI fi) (mg : MonoS g) : OS X cl B W (.For tg iter body [] pos) (fun env P => fi env (fun ds env1 => forL t g ds env1 P) P.er) := by
  refine PS.imp (ps_for hp hX.calm hi (pg_of hX hg) hb (fold_set hs)) fun D σ H ⟨F, env, A, ok, h⟩ => ?_
  refine ⟨F, env, A, ok, mi.ap h (fun ds env1 q J F1 H1 A1 g1 ok1 y => ?_) fun _ _ z => PoK.er_kr z⟩
  exact for_core mg q g1 ok1 y
theorem s_whl {ft : SemT} {body : List Stmt} {g : SemS} (hp : PassesOwn (model X.prog X.w) X.A X.env X.xe) (hc : OT X cl B W c ft) (hb : OSs X cl B W body g) (mt : MonoT ft) (mg : MonoS g) :
    OS X cl B W (.While c body [] pos) (fun env P => ∃ (I : En → Prop) (μ : En → Nat), I env ∧ ∀ env, I env → ft env (fun k env1 =>
      if k = true then g env1 { nx := fun env2 => I env2 ∧ μ env2 < μ env, rt := P.rt, bk := P.nx, ct := fun env2 => I env2 ∧ μ env2 < μ env, er := P.er } else P.nx env1) P.er) := by
  refine PS.imp (ps_while hp hc hb) fun D σ H ⟨F, env, A, ok, Iv, μ, h0, h⟩ => ?_
  refine ⟨fun m σ' H' => ∃ F' env' A', Gr F H A F' H' A' ∧ SOk X.K cl B F' H' σ' env' A' ∧ Iv env' ∧ m = μ env', ⟨_, F, env, A, .refl .., ok, h0, rfl⟩, ?_⟩
  rintro m σ' H' ⟨F', env', A', gr, ok', hi, em⟩
  subst em
  refine ⟨F', env', A', ok', mt.ap (h env' hi) (fun k env1 q F1 H1 A1 g1 ok1 => ?_) fun _ _ z => (PoK.er_kr z).sh gr⟩
  cases k with
  | false => simp only [Bool.false_eq_true, if_false] at q ⊢; exact q _ _ _ _ (gr.trans g1) ok1
  | true =>
    simp only [if_true] at q ⊢
    refine ⟨fun σ2 H2 => ∃ m', m' < μ env' ∧ ∃ F2 env2 A2, Gr F H A F2 H2 A2 ∧ SOk X.K cl B F2 H2 σ2 env2 A2 ∧ Iv env2 ∧ m' = μ env2, fun σ2 H2 z => z, ?_⟩
    refine ⟨F1, env1, A1, ok1, mg _ _ _ q ⟨fun env4 q4 σ4 F4 H4 A4 g4 ok4 => ?_, fun d env4 q4 v σ4 F4 H4 A4 g4 ok4 r4 => ?_, fun env4 q4 σ4 F4 H4 A4 g4 ok4 => ?_, fun env4 q4 σ4 F4 H4 A4 g4 ok4 => ?_, fun c env4 q4 σ4 F4 H4 A4 Ca g4 ok4 => ?_⟩⟩
    · exact ⟨_, q4.2, F4, env4, A4, (gr.trans g1).trans g4, ok4, q4.1, rfl⟩
    · exact q4 _ _ _ _ _ ((gr.trans g1).trans g4) ok4 r4
    · exact q4 _ _ _ _ ((gr.trans g1).trans g4) ok4
    · exact ⟨_, q4.2, F4, env4, A4, (gr.trans g1).trans g4, ok4, q4.1, rfl⟩
    · exact q4 _ _ _ _ _ ((gr.trans g1).trans g4) ok4
theorem s_rai {m : Str} {n : Nat} {C : Str} {Ca : Addr} (hX : XOk X G cl I lv) (tk : Takes X W) (hg : glb I C = true) (hc : cl C = some Ca) (he : ExC X.K X.mg C Ca) :
    OS X cl B W (.Raise (some (.Call (.Name C p1) [.Constant (.str m) n p2] [] p3)) none pos) (fun env P => P.er C env) :=
  PS.imp (ps_raise hX.calm tk (pmk_own PySem.F.excBase_ValueError he.x he.g he.k (raises_own he.b he.t) (hX.gl hg).1 (hX.gl hg).2)) fun D σ H ⟨F, env, A, ok, h⟩ => h _ _ _ _ _ (.refl ..) ok hc
end
end PF

set_option Elab.async false
set_option linter.all false
set_option maxRecDepth 100000
set_option maxHeartbeats 4000000

namespace PF
open PySem PySem.Spec PyProof.Rows L2
/-! ## try: the suite's expressions -/
section
variable {X : Cx} {G : Tb} {cl : Str → Option Addr} {B : List Addr} {W : WX} {I : Info} {lv : Nat} {a b c : Expr} {es : List Expr} {pos p1 p2 p3 p4 : Pos} {x y z : Str} {ad : Addr} {i : Option Nat}
/-- the slot of the exception's name -/
def sAt (σ : L2.St) (ad : Addr) (i : Option Nat) : Prop := ∀ j, i = some j → σ[j]? = some (some (.ref ad))
def tX (K : PySem.W.Frag) (cl : Str → Option Addr) (B : List Addr) (ad : Addr) (i : Option Nat) (P : D → Prop) : TE := fun σ H Q => ∃ F env A, SOk K cl B F H σ env A ∧ sAt σ ad i ∧ ∃ d, P d ∧ ∀ v F' H', Gr F H A F' H' A → SOk K cl B F' H' σ env A → Rep K cl F' v d → Q v H'
def tXs (K : PySem.W.Frag) (cl : Str → Option Addr) (B : List Addr) (ad : Addr) (i : Option Nat) (P : List D → Prop) : TA := fun σ H Q => ∃ F env A, SOk K cl B F H σ env A ∧ sAt σ ad i ∧ ∃ ds, P ds ∧ ∀ vs F' H', Gr F H A F' H' A → SOk K cl B F' H' σ env A → RepL K cl F' vs ds → Q vs H'
abbrev PX (X : Cx) (cl : Str → Option Addr) (B : List Addr) (ad : Addr) (i : Option Nat) (e : Expr) (P : D → Prop) : Prop := PE X e (tX X.K cl B ad i P)
abbrev PXs (X : Cx) (cl : Str → Option Addr) (B : List Addr) (ad : Addr) (i : Option Nat) (e : List Expr) (P : List D → Prop) : Prop := PA X e (tXs X.K cl B ad i P)
theorem x_cst {k : Cst} {m : Const} {n : Nat} (h : cstEq k m = true) : PX X cl B ad i (.Constant m n pos) (fun d => d = k.dt) := by
  have r : ∃ v, (∀ F, Rep X.K cl F v k.dt) ∧ PE X (.Constant m n pos) (tC v) := by
    cases k <;> cases m <;> simp only [cstEq] at h <;> try (cases h)
    · exact ⟨.non, fun _ => .non, pe_non⟩
    · rename_i b c; have : b = c := by simpa using h
      subst this; exact ⟨.bl b, fun _ => .bl b, pe_bl⟩
    · rename_i b c; have : b = c := by simpa using h
      subst this; exact ⟨.int b, fun _ => .int b, pe_int⟩
    · rename_i b c; have : b = c := by simpa using h
      subst this; exact ⟨.str b, fun _ => .str b, pe_str⟩
  obtain ⟨v, r0, p⟩ := r
  refine PE.imp p fun σ H Q ⟨F, env, A, ok, _, d, e, q⟩ => ?_
  subst e
  exact q v F H (.refl ..) ok (r0 F)
theorem x_nil : PXs X cl B ad i [] (fun ds => ds = []) := PA.imp pa_nil fun σ H Q ⟨F, env, A, ok, _, d, e, q⟩ => by
  subst e; exact q _ _ _ (.refl ..) ok .nil
theorem x_cons {P : D → Prop} {Ps : List D → Prop} (hn : notStar a = true) (ha : PX X cl B ad i a P) (hs : PXs X cl B ad i es Ps) : PXs X cl B ad i (a :: es) (fun ds => ∃ d r, P d ∧ Ps r ∧ ds = d :: r) := by
  refine PA.imp (pa_cons ha hs (star_cons hn)) fun σ H Q ⟨F, env, A, ok, sa, ds, ⟨d, r, h1, h2, e⟩, q⟩ => ?_
  subst e
  refine ⟨F, env, A, ok, sa, d, h1, fun v F' H' g ok' rv => ⟨F', env, A, ok', sa, r, h2, fun vs F2 H2 g2 ok2 rs => q _ _ _ (g.trans g2) ok2 (.cons (rv.mono g2.fr) rs)⟩⟩
theorem x_tup {k : Nat} {Ps : List D → Prop} (hs : PXs X cl B ad i es Ps) (hp : ∀ ds, Ps ds → ds.length ≤ 10) : PX X cl B ad i (.Tuple es k pos) (fun d => ∃ ds, Ps ds ∧ d = .tup ds) := by
  refine PE.imp (pe_tup hs) fun σ H Q ⟨F, env, A, ok, sa, d, ⟨ds, h1, e⟩, q⟩ => ?_
  subst e
  refine ⟨F, env, A, ok, sa, ds, h1, fun vs F' H' g ok' rv => ⟨by rw [rv.length]; exact Nat.le_trans (hp _ h1) (by decide), fun p hp => ?_⟩⟩
  have fp : F' p = none := by
    cases z : F' p with
    | none => rfl
    | some u => rw [ok'.sub _ _ z] at hp; cases hp
  exact q _ _ _ (g.trans (Gr.layF ok'.sub hp)) (ok'.layF hp) (.tup (SqT.of upd_same) (rv.mono (upd_mono fp)))
theorem x_lst {Ps : List D → Prop} (hs : PXs X cl B ad i es Ps) (hp : ∀ ds, Ps ds → ds.length ≤ 10) : PX X cl B ad i (.List es pos) (fun d => ∃ ds, Ps ds ∧ d = .lst ds) := by
  refine PE.imp (pe_lst hs) fun σ H Q ⟨F, env, A, ok, sa, d, ⟨ds, h1, e⟩, q⟩ => ?_
  subst e
  refine ⟨F, env, A, ok, sa, ds, h1, fun vs F' H' g ok' rv => ⟨by rw [rv.length]; exact Nat.le_trans (hp _ h1) (by decide), fun p hp => ?_⟩⟩
  have fp : F' p = none := by
    cases z : F' p with
    | none => rfl
    | some u => rw [ok'.sub _ _ z] at hp; cases hp
  exact q _ _ _ (g.trans (Gr.layF ok'.sub hp)) (ok'.layF hp) (.lst (Rd.of upd_same) (rv.mono (upd_mono fp)))
theorem x_and {rest : List Expr} {P1 P2 : D → Prop} (ha : PX X cl B ad i a P1) (hb : PX X cl B ad i (.BoolOp .And (b :: rest) pos) P2) : PX X cl B ad i (.BoolOp .And (a :: b :: rest) pos) (fun d => ∃ x y, P1 (.bl x) ∧ P2 (.bl y) ∧ d = .bl (x && y)) := by
  refine PE.imp (pe_and ha hb) fun σ H Q ⟨F, env, A, ok, sa, d, ⟨x, y, h1, h2, e⟩, q⟩ => ?_
  subst e
  refine ⟨F, env, A, ok, sa, _, h1, fun v F' H' g ok' r => ?_⟩
  cases r
  refine ⟨x, rfl, ?_⟩
  cases x with
  | true => exact ⟨F', env, A, ok', sa, _, h2, fun v F2 H2 g2 ok2 r2 => by rw [Bool.true_and] at q; exact q _ _ _ (g.trans g2) ok2 r2⟩
  | false => exact q _ _ _ g ok' (.bl _)
theorem x_not {P : D → Prop} (ha : PX X cl B ad i a P) : PX X cl B ad i (.UnaryOp .Not a pos) (fun d => ∃ x, P (.bl x) ∧ d = .bl (!x)) := by
  refine PE.imp (pe_not ha) fun σ H Q ⟨F, env, A, ok, sa, d, ⟨x, h1, e⟩, q⟩ => ?_
  subst e
  refine ⟨F, env, A, ok, sa, _, h1, fun v F' H' g ok' r => ?_⟩
  cases r
  exact ⟨x, rfl, q _ _ _ g ok' (.bl _)⟩

/-! isinstance(e, C), e the exception that the suite holds -/
theorem x_isE {C : Str} {n : Str} {j : Nat} {c : Str} {Ca : Addr} {oe : Obj} {pn : List (Addr × Obj)} (hX : XOk X G cl I lv) (hc : cl c = some Ca) (he : G.exc c = true) (hz : Zc (.ref Ca) none oe) (hf : ∃ vs, oe.data = .fields vs) (hg : glb I "isinstance" = true) (hgC : glb I C = true) (h1 : I.N[j]? = some n) (h2 : vis I n = true) (h3 : (n == ("__debug__" : Str)) = false) (h4 : (n == ("__classdict__" : Str)) = false) :
    PX (X.suite ad ((ad, oe) :: pn)) cl B ad (some j) (.Call (.Name "isinstance" p1) [.Name n p2, .Name C p3] [] pos) (evX G c (.isE C)) := by
  obtain ⟨Ca', c1, ex⟩ := hX.gw.exc c he
  rw [hc] at c1; cases c1
  obtain ⟨g1, g2⟩ := hX.gl hg
  obtain ⟨g3, g4⟩ := hX.gl hgC
  have pn1 : PE (X.suite ad ((ad, oe) :: pn)) (.Name n p2) (tVar j) := pe_var (X := X.suite ad ((ad, oe) :: pn)) (show X.N[j]? = some n by rw [hX.N]; exact h1) (hX.vis h2) h3 h4
  refine ⟨fun pins s σ H Q J ⟨F, env, A, ok, sa, d, hd, q⟩ => ?_⟩
  have hm : X.mg "isinstance" = none := hX.gw.bi _ (by decide)
  by_cases hC : C = "ValueError"
  · subst hC
    have e : d = .bl true := by
      have hd' : (if ("ValueError" : Str) = "ValueError" then d = .bl true else (G.exc "ValueError" = true ∧ d = .bl (G.sub c "ValueError"))) := hd
      rwa [if_pos rfl] at hd'
    subst e
    have pt : PE (X.suite ad ((ad, oe) :: pn)) (.Name "ValueError" p3) (tC (.ty "ValueError")) := pe_bltn (X := X.suite ad ((ad, oe) :: pn)) g3 (hX.gw.bi _ (by decide)) (by decide +kernel) (show Value.type "ValueError" = Value.type "ValueError" from rfl) (by decide) g4
    refine (pe_callB (X := X.suite ad ((ad, oe) :: pn)) (call_isE ex.e hz hf) g1 hm (by decide +kernel) (pa_cons pn1 (pa_cons pt pa_nil)) (by decide) g2).run pins s σ H Q J ?_
    refine ⟨_, sa j rfl, .ty "ValueError", .type "ValueError", true, rfl, fun u r => r, hX.gw.xve c Ca he hc, q _ _ _ (.refl ..) ok (.bl _)⟩
  · have hd' : (if C = "ValueError" then d = .bl true else (G.exc C = true ∧ d = .bl (G.sub c C))) := hd
    rw [if_neg hC] at hd'
    obtain ⟨heC, e⟩ := hd'
    subst e
    obtain ⟨Da, c2, ex2⟩ := hX.gw.exc C heC
    have pt : PE (X.suite ad ((ad, oe) :: pn)) (.Name C p3) (tC (.ref Da)) := pe_glob (X := X.suite ad ((ad, oe) :: pn)) g3 ex2.g (show Value.ref Da = Value.ref Da from rfl) g4
    refine (pe_callB (X := X.suite ad ((ad, oe) :: pn)) (call_isE ex.e hz hf) g1 hm (by decide +kernel) (pa_cons pn1 (pa_cons pt pa_nil)) (by decide) g2).run pins s σ H Q J ?_
    exact ⟨_, sa j rfl, .ref Da, .ref Da, G.sub c C, rfl, fun u r => r, (hX.gw.xsub c C Ca Da he heC hc c2).2, q _ _ _ (.refl ..) ok (.bl _)⟩
end

/-! ## the checker of suites -/
def chkX (I : Info) (i : Option Nat) : XE → Expr → Bool
  | .cst k => fun x => match x with | .Constant m _ _ => cstEq k m | _ => false
  | .isE C => fun x => match x with
    | .Call (.Name f _) [.Name n _, .Name D _] [] _ => match i with
      | some j => decide (f = "isinstance") && decide (D = C) && glb I "isinstance" && glb I C && decide (I.N[j]? = some n) && vis I n && !(n == ("__debug__" : Str)) && !(n == ("__classdict__" : Str))
      | none => false
    | _ => false
  | .band a b => fun x => match x with
    | .BoolOp .And [u, v] _ => chkX I i a u && chkX I i b v
    | .BoolOp .And (u :: v :: w :: r) p => chkX I i a u && chkX I i b (.BoolOp .And (v :: w :: r) p)
    | _ => false
  | .bnot a => fun x => match x with | .UnaryOp .Not u _ => chkX I i a u | _ => false
  | .tup2 a b => fun x => match x with | .Tuple [u, v] _ _ => notStar u && notStar v && chkX I i a u && chkX I i b v | _ => false
  | .lst2 a b => fun x => match x with | .List [u, v] _ => notStar u && notStar v && chkX I i a u && chkX I i b v | _ => false
  | .lst3 a b c => fun x => match x with | .List [u, v, w] _ => notStar u && notStar v && notStar w && chkX I i a u && chkX I i b v && chkX I i c w | _ => false
section
variable {X : Cx} {G : Tb} {cl : Str → Option Addr} {B : List Addr} {W : WX} {I : Info} {lv : Nat} {ad : Addr} {i : Option Nat} {c : Str} {Ca : Addr} {oe : Obj} {pn : List (Addr × Obj)}
theorem snd_x (hX : XOk X G cl I lv) (hc : cl c = some Ca) (he : G.exc c = true) (hz : Zc (.ref Ca) none oe) (hf : ∃ vs, oe.data = .fields vs) : ∀ (e : XE) (x : Expr), chkX I i e x = true → PX (X.suite ad ((ad, oe) :: pn)) cl B ad i x (evX G c e)
  | .cst k, x, h => by
    cases x with
    | Constant m n p => exact x_cst h
    | _ => cases h
  | .isE C, x, h => by
    unfold chkX at h
    split at h
    · split at h
      · simp only [Bool.and_eq_true, decide_eq_true_eq, Bool.not_eq_true'] at h
        obtain ⟨⟨⟨⟨⟨⟨⟨h1, h2⟩, h3⟩, h4⟩, h5⟩, h6⟩, h7⟩, h8⟩ := h
        subst h1 h2
        exact x_isE hX hc he hz hf h3 h4 h5 h6 h7 h8
      · cases h
    · cases h
  | .band a b, x, h => by
    unfold chkX at h
    split at h
    · simp only [Bool.and_eq_true] at h
      exact x_and (snd_x hX hc he hz hf a _ h.1) (pe_one (snd_x hX hc he hz hf b _ h.2))
    · simp only [Bool.and_eq_true] at h
      exact x_and (snd_x hX hc he hz hf a _ h.1) (snd_x hX hc he hz hf b _ h.2)
    · cases h
  | .bnot a, x, h => by
    unfold chkX at h
    split at h
    · exact x_not (snd_x hX hc he hz hf a _ h)
    · cases h
  | .tup2 a b, x, h => by
    unfold chkX at h
    split at h
    · simp only [Bool.and_eq_true] at h
      refine PE.imp (x_tup (x_cons h.1.1.1 (snd_x hX hc he hz hf a _ h.1.2) (x_cons h.1.1.2 (snd_x hX hc he hz hf b _ h.2) x_nil)) fun ds ⟨d, r, _, ⟨d', r', _, e, e'⟩, e2⟩ => by subst e e' e2; simp) fun σ H Q ⟨F, env, A, ok, sa, d, ⟨u, v, h1, h2, e⟩, q⟩ => ⟨F, env, A, ok, sa, d, ⟨[u, v], ⟨u, [v], h1, ⟨v, [], h2, rfl, rfl⟩, rfl⟩, e⟩, q⟩
    · cases h
  | .lst2 a b, x, h => by
    unfold chkX at h
    split at h
    · simp only [Bool.and_eq_true] at h
      refine PE.imp (x_lst (x_cons h.1.1.1 (snd_x hX hc he hz hf a _ h.1.2) (x_cons h.1.1.2 (snd_x hX hc he hz hf b _ h.2) x_nil)) fun ds ⟨d, r, _, ⟨d', r', _, e, e'⟩, e2⟩ => by subst e e' e2; simp) fun σ H Q ⟨F, env, A, ok, sa, d, ⟨u, v, h1, h2, e⟩, q⟩ => ⟨F, env, A, ok, sa, d, ⟨[u, v], ⟨u, [v], h1, ⟨v, [], h2, rfl, rfl⟩, rfl⟩, e⟩, q⟩
    · cases h
  | .lst3 a b z, x, h => by
    unfold chkX at h
    split at h
    · simp only [Bool.and_eq_true] at h
      refine PE.imp (x_lst (x_cons h.1.1.1.1.1 (snd_x hX hc he hz hf a _ h.1.1.2) (x_cons h.1.1.1.1.2 (snd_x hX hc he hz hf b _ h.1.2) (x_cons h.1.1.1.2 (snd_x hX hc he hz hf z _ h.2) x_nil))) fun ds ⟨d, r, _, ⟨d', r', _, ⟨d2, r2, _, e, e0⟩, e'⟩, e2⟩ => by subst e e0 e' e2; simp) fun σ H Q ⟨F, env, A, ok, sa, d, ⟨u, v, w, h1, h2, h3, e⟩, q⟩ => ⟨F, env, A, ok, sa, d, ⟨[u, v, w], ⟨u, [v, w], h1, ⟨v, [w], h2, ⟨w, [], h3, rfl, rfl⟩, rfl⟩, rfl⟩, e⟩, q⟩
    · cases h

/-! ## try: body, except C as n: return .. -/
def chkU (I : Info) (i : Option Nat) : XU → List Stmt → Bool
  | .ret x => fun l => match l with | [.Return (some e) _] => chkX I i x e | _ => false
  | .ifr _ _ => fun _ => false
theorem chkU_ne {u : XU} {l : List Stmt} (h : chkU I i u l = true) : ∃ b r, l = b :: r := by
  cases l with
  | nil => cases u <;> cases h
  | cons b r => exact ⟨b, r, rfl⟩
def tU (G : Tb) (K : PySem.W.Frag) (cl : Str → Option Addr) (B : List Addr) (i : Option Nat) (u : XU) (ad : Addr) (cls : Value) (d : Option Addr) : TS := fun D σ H => ∃ c Ca F env A, cls = .ref Ca ∧ d = none ∧ cl c = some Ca ∧ G.exc c = true ∧ SOk K cl B F H σ env A ∧ sAt σ ad i ∧ evU G c u env (PoK K cl B (fun _ _ _ _ => True) F H A D)
theorem snd_u (hX : XOk X G cl I lv) {u : XU} {l : List Stmt} (h : chkU I i u l = true) {cls : Value} {d : Option Addr} (hz : Zc cls d oe) (hf : ∃ vs, oe.data = .fields vs) : PSs (X.suite ad ((ad, oe) :: pn)) l (tU G X.K cl B i u ad cls d) := by
  refine ⟨fun pins s σ H D J ⟨c, Ca, F, env, A, e1, e2, hc, he, ok, sa, q⟩ => ?_⟩
  subst e1 e2
  cases u with
  | ret x =>
    unfold chkU at h
    dsimp only at h
    split at h
    · obtain ⟨dd, hd, q⟩ := q
      exact (pss_one (ps_ret (snd_x hX hc he hz hf x _ h))).run pins s σ H D J ⟨F, env, A, ok, sa, dd, hd, fun v F' H' g ok' r => q v σ F' H' A g ok' r⟩
    · cases h
  | ifr k x => cases h
structure XS (X : Cx) : Prop where
  pass : PassesOwn (model X.prog X.w) X.A X.env X.xe
  stk : X.stack = X.env :: X.outer
  frm : X.env.frame = some X.env.locals
theorem XOk.tr (hX : XOk X G cl I lv) (pn : List (Addr × Obj)) (xe : Value → Shared → Prop) : XOk (X.tr pn xe) G cl I lv := ⟨hX.N, hX.nd, hX.sc, hX.fn, hX.gc, hX.fk, hX.calm, hX.room, hX.gw⟩
theorem PSs.hyp {X : Cx} {s : List Stmt} {t : TS} {P : Prop} (h : P → PSs X s t) : PSs X s (fun D σ H => P ∧ t D σ H) := ⟨fun pins st σ H D I ⟨p, q⟩ => (h p).run pins st σ H D I q⟩
theorem s_tryAs {C n : Str} {np pos pos' : Pos} {b : List Stmt} {l : List Stmt} {j : Nat} {u : XU} {g : SemS} (hX : XOk X G cl I lv) (xs : XS X) (tk : Takes X W) (hb : ∀ (W : WX) (pn : List (Addr × Obj)) (xe : Value → Shared → Prop), Takes (X.tr pn xe) W → PassesOwn (model X.prog X.w) X.A X.env xe → OSs (X.tr pn xe) cl B W b g) (mg : MonoS g)
    (hC : glb I C = true) (h1 : I.N[j]? = some n) (h2 : loc I n = true) (hu : chkU I (some j) u l = true) :
    OS X cl B W (.Try b [.ExceptHandler (some (.Name C np)) (some n) l pos'] [] [] pos) (fun env P => G.exc C = true ∧ g env { P with er := fun c env1 => G.exc c = true ∧ (∀ i, some j = some i → i < env1.length) ∧ if G.sub c C = true then evU G c u (clrN (some j) env1) P else P.er c env1 }) := by
  obtain ⟨b0, r0, el⟩ := chkU_ne hu
  subst el
  refine ⟨fun pins s σ H D J ⟨F, env, A, ok, heC, h⟩ => ?_⟩
  obtain ⟨Da, c2, ex2⟩ := hX.gw.exc C heC
  refine (ps_try_as (i := j) (c := .ref Da) (tb := fun W => tS X.K cl B W g) (ts := tU G X.K cl B (some j) u) xs.stk xs.frm (by rw [hX.N]; exact hX.nd) (by rw [hX.N]; exact h1) (hX.loc h2) ⟨(hX.gl hC).1, (hX.gl hC).2, .inl ex2.g⟩ tk hb (fun a oe cls d pn hz hf => snd_u hX hu hz hf)).run pins s σ H D J ?_
  refine ⟨F, env, A, ok, mg _ _ _ h ⟨fun _ z => z, fun _ _ z => z, fun _ z => z, fun _ z => z, fun c env1 ⟨he, hlt, hif⟩ σ' F' H' A' Ca gr ok' hc => ?_⟩⟩
  refine ⟨G.sub c C, (hX.gw.xsub c C Ca Da he heC hc c2).1, fun hs a ha => ?_, fun hs => ?_⟩
  · rw [if_pos hs] at hif
    have hj : j < σ'.length := by rw [← ok'.len]; exact hlt j rfl
    refine ⟨c, Ca, F', env1.set j .no, A'.set j [], rfl, rfl, hc, he, ok'.putNo, fun k e => ?_, ?_⟩
    · cases e; exact List.getElem?_set_self hj
    · cases u with
      | ret x =>
        obtain ⟨d, hd, q⟩ := hif
        exact ⟨d, hd, fun v σ2 F2 H2 A2 g2 ok2 r2 => q v σ2 F2 H2 A2 ((gr.trans Gr.putNo).trans g2) ok2 r2⟩
      | ifr k x => cases hu
  · rw [if_neg (by rw [hs]; exact Bool.false_ne_true)] at hif
    exact hif σ' F' H' A' Ca gr ok' hc
theorem s_tryOnly {C : Str} {np pos pos' : Pos} {b : List Stmt} {l : List Stmt} {u : XU} {g : SemS} (hX : XOk X G cl I lv) (xs : XS X) (tk : Takes X W) (hb : ∀ (W : WX) (pn : List (Addr × Obj)) (xe : Value → Shared → Prop), Takes (X.tr pn xe) W → PassesOwn (model X.prog X.w) X.A X.env xe → OSs (X.tr pn xe) cl B W b g) (mg : MonoS g)
    (hC : glb I C = true) (hu : chkU I none u l = true) :
    OS X cl B W (.Try b [.ExceptHandler (some (.Name C np)) none l pos'] [] [] pos) (fun env P => G.exc C = true ∧ g env { P with er := fun c env1 => G.exc c = true ∧ (∀ i, none = some i → i < env1.length) ∧ if G.sub c C = true then evU G c u (clrN none env1) P else P.er c env1 }) := by
  obtain ⟨b0, r0, el⟩ := chkU_ne hu
  subst el
  refine ⟨fun pins s σ H D J ⟨F, env, A, ok, heC, h⟩ => ?_⟩
  obtain ⟨Da, c2, ex2⟩ := hX.gw.exc C heC
  refine (ps_try_only (c := .ref Da) (tb := fun W => tS X.K cl B W g) (ts := tU G X.K cl B none u) xs.stk xs.frm ⟨(hX.gl hC).1, (hX.gl hC).2, .inl ex2.g⟩ tk hb (fun a oe cls d pn hz hf => snd_u hX hu hz hf)).run pins s σ H D J ?_
  refine ⟨F, env, A, ok, mg _ _ _ h ⟨fun _ z => z, fun _ _ z => z, fun _ z => z, fun _ z => z, fun c env1 ⟨he, hlt, hif⟩ σ' F' H' A' Ca gr ok' hc => ?_⟩⟩
  refine ⟨G.sub c C, (hX.gw.xsub c C Ca Da he heC hc c2).1, fun hs a ha => ?_, fun hs => ?_⟩
  · rw [if_pos hs] at hif
    exact ⟨c, Ca, F', env1, A', rfl, rfl, hc, he, ok', fun k e => (nomatch e), evU_mono hif ⟨fun env2 q σ2 F2 H2 A2 g2 ok2 => q σ2 F2 H2 A2 (gr.trans g2) ok2, fun d env2 q v σ2 F2 H2 A2 g2 ok2 r2 => q v σ2 F2 H2 A2 (gr.trans g2) ok2 r2, fun env2 q σ2 F2 H2 A2 g2 ok2 => q σ2 F2 H2 A2 (gr.trans g2) ok2, fun env2 q σ2 F2 H2 A2 g2 ok2 => q σ2 F2 H2 A2 (gr.trans g2) ok2, fun _ _ _ _ _ _ _ _ _ _ _ => trivial⟩⟩
  · rw [if_neg (by rw [hs]; exact Bool.false_ne_true)] at hif
    exact hif σ' F' H' A' Ca gr ok' hc
end
end PF

set_option Elab.async false
set_option linter.all false
set_option maxRecDepth 100000
set_option maxHeartbeats 4000000

namespace PF
open PySem PySem.Spec PyProof.Rows L2
section
variable {X : Cx} {G : Tb} {cl : Str → Option Addr} {B : List Addr} {W : WX} {I : Info} {lv : Nat} {a b a' b' c tg : Expr} {es : List Expr} {pos p1 p2 p3 p4 : Pos} {fa fb fc : SemE} {x y z : Str} {i j k : Nat}
/-! ### a table locked while its keys are walked -/
theorem RepS.relock {K : PySem.W.Frag} {F H : Hp} {w : Option V} {as : List Addr} {sl : Sl} {p : Addr} {o : HO} (hp : F p ≠ none) (le : RdLe F (upd F p o)) (r : RepS K cl B F H w as sl) : RepS K cl B (upd F p o) (upd H p o) w as sl := by
  have ne : ∀ {q : Addr}, F q = none → q ≠ p := fun h e => by subst e; exact hp h
  have f : ∀ {q : Addr}, F q = none → upd F p o q = none := fun h => by rw [upd_ne (ne h)]; exact h
  cases sl with
  | no => exact r
  | fz d =>
    obtain ⟨e1, x, e2, r⟩ := r
    exact ⟨e1, x, e2, r.le le⟩
  | own k ds =>
    obtain ⟨a, vs, e1, e2, e3, e4, r, b⟩ := r
    exact ⟨a, vs, e1, e2, f e3, by rw [upd_ne (ne e3)]; exact e4, r.le le, b⟩
  | own2 dss =>
    obtain ⟨a, bs, e1, e2, e3, e4, r⟩ := r
    refine ⟨a, bs, e1, e2, f e3, by rw [upd_ne (ne e3)]; exact e4, ?_⟩
    clear e1 e2 e3 e4
    induction r with
    | nil => exact .nil
    | cons h1 h2 h3 _ ih => exact .cons (f h1) (by rw [upd_ne (ne h1)]; exact h2) (h3.le le) ih
  | ob C fs =>
    obtain ⟨a, Ca, dx, vs, e1, e2, e3, e4, e5, r, b⟩ := r
    exact ⟨a, Ca, dx, vs, e1, e2, f e3, e4, by rw [upd_ne (ne e3)]; exact e5, r.le le, b⟩
  | dic kvs =>
    obtain ⟨a, ks, e1, e2, e3, e4, r⟩ := r
    exact ⟨a, ks, e1, e2, f e3, by rw [upd_ne (ne e3)]; exact e4, r.le le⟩
  | dicF kvs =>
    obtain ⟨e2, a, ks, e1, e4, r⟩ := r
    exact ⟨e2, a, ks, e1, le.rd _ _ (fun _ _ z => nomatch z) e4, r.le le⟩
theorem SOk.relock {K : PySem.W.Frag} {F H : Hp} {σ : L2.St} {env : En} {A : List (List Addr)} {p : Addr} {o : HO} (ok : SOk K cl B F H σ env A) (hp : F p ≠ none) (le : RdLe F (upd F p o)) : SOk K cl B (upd F p o) (upd H p o) σ env A where
  sub := fun q u h => by
    by_cases e : q = p
    · subst e; rw [upd_same] at h ⊢; exact h
    · rw [upd_ne e] at h ⊢; exact ok.sub _ _ h
  len := ok.len
  lenA := ok.lenA
  slot := fun n sl w as h1 h2 h3 => (ok.slot n sl w as h1 h2 h3).relock hp le
  nd := ok.nd
  fr := fun q m => by
    have := ok.fr q m
    rw [upd_ne (fun e => by subst e; exact hp this)]; exact this
  tr := fun q m => by
    have := ok.fr q m
    rw [upd_ne (fun e => by subst e; exact hp this)]; exact ok.tr q m
theorem le_lock {F : Hp} {p : Addr} {ks : List (Key × V)} {od : Obj} (h : F p = some (.dK ks)) : RdLe F (upd F p (.frz od (.dK ks))) where
  rd := fun q u _ r => by
    by_cases e : q = p
    · subst e
      rcases r with r | ⟨o, r⟩
      · rw [h] at r; cases r; exact .inr ⟨od, upd_same⟩
      · rw [h] at r; cases r
    · rcases r with r | ⟨o, r⟩
      · exact .inl (by rw [upd_ne e]; exact r)
      · exact .inr ⟨o, by rw [upd_ne e]; exact r⟩
  ins := fun q C dx fs r => by
    rw [upd_ne (fun e => by subst e; rw [h] at r; cases r)]; exact r
theorem le_unlock {F : Hp} {p : Addr} {ks : List (Key × V)} {od : Obj} (h : F p = some (.frz od (.dK ks))) : RdLe F (upd F p (.dK ks)) where
  rd := fun q u n r => by
    by_cases e : q = p
    · subst e
      rcases r with r | ⟨o, r⟩
      · rw [h] at r; cases r; exact absurd rfl (n _ _)
      · rw [h] at r; cases r; exact .inl upd_same
    · rcases r with r | ⟨o, r⟩
      · exact .inl (by rw [upd_ne e]; exact r)
      · exact .inr ⟨o, by rw [upd_ne e]; exact r⟩
  ins := fun q C dx fs r => by
    rw [upd_ne (fun e => by subst e; rw [h] at r; cases r)]; exact r
theorem gr_unlock {F H F' H' : Hp} {A A' : List (List Addr)} {p : Addr} {ks : List (Key × V)} {od : Obj} (hF : F p = some (.dK ks)) (hH : H p = some (.dK ks)) (g : Gr (upd F p (.frz od (.dK ks))) (upd H p (.frz od (.dK ks))) A F' H' A') :
    Gr F H A (upd F' p (.dK ks)) (upd H' p (.dK ks)) A' where
  fr := fun q o h => by
    by_cases e : q = p
    · subst e; rw [hF] at h; cases h; exact upd_same
    · rw [upd_ne e]; exact g.fr q o (by rw [upd_ne e]; exact h)
  keep := fun q o h n => by
    by_cases e : q = p
    · subst e; rw [hH] at h; cases h; exact upd_same
    · rw [upd_ne e]; exact g.keep q o (by rw [upd_ne e]; exact h) n
  new := fun q h => by
    by_cases e : q = p
    · subst e; exact .inl (by rw [hF]; exact fun z => nomatch z)
    · rw [upd_ne e] at h
      have := g.new q h
      rwa [upd_ne e, upd_ne e] at this
  own := fun q m => by
    rcases g.own q m with z | z
    · exact .inl z
    · by_cases e : q = p
      · subst e; rw [upd_same] at z; cases z
      · rw [upd_ne e] at z; exact .inr z
  stay := fun q h => by
    by_cases e : q = p
    · subst e; rw [upd_same]; exact fun z => nomatch z
    · rw [upd_ne e]; exact g.stay q (by rw [upd_ne e]; exact h)
  nf := fun q o u h => by
    by_cases e : q = p
    · subst e; rw [upd_same] at h; cases h
    · rw [upd_ne e] at h
      have := g.nf q o u h
      rwa [upd_ne e] at this
theorem yld_keys {K : PySem.W.Frag} {F : Hp} {p : Addr} {od : Obj} {ks : List (Key × V)} {kvs : List (Int × PF.D)} (h : F p = some (.frz od (.dK ks))) (r : RepK K cl F ks kvs) : Yld K cl (Itk p od ks) F (kvs.map fun q => PF.D.int q.1) where
  go := fun n H hi hs => ⟨hs _ _ h, by rw [r.length]; simpa using hi⟩
  stop := fun H hs => ⟨hs _ _ h, by rw [r.length]; simp⟩
  yld := fun n H x H' hi hs y => by
    obtain ⟨e, k, v, e1, e2⟩ := y
    obtain ⟨m, d, e3, e4⟩ := r.get e1
    subst e2 e4
    exact ⟨.int m, by rw [List.getElem?_map, e3]; rfl, .inl ⟨e, .int m⟩⟩
theorem s_forK {body : List Stmt} {g : SemS} (hp : PassesOwn (model X.prog X.w) X.A X.env X.xe) (hX : XOk X G cl I lv) (h1 : I.N[i]? = some y) (h2 : vis I y = true) (h3 : (y == ("__debug__" : Str)) = false) (h4 : (y == ("__classdict__" : Str)) = false)
    (hg : chkTg I (.name k) tg = true) (hb : OSs X cl B W body g) (mg : MonoS g) :
    OS X cl B W (.For tg (.Name y p1) body [] pos) (fun env P => ∃ kvs, env[i]? = some (.dicF kvs) ∧ forL (.name k) g (kvs.map fun p => .int p.1) env { P with er := fun _ _ => False }) := by
  have base := ps_for (pos := pos) hp hX.calm (pi_keys (tg := tg) (pe_slot (pos := p1) hX h1 h2 h3 h4)) (pg_of hX hg) hb (fold_set rfl)
  refine ⟨fun pins s σ H D I' ⟨F, env, A, ok, kvs, he, h⟩ => ?_⟩
  obtain ⟨w, as, e1, e2, e3, p, ks, e4, rd, rk⟩ := ok.at he
  subst e4
  rcases rd with hF | ⟨o, hF⟩
  · refine (ps_lock base).run pins s σ H D I' ⟨p, .dK ks, ok.sub _ _ hF, True.intro, fun od => ?_⟩
    have le := le_lock (od := od) hF
    have hp' : F p ≠ none := by rw [hF]; exact fun z => nomatch z
    refine ⟨_, e1, p, od, rfl, .inl ⟨ks, upd_same, for_core (F := upd F p (.frz od (.dK ks))) (A := A) mg ?_ (.refl ..) (ok.relock hp' le) (yld_keys upd_same (rk.le le))⟩⟩
    have back : ∀ {F' H' : Hp} {A' : List (List Addr)} {σ' : L2.St} {env' : En}, Gr (upd F p (.frz od (.dK ks))) (upd H p (.frz od (.dK ks))) A F' H' A' → SOk X.K cl B F' H' σ' env' A' →
        H' p = some (.frz od (.dK ks)) ∧ Gr F H A (upd F' p (.dK ks)) (upd H' p (.dK ks)) A' ∧ SOk X.K cl B (upd F' p (.dK ks)) (upd H' p (.dK ks)) σ' env' A' ∧ RdLe F' (upd F' p (.dK ks)) := fun {F' H' A' σ' env'} g ok' => by
      have fp : F' p = some (.frz od (.dK ks)) := g.fr _ _ upd_same
      have le' := le_unlock fp
      exact ⟨ok'.sub _ _ fp, gr_unlock hF (ok.sub _ _ hF) g, ok'.relock (by rw [fp]; exact fun z => nomatch z) le', le'⟩
    refine forL_mono mg h ⟨fun env' z σ' F' H' A' g ok' => ?_, fun d env' z v σ' F' H' A' g ok' r => ?_, fun env' z σ' F' H' A' g ok' => ?_, fun env' z σ' F' H' A' g ok' => ?_, fun c env' z => z.elim⟩
    · obtain ⟨b1, b2, b3, b4⟩ := back g ok'
      exact ⟨b1, z _ _ _ _ b2 b3⟩
    · obtain ⟨b1, b2, b3, b4⟩ := back g ok'
      exact ⟨b1, z _ _ _ _ _ b2 b3 (r.le b4)⟩
    · obtain ⟨b1, b2, b3, b4⟩ := back g ok'
      exact ⟨b1, z _ _ _ _ b2 b3⟩
    · obtain ⟨b1, b2, b3, b4⟩ := back g ok'
      exact ⟨b1, z _ _ _ _ b2 b3⟩
  · exact base.run pins s σ H D I' ⟨_, e1, p, o, rfl, .inl ⟨ks, ok.sub _ _ hF, for_core mg (forL_mono mg h ⟨fun _ z => z, fun _ _ z => z, fun _ z => z, fun _ z => z, fun _ _ z => z.elim⟩) (.refl ..) ok (yld_keys hF rk)⟩⟩

/-! ### a, b = {}, e -/
theorem s_newD {kt k2 : Nat} {pd : Pos} (hX : XOk X G cl I lv) (he : OE X cl B W b fb) (mf : MonoE fb) (h1 : I.N[i]? = some x) (h2 : I.N[j]? = some y) (h : par2Ok I x y p1 p2 (.Dict [] [] pd) b = true) :
    OS X cl B W (.Assign [.Tuple [.Name x p1, .Name y p2] kt p3] (.Tuple [.Dict [] [] pd, b] k2 p4) pos) (fun env P => fb env (fun v env1 => settle env1 v fun d env2 => P.nx ((env2.set i (.dic [])).set j (.fz d))) P.er) := by
  have hw := sw_par2 (kt := kt) (k2 := k2) (p3 := p3) (p4 := p4) hX h
  unfold par2Ok at h
  simp only [Bool.and_eq_true, Bool.not_eq_true', decide_eq_false_iff_not] at h
  have hij : i ≠ j := fun e => by subst e; rw [h1] at h2; cases h2; exact h.1.1.1.1.1.2 rfl
  refine PS.imp (ps_par hX.calm (by rw [hX.N]; exact hX.nd) (by rw [hX.N]; exact h1) (by rw [hX.N]; exact h2) hij (hX.loc h.1.1.1.1.1.1.1) (hX.loc h.1.1.1.1.1.1.2) (pa_cons pe_dnewK (pa_cons he pa_nil (star_cons h.1.1.2)) rfl) hw) fun D σ H ⟨F, env, A, ok, h⟩ => ?_
  intro p hp
  have g0 : Gr F H A F (upd H p (.dK [])) A := Gr.lay hp
  have fp : F p = none := by
    cases z : F p with
    | none => rfl
    | some u => rw [ok.sub _ _ z] at hp; cases hp
  refine stepS mf (ok.lay hp) (mf.ap h (fun _ _ z => z) (PoK.sh g0).er) fun e env1 q v F1 H1 A1 g ok1 r => ?_
  obtain ⟨d, env2, F2, A2, q, ok2, r2, g2⟩ := settle_ok ok1 r g q
  have pA : p ∉ A.flatten := fun m => ok.tr p m hp
  obtain ⟨f2, nA2⟩ := g2.fresh fp (by rw [upd_same]; exact fun z => nomatch z) pA
  have hp1 := g2.keep p _ upd_same pA
  have ok3 := ok2.putNew (i := i) (sl := .dic []) (w := some (.ref p)) (as := [p]) ⟨p, [], rfl, rfl, f2, hp1, .nil⟩ (by simp) (fun q m => by simp at m; subst m; exact nA2) (fun q m => by simp at m; subst m; exact f2) fun q m => by
    simp at m; subst m; rw [hp1]; exact fun z => nomatch z
  have g3 := (g0.trans g2).putN (i := i) (as := [p]) fun q m => .inr (by simp at m; subst m; exact hp)
  exact ⟨_, _, rfl, q _ _ _ _ (g3.trans Gr.putNo) (ok3.putFz r2)⟩

/-! ### a[i] = e of a table -/
theorem s_setK (hX : XOk X G cl I lv) (he : OE X cl B W b fb) (mf : MonoE fb) (hi : OE X cl B W a fa) (ma : MonoE fa) (h1 : I.N[i]? = some x) (h2 : vis I x = true) (h3 : (x == ("__debug__" : Str)) = false) (h4 : (x == ("__classdict__" : Str)) = false) (hp : plainA b = true) (hn : notSlice a = true) :
    OS X cl B W (.Assign [.Subscript (.Name x p1) a p2] b pos) (fun env P => fb env (fun v env1 => settle env1 v fun d env2 => (∃ kvs, env2[i]? = some (.dic kvs)) ∧ fa env2 (fun ia env3 => ∃ kvs n, env3[i]? = some (.dic kvs) ∧ ia = .d (.int n) ∧ kvs.lookup n = none ∧ kvs.length < sizeLine ∧ P.nx (env3.set i (.dic (kvs ++ [(n, d)])))) P.er) P.er) := by
  refine PS.imp (ps_asg he (pg_sub (pe_slot hX h1 h2 h3 h4) hi (set_dict (by have := hX.hu; omega)) (set_sub hn)) (sole_no hp) sw_sub) fun D σ H ⟨F, env, A, ok, h⟩ => ?_
  refine stepS mf ok h fun e env1 q v F1 H1 A1 g ok1 r => ?_
  obtain ⟨d, env2, F2, A2, ⟨⟨kv0, e0⟩, q⟩, ok2, r2, g2⟩ := settle_ok ok1 r g q
  obtain ⟨w0, as0, w1, w2, p, ks0, w3, w4, w5, w6, w7⟩ := ok2.at e0
  subst w3
  refine ⟨_, w1, ?_⟩
  refine ⟨F2, env2, A2, ok2, ma.ap q (fun ia env3 ⟨kvs, n, e1, e2, e3, e4, q⟩ iv F3 H3 A3 g3 ok3 r3 => ?_) fun _ _ z F' H' A' Ca g' => z σ F' H' A' Ca (g2.trans g')⟩
  subst e2
  cases r3
  obtain ⟨w0', as, z1, z2, p', ks, z3, z4, z5, z6, z7⟩ := ok3.at e1
  subst z3
  rw [w1] at z1; cases z1
  obtain ⟨ok4, g4⟩ := ok3.updO (p := p) (o := .dK (ks ++ [(.inl n, v)])) (sl := .dic (kvs ++ [(n, d)])) (by rw [w1]) z2 (by rw [z4]; simp) ⟨p, _, rfl, z4, z5, upd_same, RepK.snoc (r2.mono g3.fr) z7⟩
  refine ⟨p, _, rfl, .inl ⟨ks, .inl n, z6, rfl, by rw [z7.length]; exact e4, rfl⟩, ?_⟩
  rw [putK_new v (z7.miss e3)]
  exact q _ _ _ _ ((g2.trans g3).trans g4) ok4

/-! ### rows[i], rows[j] = rows[j], rows[i] -/
theorem Rows2.of_get {K : PySem.W.Frag} {F H : Hp} : ∀ {bs : List Addr} {dss : List (List PF.D)}, bs.length = dss.length → (∀ (n : Nat) (b : Addr) (row : List PF.D), bs[n]? = some b → dss[n]? = some row → F b = none ∧ ∃ vs, H b = some (.lst vs) ∧ RepL K cl F vs row) → Rows2 K cl F H bs dss
  | [], [], _, _ => .nil
  | b :: bs, row :: dss, e, h => by
    obtain ⟨h1, vs, h2, h3⟩ := h 0 b row rfl rfl
    exact .cons h1 h2 h3 (Rows2.of_get (by simpa using e) fun n b row q1 q2 => h (n + 1) b row (by simpa using q1) (by simpa using q2))
theorem Rows2.swap {K : PySem.W.Frag} {F H : Hp} {bs : List Addr} {dss : List (List PF.D)} {j l : Nat} {bj bl : Addr} {x y : List PF.D} (r : Rows2 K cl F H bs dss) (h1 : bs[j]? = some bj) (h2 : bs[l]? = some bl) (e1 : dss[j]? = some x) (e2 : dss[l]? = some y) :
    Rows2 K cl F H ((bs.set j bl).set l bj) ((dss.set j y).set l x) := by
  refine Rows2.of_get (by simp [r.len]) fun n b row q1 q2 => ?_
  have hj : j < bs.length := (List.getElem?_eq_some_iff.mp h1).1
  have hl : l < bs.length := (List.getElem?_eq_some_iff.mp h2).1
  have hj' : j < dss.length := by rw [← r.len]; exact hj
  have hl' : l < dss.length := by rw [← r.len]; exact hl
  have at_ : ∀ {n : Nat} {b : Addr} {row : List PF.D}, bs[n]? = some b → dss[n]? = some row → F b = none ∧ ∃ vs, H b = some (.lst vs) ∧ RepL K cl F vs row := fun {n b row} z1 z2 => by
    obtain ⟨b', vs, y1, y2, y3, y4⟩ := r.at z2
    rw [z1] at y1; cases y1
    exact ⟨y2, vs, y3, y4⟩
  by_cases n1 : l = n
  · subst n1
    rw [List.getElem?_set_self (by simpa using hl)] at q1
    rw [List.getElem?_set_self (by simpa using hl')] at q2
    cases q1; cases q2
    exact at_ h1 e1
  · rw [List.getElem?_set_ne n1] at q1 q2
    by_cases n2 : j = n
    · subst n2
      rw [List.getElem?_set_self hj] at q1
      rw [List.getElem?_set_self hj'] at q2
      cases q1; cases q2
      exact at_ h2 e2
    · rw [List.getElem?_set_ne n2] at q1 q2
      exact at_ q1 q2
theorem sw_sub2 {o1 i1 o2 i2 : Expr} {p1 p2 p3 p : Pos} {vs : List Expr} {k kt : Nat} {env : Env} : swappedStores [.Tuple [.Subscript o1 i1 p1, .Subscript o2 i2 p2] kt p3] (.Tuple vs k p) env = pure none := by
  unfold swappedStores
  dsimp only
  by_cases c1 : (!([Expr.Subscript o1 i1 p1, .Subscript o2 i2 p2].length == 2 || [Expr.Subscript o1 i1 p1, .Subscript o2 i2 p2].length == 3) || vs.length != [Expr.Subscript o1 i1 p1, .Subscript o2 i2 p2].length || env.blockKind != .function) = true
  · exact if_pos c1
  · refine (if_neg c1).trans ?_
    by_cases c2 : (vs.any fun | .Starred .. => true | _ => false) = true
    · exact if_pos c2
    · exact (if_neg c2).trans (if_pos rfl)
theorem s_swap2 {ea eb : E} {p5 : Pos} {kt k2 : Nat} {q1 q2 q3 q4 q5 : Pos} (hX : XOk X G cl I lv) (ha : ixP I ea a = true) (hb : ixP I eb b = true) (ha' : ixP I ea a' = true) (hb' : ixP I eb b' = true) (h1 : I.N[i]? = some x) (h2 : vis I x = true) (h3 : (x == ("__debug__" : Str)) = false) (h4 : (x == ("__classdict__" : Str)) = false) :
    OS X cl B W (.Assign [.Tuple [.Subscript (.Name x p1) a p2, .Subscript (.Name x p3) b p4] kt p5] (.Tuple [.Subscript (.Name x q1) b' q2, .Subscript (.Name x q3) a' q4] k2 q5) pos) (fun env P => ∃ dss n j m l x y, env[i]? = some (.own2 dss) ∧ pureIx env ea = some n ∧ ixN dss.length n = some j ∧ pureIx env eb = some m ∧ ixN dss.length m = some l ∧ dss[j]? = some x ∧ dss[l]? = some y ∧ P.nx (env.set i (.own2 ((dss.set j y).set l x)))) := by
  refine PS.imp (ps_asg (pe_tup (pa_cons (pe_ix ix_seq (pe_slot hX h1 h2 h3 h4) (pe_ixs hX hb') (plainIx_of (ixP_slice hb'))) (pa_cons (pe_ix ix_seq (pe_slot hX h1 h2 h3 h4) (pe_ixs hX ha') (plainIx_of (ixP_slice ha'))) pa_nil rfl) rfl))
    (pg_tup hX.calm (pgs_cons (pg_sub (pe_slot hX h1 h2 h3 h4) (pe_ixs hX ha) set_list (set_sub (ixP_slice ha))) (pgs_cons (pg_sub (pe_slot hX h1 h2 h3 h4) (pe_ixs hX hb) set_list (set_sub (ixP_slice hb))) pgs_nil))) rfl sw_sub2) fun D σ H ⟨F, env, A, ok, dss, n, j, m, l, dx, dy, e1, e2, e3, e4, e5, e6, e7, q⟩ => ?_
  obtain ⟨w, as, w1, w2, p, bs, w3, w4, w5, w6, w7⟩ := ok.at e1
  subst w3 w4
  obtain ⟨bj, vj, y1, y2, y3, y4⟩ := w7.at e6
  obtain ⟨bl, vl, z1, z2, z3, z4⟩ := w7.at e7
  have ndA := nd_at ok.nd w2
  have hi : i < σ.length := (List.getElem?_eq_some_iff.mp w1).1
  have hj : j < bs.length := (List.getElem?_eq_some_iff.mp y1).1
  have hl : l < bs.length := (List.getElem?_eq_some_iff.mp z1).1
  have at1 : atI (bs.map V.ref) m = some (.ref bl) := by
    unfold atI
    have : ixN (bs.map V.ref).length m = some l := by rw [List.length_map, w7.len]; exact e5
    rw [this]; simp [z1]
  have at2 : atI (bs.map V.ref) n = some (.ref bj) := by
    unfold atI
    have : ixN (bs.map V.ref).length n = some j := by rw [List.length_map, w7.len]; exact e3
    rw [this]; simp [y1]
  refine ⟨_, w1, ixs_ok ok e4 (.inl ⟨p, bs.map V.ref, m, .ref bl, rfl, rfl, SqL.of w6, at1, ?_⟩)⟩
  refine ⟨_, w1, ixs_ok ok e2 (.inl ⟨p, bs.map V.ref, n, .ref bj, rfl, rfl, SqL.of w6, at2, ?_⟩)⟩
  refine ⟨(by decide : (2 : Nat) ≤ sizeLine), fun t ht => ?_⟩
  have pt : p ≠ t := fun e => by subst e; rw [ht] at w6; cases w6
  have ok1 := ok.lay (o := .tup [.ref bl, .ref bj]) ht
  refine ⟨t, _, rfl, SqT.of upd_same, rfl, .ref bl, [.ref bj], rfl, ?_⟩
  refine ⟨_, w1, ixs_ok ok1 e2 ⟨p, bs.map V.ref, n, j, rfl, rfl, by rw [upd_ne pt]; exact w6, by rw [List.length_map, w7.len]; exact e3, ?_⟩⟩
  refine ⟨.ref bj, [], rfl, ?_⟩
  have pure' : ∀ {H' : Hp} {Q : VK}, Q (.int m) H' → tIxs eb σ H' Q := fun {H' Q} q => by
    cases eb with
    | cst c =>
      cases c with
      | int m' => cases e4; exact q
      | _ => cases e4
    | var i' =>
      simp only [pureIx] at e4
      split at e4
      · rename_i m' he
        cases e4
        obtain ⟨w, as, e1, e2, e3, v, e4, r⟩ := ok.at he
        subst e4
        cases r
        exact ⟨_, e1, q⟩
      · cases e4
    | _ => cases e4
  refine ⟨_, w1, pure' ⟨p, (bs.map V.ref).set j (.ref bl), m, l, rfl, rfl, upd_same, by rw [List.length_set, List.length_map, w7.len]; exact e5, ⟨rfl, ?_⟩⟩⟩
  have eL : ((bs.map V.ref).set j (.ref bl)).set l (.ref bj) = ((bs.set j bl).set l bj).map V.ref := by
    rw [List.map_set, List.map_set]
  rw [eL]
  have perm : ((bs.set j bl).set l bj).Perm bs := by
    have eb1 : bs[j] = bj := (List.getElem?_eq_some_iff.mp y1).2
    have eb2 : bs[l] = bl := (List.getElem?_eq_some_iff.mp z1).2
    have := List.set_set_perm (as := bs) hj hl
    rw [eb1, eb2] at this
    exact this
  have hm : ∀ q, q ∈ p :: ((bs.set j bl).set l bj) → q ∈ p :: bs := fun q m => by
    rcases List.mem_cons.mp m with m | m
    · subst m; exact List.mem_cons_self
    · exact List.mem_cons_of_mem _ (perm.mem_iff.mp m)
  have nd' : (p :: ((bs.set j bl).set l bj)).Nodup := by
    rw [List.nodup_cons] at ndA ⊢
    exact ⟨fun m => ndA.1 (perm.mem_iff.mp m), perm.nodup_iff.mpr ndA.2⟩
  have hiA : i < A.length := by rw [ok.lenA]; exact hi
  have hA : A[i] = p :: bs := (List.getElem?_eq_some_iff.mp w2).2
  generalize hH' : upd (upd (upd H t (.tup [.ref bl, .ref bj])) p (.lst ((bs.map V.ref).set j (.ref bl)))) p (.lst (((bs.set j bl).set l bj).map V.ref)) = H'
  have hp' : H' p = some (.lst (((bs.set j bl).set l bj).map V.ref)) := by rw [← hH', upd_same]
  have hne : ∀ q o, q ≠ p → H q = some o → H' q = some o := fun q o e h => by
    rw [← hH', upd_ne e, upd_ne e, upd_ne (ne_of_none h ht)]; exact h
  have ok2 := ok.put (i := i) (sl := .no) (w := some (.ref p)) (as := []) hi rfl .nil (fun _ m => nomatch m) (fun _ m => nomatch m) fun _ m => nomatch m
  have nm : ∀ q ∈ p :: bs, q ∉ (A.set i []).flatten := fun q m => not_fl_set hiA ok.nd (by rw [hA]; exact m) (by simp)
  have ok3 : SOk X.K cl B F H' (σ.set i (some (.ref p))) (env.set i .no) (A.set i []) := ok2.grow (fun _ _ h => h) (fun q o m h => hne q o (fun e => by subst e; exact nm _ (by simp) m) h) ok2.fr fun q o h => hne q o (fun e => by subst e; rw [w5] at h; cases h) (ok.sub _ _ h)
  have r4 : Rows2 X.K cl F H' ((bs.set j bl).set l bj) ((dss.set j dy).set l dx) := by
    refine (w7.swap y1 z1 e6 e7).mono (fun _ _ h => h) (fun _ _ h => h) fun q m o h => hne q o (fun e => ?_) h
    subst e
    exact (List.nodup_cons.mp ndA).1 (perm.mem_iff.mp m)
  have th := w7.there
  have ok4 := ok3.put (i := i) (sl := .own2 ((dss.set j dy).set l dx)) (w := some (.ref p)) (as := p :: ((bs.set j bl).set l bj)) (by simpa using hi) ⟨p, _, rfl, rfl, w5, hp', r4⟩ nd'
    (fun q m z => absurd z (nm q (hm q m))) (fun q m => by
      rcases List.mem_cons.mp (hm q m) with e | e
      · subst e; exact w5
      · exact (th q e).1) fun q m => by
      rcases List.mem_cons.mp (hm q m) with e | e
      · subst e; rw [hp']; exact fun z => nomatch z
      · cases hq : H q with
        | none => exact absurd hq (th q e).2
        | some o => rw [hne q o (fun e' => by subst e'; exact (List.nodup_cons.mp ndA).1 e) hq]; exact fun z => nomatch z
  rw [List.set_set, List.set_set, List.set_set, set_id w1] at ok4
  refine q _ _ _ _ ⟨fun _ _ h => h, fun q o h n => hne q o (fun e => ?_) h, fun _ h => .inl h, fun q m => ?_, fun q h => ?_, fun q o u h => by rw [h]; exact fun z => nomatch z⟩ ok4
  · subst e; exact n (mem_fl w2 (by simp))
  · rcases fl_set m with m | m
    · exact .inl m
    · exact .inl (mem_fl w2 (hm q m))
  · by_cases e : q = p
    · subst e; rw [hp']; exact fun z => nomatch z
    · cases hq : H q with
      | none => exact absurd hq h
      | some o => rw [hne q o e hq]; exact fun z => nomatch z
end
end PF

set_option Elab.async false
set_option linter.all false
set_option maxRecDepth 100000
set_option maxHeartbeats 4000000

namespace PF
open PySem PySem.Spec PyProof.Rows L2
section
variable {X : Cx} {G : Tb} {cl : Str → Option Addr} {B : List Addr} {W : WX} {I : Info} {lv : Nat} {a b c tg : Expr} {es : List Expr} {pos p1 p2 p3 p4 : Pos} {fa fb fc : SemE} {x y z : Str} {i j k : Nat}

/-! ### self.f = value -/
theorem RepF.put {K : PySem.W.Frag} {F : Hp} {f : Str} {v : V} {d : D} (r : Rep K cl F v d) : ∀ {vs : List (Str × V)} {ds : List (Str × D)}, RepF K cl F vs ds → RepF K cl F (putF f v vs) (putD f d ds)
  | [], [], .nil => .cons r .nil
  | (g, u) :: vs, (_, e) :: ds, .cons q t => by
    unfold putF putD
    by_cases h : g = f
    · rw [if_pos h, if_pos h, h]; exact .cons r t
    · rw [if_neg h, if_neg h]; exact .cons q (RepF.put r t)
theorem RepF.len {K : PySem.W.Frag} {F : Hp} : ∀ {vs : List (Str × V)} {ds : List (Str × D)}, RepF K cl F vs ds → vs.length = ds.length
  | _, _, .nil => rfl
  | _, _, .cons _ t => by simp [RepF.len t]
theorem s_setA {f : Str} (hX : XOk X G cl I lv) (he : OE X cl B W a fa) (mf : MonoE fa) (h1 : I.N[0]? = some x) (h2 : vis I x = true) (h3 : (x == ("__debug__" : Str)) = false) (h4 : (x == ("__classdict__" : Str)) = false) (hp : plainA a = true) :
    OS X cl B W (.Assign [.Attribute (.Name x p1) f p2] a pos) (fun env P => fa env (fun v env1 => settle env1 v fun d env2 => ∃ C fs, env2[0]? = some (.ob C fs) ∧ G.fld C f = true ∧ fs.length < 1000 ∧ P.nx (env2.set 0 (.ob C (putD f d fs)))) P.er) := by
  refine PS.imp (ps_fld (pe_slot hX h1 h2 h3 h4) he (swaps_no hp)) fun D σ H ⟨F, env, A, ok, h⟩ => ?_
  refine stepS mf ok h fun e env1 q v F1 H1 A1 g ok1 r => ?_
  obtain ⟨d, env2, F2, A2, ⟨C, fs, e1, e2, e3, q⟩, ok2, r2, g2⟩ := settle_ok ok1 r g q
  obtain ⟨w, as, w1, w2, p, Ca, dx, vs, w3, w4, w5, w6, w7, w8, w9⟩ := ok2.at e1
  subst w3 w4
  obtain ⟨c1, c2⟩ := hX.gw.fld C Ca f w6 e2
  obtain ⟨ok4, g4⟩ := ok2.updO (p := p) (o := .ins Ca dx (putF f v vs)) (sl := .ob C (putD f d fs)) w1 w2 (by simp) ⟨p, Ca, dx, _, rfl, rfl, w5, w6, upd_same, RepF.put r2 w8, w9⟩
  exact ⟨_, w1, p, Ca, dx, vs, rfl, w7, c1, c2, by rw [w8.len]; exact e3, q _ _ _ _ (g2.trans g4) ok4⟩

/-! ### name = a comprehension -/
def swB (I : Info) (x : Str) (p1 : Pos) (sc : Scope) (pv : Pos) : Bool := loc I x && p1.line == pv.line && !(sc.names.any fun (n, k) => n == x && (k == .local || k == .cell))
theorem sw_false {iters : List Comprehension} {elt : Expr} {sc : Scope} {pv : Pos} {n : Nat} (hX : XOk X G cl I lv) (h : swB I x p1 sc pv = false) : swapsWith (.ListComp elt iters sc pv) (some (.Name x p1)) n X.env = pure false := by
  have e : (X.env.kindOf x == some .local) = loc I x := by
    unfold loc Env.kindOf
    rw [hX.sc]
    cases z : I.sc.names.lookup x with
    | none => rfl
    | some k => cases k <;> rfl
  show (pure (X.env.blockKind == .function && X.env.kindOf x == some .local && p1.line == pv.line && !(sc.names.any fun (n, k) => n == x && (k == .local || k == .cell))) : Sem Bool) = pure false
  rw [e]
  unfold swB at h
  cases X.env.blockKind == .function
  · rfl
  · rw [Bool.true_and, h]
theorem s_asg' {f : SemE} (hX : XOk X G cl I lv) (he : OE X cl B W a f) (mf : MonoE f) (h1 : I.N[i]? = some x) (h2 : tgOk I x = true) (hp : swapsWith a (some (.Name x p1)) pos.line X.env = pure false) :
    OS X cl B W (.Assign [.Name x p1] a pos) (fun env P => f env (fun v env1 => storeE i v env1 P.nx) P.er) :=
  PS.imp (ps_set (by rw [hX.N]; exact hX.nd) (by rw [hX.N]; exact h1) (hX.Loc h2).1 he hp (hX.Loc h2).2) fun D σ H h => asg_sem mf h
end

/-! ## the checker -/
def slOk (I : Info) (i : Nat) (x : Str) : Bool := decide (I.N[i]? = some x) && vis I x && !(x == ("__debug__" : Str)) && !(x == ("__classdict__" : Str))
theorem slOk_by {I : Info} {i : Nat} {x : Str} (h : slOk I i x = true) : I.N[i]? = some x ∧ vis I x = true ∧ (x == ("__debug__" : Str)) = false ∧ (x == ("__classdict__" : Str)) = false := by
  simp only [slOk, Bool.and_eq_true, decide_eq_true_eq, Bool.not_eq_true'] at h
  exact ⟨h.1.1.1, h.1.1.2, h.1.2, h.2⟩
def ob {α : Type} (o : Option α) (f : α → Bool) : Bool := match o with | some a => f a | none => false
theorem ob_by {α : Type} {o : Option α} {f : α → Bool} (h : ob o f = true) : ∃ a, o = some a ∧ f a = true := by
  cases o with
  | none => cases h
  | some a => exact ⟨a, rfl, h⟩
def l1 {α : Type} : List α → Option α | [a] => some a | _ => none
def l2 {α : Type} : List α → Option (α × α) | [a, b] => some (a, b) | _ => none
def l3 {α : Type} : List α → Option (α × α × α) | [a, b, c] => some (a, b, c) | _ => none
def vA1 : Stmt → Option (Expr × Expr × Pos) | .Assign ts v pos => (l1 ts).map (·, v, pos) | _ => none
def vNm : Expr → Option (Str × Pos) | .Name x p => some (x, p) | _ => none
def vTu : Expr → Option (List Expr × Nat × Pos) | .Tuple es k p => some (es, k, p) | _ => none
def vSu : Expr → Option (Expr × Expr × Pos) | .Subscript o i p => some (o, i, p) | _ => none
def vAt : Expr → Option (Expr × Str × Pos) | .Attribute o f p => some (o, f, p) | _ => none
def vCa : Expr → Option (Expr × List Expr × Pos) | .Call f es ks p => if ks.isEmpty then some (f, es, p) else none | _ => none
def vSt : Expr → Option (Str × Nat × Pos) | .Constant (.str m) n p => some (m, n, p) | _ => none
def vLC : Expr → Option (Expr × Comprehension × Scope × Pos) | .ListComp e cs sc p => (l1 cs).map (e, ·, sc, p) | _ => none
def vAu : Stmt → Option (Expr × Operator × Expr × Pos) | .AugAssign t o v p => some (t, o, v, p) | _ => none
def vEx : Stmt → Option (Expr × Pos) | .Expr v p => some (v, p) | _ => none
def vIf : Stmt → Option (Expr × List Stmt × List Stmt × Pos) | .If c a b p => some (c, a, b, p) | _ => none
def vFo : Stmt → Option (Expr × Expr × List Stmt × Pos) | .For t i b o p => if o.isEmpty then some (t, i, b, p) else none | _ => none
def vWh : Stmt → Option (Expr × List Stmt × Pos) | .While c b o p => if o.isEmpty then some (c, b, p) else none | _ => none
def vRe : Stmt → Option (Option Expr × Pos) | .Return v p => some (v, p) | _ => none
def vRa : Stmt → Option (Expr × Pos) | .Raise (some e) none p => some (e, p) | _ => none
def vPa : Stmt → Option Pos | .Pass p => some p | _ => none
def vH : ExceptHandler → Option (Str × Option Str × List Stmt × Pos × Pos) | .ExceptHandler (some (.Name x np)) n l p => some (x, n, l, np, p) | _ => none
def vTr : Stmt → Option (List Stmt × Str × Option Str × List Stmt × Pos × Pos × Pos) | .Try b hs o f p => if o.isEmpty && f.isEmpty then (l1 hs).bind fun h => (vH h).map fun q => (b, q.1, q.2.1, q.2.2.1, q.2.2.2.1, q.2.2.2.2, p) else none | _ => none
theorem l1_eq {α : Type} {l : List α} {a : α} (h : l1 l = some a) : l = [a] := by
  match l, h with
  | [_], h => cases h; rfl
theorem l2_eq {α : Type} {l : List α} {a : α × α} (h : l2 l = some a) : l = [a.1, a.2] := by
  match l, h with
  | [_, _], h => cases h; rfl
theorem l3_eq {α : Type} {l : List α} {a : α × α × α} (h : l3 l = some a) : l = [a.1, a.2.1, a.2.2] := by
  match l, h with
  | [_, _, _], h => cases h; rfl
theorem vA1_eq {s : Stmt} {q : Expr × Expr × Pos} (h : vA1 s = some q) : s = .Assign [q.1] q.2.1 q.2.2 := by
  cases s with
  | Assign ts v pos =>
    simp only [vA1, Option.map_eq_some_iff] at h
    obtain ⟨a, h1, h2⟩ := h
    rw [l1_eq h1, ← h2]
  | _ => cases h
theorem vLC_eq {s : Expr} {q : Expr × Comprehension × Scope × Pos} (h : vLC s = some q) : s = .ListComp q.1 [q.2.1] q.2.2.1 q.2.2.2 := by
  cases s with
  | ListComp ts v pos =>
    simp only [vLC, Option.map_eq_some_iff] at h
    obtain ⟨a, h1, h2⟩ := h
    rw [l1_eq h1, ← h2]
  | _ => cases h
theorem vNm_eq {s : Expr} {q : Str × Pos} (h : vNm s = some q) : s = .Name q.1 q.2 := by cases s <;> cases h; rfl
theorem vTu_eq {s : Expr} {q : List Expr × Nat × Pos} (h : vTu s = some q) : s = .Tuple q.1 q.2.1 q.2.2 := by cases s <;> cases h; rfl
theorem vSu_eq {s : Expr} {q : Expr × Expr × Pos} (h : vSu s = some q) : s = .Subscript q.1 q.2.1 q.2.2 := by cases s <;> cases h; rfl
theorem vAt_eq {s : Expr} {q : Expr × Str × Pos} (h : vAt s = some q) : s = .Attribute q.1 q.2.1 q.2.2 := by cases s <;> cases h; rfl
theorem vCa_eq {s : Expr} {q : Expr × List Expr × Pos} (h : vCa s = some q) : s = .Call q.1 q.2.1 [] q.2.2 := by
  cases s with
  | Call f es ks p =>
    cases ks with
    | nil => cases h; rfl
    | cons _ _ => cases h
  | _ => cases h
theorem vSt_eq {s : Expr} {q : Str × Nat × Pos} (h : vSt s = some q) : s = .Constant (.str q.1) q.2.1 q.2.2 := by
  cases s with
  | Constant k n p =>
    cases k with
    | str m => cases h; rfl
    | _ => cases h
  | _ => cases h
theorem vAu_eq {s : Stmt} {q : Expr × Operator × Expr × Pos} (h : vAu s = some q) : s = .AugAssign q.1 q.2.1 q.2.2.1 q.2.2.2 := by cases s <;> cases h; rfl
theorem vEx_eq {s : Stmt} {q : Expr × Pos} (h : vEx s = some q) : s = .Expr q.1 q.2 := by cases s <;> cases h; rfl
theorem vIf_eq {s : Stmt} {q : Expr × List Stmt × List Stmt × Pos} (h : vIf s = some q) : s = .If q.1 q.2.1 q.2.2.1 q.2.2.2 := by cases s <;> cases h; rfl
theorem vFo_eq {s : Stmt} {q : Expr × Expr × List Stmt × Pos} (h : vFo s = some q) : s = .For q.1 q.2.1 q.2.2.1 [] q.2.2.2 := by
  cases s with
  | For t i b o p =>
    cases o with
    | nil => cases h; rfl
    | cons _ _ => cases h
  | _ => cases h
theorem vWh_eq {s : Stmt} {q : Expr × List Stmt × Pos} (h : vWh s = some q) : s = .While q.1 q.2.1 [] q.2.2 := by
  cases s with
  | While t b o p =>
    cases o with
    | nil => cases h; rfl
    | cons _ _ => cases h
  | _ => cases h
theorem vRe_eq {s : Stmt} {q : Option Expr × Pos} (h : vRe s = some q) : s = .Return q.1 q.2 := by cases s <;> cases h; rfl
theorem vRa_eq {s : Stmt} {q : Expr × Pos} (h : vRa s = some q) : s = .Raise (some q.1) none q.2 := by
  cases s with
  | Raise a b p =>
    cases a with
    | none => cases h
    | some a =>
      cases b with
      | none => cases h; rfl
      | some _ => cases h
  | _ => cases h
theorem vH_eq {s : ExceptHandler} {q : Str × Option Str × List Stmt × Pos × Pos} (h : vH s = some q) : s = .ExceptHandler (some (.Name q.1 q.2.2.2.1)) q.2.1 q.2.2.1 q.2.2.2.2 := by
  cases s with
  | ExceptHandler t n l p =>
    cases t with
    | none => cases h
    | some t =>
      cases t with
      | Name x np => cases h; rfl
      | _ => cases h
theorem vTr_eq {s : Stmt} {q : List Stmt × Str × Option Str × List Stmt × Pos × Pos × Pos} (h : vTr s = some q) : ∃ np p' p, s = .Try q.1 [.ExceptHandler (some (.Name q.2.1 np)) q.2.2.1 q.2.2.2.1 p'] [] [] p := by
  cases s with
  | Try b hs o f p =>
    cases o with
    | cons _ _ => cases h
    | nil =>
      cases f with
      | cons _ _ => cases h
      | nil =>
        have h' : ((l1 hs).bind fun h => (vH h).map fun q => (b, q.1, q.2.1, q.2.2.1, q.2.2.2.1, q.2.2.2.2, p)) = some q := h
        rw [Option.bind_eq_some_iff] at h'
        obtain ⟨x, h1, h2⟩ := h'
        rw [Option.map_eq_some_iff] at h2
        obtain ⟨y, h2, h3⟩ := h2
        rw [l1_eq h1, vH_eq h2, ← h3]
        exact ⟨_, _, _, rfl⟩
  | _ => cases h
theorem vPa_eq {s : Stmt} {q : Pos} (h : vPa s = some q) : s = .Pass q := by cases s <;> cases h; rfl
def vDi : Expr → Option Pos | .Dict ks vs p => if ks.isEmpty && vs.isEmpty then some p else none | _ => none
theorem vDi_eq {s : Expr} {q : Pos} (h : vDi s = some q) : s = .Dict [] [] q := by
  cases s with
  | Dict ks vs p =>
    cases ks with
    | nil =>
      cases vs with
      | nil => cases h; rfl
      | cons _ _ => cases h
    | cons _ _ => cases h
  | _ => cases h
mutual
def chkS : S → Info → Stmt → Bool
  | .asg i e => fun I s => ob (vA1 s) fun q => ob (vNm q.1) fun n => decide (I.N[i]? = some n.1) && tgOk I n.1 && chk e I q.2.1 && (plainA q.2.1 || (vLC q.2.1).isSome)
  | .asgT is e => fun I s => ob (vA1 s) fun q => ob (vTu q.1) fun t => chkNs I is t.1 && plainA q.2.1 && noSwap I t.1 q.2.1 && chk e I q.2.1
  | .par2 i j a b => fun I s => ob (vA1 s) fun q => ob (vTu q.1) fun t => ob (l2 t.1) fun t => ob (vNm t.1) fun x => ob (vNm t.2) fun y => ob (vTu q.2.1) fun u => ob (l2 u.1) fun u =>
      decide (I.N[i]? = some x.1) && decide (I.N[j]? = some y.1) && par2Ok I x.1 y.1 x.2 y.2 u.1 u.2 && chk a I u.1 && chk b I u.2
  | .par3 i j k a b c => fun I s => ob (vA1 s) fun q => ob (vTu q.1) fun t => ob (l3 t.1) fun t => ob (vNm t.1) fun x => ob (vNm t.2.1) fun y => ob (vNm t.2.2) fun z => ob (vTu q.2.1) fun u => ob (l3 u.1) fun u =>
      decide (I.N[i]? = some x.1) && decide (I.N[j]? = some y.1) && decide (I.N[k]? = some z.1) && par3Ok I x.1 y.1 z.1 x.2 y.2 z.2 u.1 u.2.1 u.2.2 && chk a I u.1 && chk b I u.2.1 && chk c I u.2.2
  | .aug i op e => fun I s => ob (vAu s) fun q => ob (vNm q.1) fun x => decide (I.N[i]? = some x.1) && tgOk I x.1 && decide (q.2.1 = op.py) && augOp op && chk e I q.2.2.1
  | .setIx i a e => fun I s => ob (vA1 s) fun q => ob (vSu q.1) fun t => ob (vNm t.1) fun x => slOk I i x.1 && plainA q.2.1 && notSlice t.2.1 && chk a I t.2.1 && chk e I q.2.1
  | .setIx2 i a b e => fun I s => ob (vA1 s) fun q => ob (vSu q.1) fun t => ob (vSu t.1) fun u => ob (vNm u.1) fun x => slOk I i x.1 && plainA q.2.1 && ixP I a u.2.1 && ixP I b t.2.1 && chk e I q.2.1
  | .swap2 i a b => fun I s => ob (vA1 s) fun q => ob (vTu q.1) fun t => ob (l2 t.1) fun t => ob (vSu t.1) fun t1 => ob (vSu t.2) fun t2 => ob (vNm t1.1) fun x1 => ob (vNm t2.1) fun x2 =>
      ob (vTu q.2.1) fun u => ob (l2 u.1) fun u => ob (vSu u.1) fun u1 => ob (vSu u.2) fun u2 => ob (vNm u1.1) fun x3 => ob (vNm u2.1) fun x4 =>
      slOk I i x1.1 && decide (x2.1 = x1.1) && decide (x3.1 = x1.1) && decide (x4.1 = x1.1) && ixP I a t1.2.1 && ixP I b t2.2.1 && ixP I b u1.2.1 && ixP I a u2.2.1
  | .setA f e => fun I s => ob (vA1 s) fun q => ob (vAt q.1) fun t => ob (vNm t.1) fun x => slOk I 0 x.1 && plainA q.2.1 && decide (t.2.1 = f) && chk e I q.2.1
  | .app i e => fun I s => ob (vEx s) fun q => ob (vCa q.1) fun c => ob (vAt c.1) fun t => ob (vNm t.1) fun x => ob (l1 c.2.1) fun v => slOk I i x.1 && decide (t.2.1 = "append") && notStar v && (t.2.2.endLine == c.2.2.line) && chk e I v
  | .ext i e => fun I s => ob (vEx s) fun q => ob (vCa q.1) fun c => ob (vAt c.1) fun t => ob (vNm t.1) fun x => ob (l1 c.2.1) fun v => slOk I i x.1 && decide (t.2.1 = "extend") && notStar v && (t.2.2.endLine == c.2.2.line) && chk e I v
  | .popA j i => fun I s => ob (vA1 s) fun q => ob (vNm q.1) fun y => ob (vCa q.2.1) fun c => ob (vAt c.1) fun t => ob (vNm t.1) fun x => slOk I i x.1 && decide (t.2.1 = "pop") && c.2.1.isEmpty && (t.2.2.endLine == c.2.2.line) && decide (I.N[j]? = some y.1) && tgOk I y.1
  | .expr e => fun I s => ob (vEx s) fun q => plainA q.1 && chk e I q.1
  | .ite c a b => fun I s => ob (vIf s) fun q => chk c I q.1 && chkSs a I q.2.1 && chkSs b I q.2.2.1
  | .forS t it b => fun I s => ob (vFo s) fun q => chkI it I q.1 q.2.1 && chkTg I t q.1 && notSet q.2.1 && chkSs b I q.2.2.1
  | .whl c b => fun I s => ob (vWh s) fun q => chk c I q.1 && chkSs b I q.2.1
  | .ret e => fun I s => ob (vRe s) fun q => ob q.1 fun v => chk e I v
  | .retN => fun I s => ob (vRe s) fun q => q.1.isNone
  | .rai C => fun I s => ob (vRa s) fun q => ob (vCa q.1) fun c => ob (vNm c.1) fun x => ob (l1 c.2.1) fun m => ob (vSt m) fun _ => decide (x.1 = C) && glb I C
  | .tryX b C nm u => fun I s => ob (vTr s) fun q => decide (q.2.1 = C) && glb I C && (match nm with | some j => ob q.2.2.1 fun n => decide (I.N[j]? = some n) && loc I n | none => q.2.2.1.isNone) && chkU I nm u q.2.2.2.1 && chkSs b I q.1
  | .newD i j e => fun I s => ob (vA1 s) fun q => ob (vTu q.1) fun t => ob (l2 t.1) fun t => ob (vNm t.1) fun x => ob (vNm t.2) fun y => ob (vTu q.2.1) fun u => ob (l2 u.1) fun u => ob (vDi u.1) fun pd =>
      decide (I.N[i]? = some x.1) && decide (I.N[j]? = some y.1) && par2Ok I x.1 y.1 x.2 y.2 (.Dict [] [] pd) u.2 && chk e I u.2
  | .setK i a e => fun I s => ob (vA1 s) fun q => ob (vSu q.1) fun t => ob (vNm t.1) fun x => slOk I i x.1 && plainA q.2.1 && notSlice t.2.1 && chk a I t.2.1 && chk e I q.2.1
  | .forK k i b => fun I s => ob (vFo s) fun q => ob (vNm q.2.1) fun y => slOk I i y.1 && chkTg I (.name k) q.1 && chkSs b I q.2.2.1
  | .pas => fun I s => (vPa s).isSome || ob (vEx s) fun q => (vSt q.1).isSome
def chkSs : SL → Info → List Stmt → Bool
  | .nil => fun _ xs => xs.isEmpty
  | .cons s l => fun I xs => match xs with | x :: xs => chkS s I x && chkSs l I xs | [] => false
end

structure SndS (G : Tb) (s : S) : Prop where
  s : ∀ (X : Cx) (cl : Str → Option Addr) (B : List Addr) (W : WX) (I : Info) (lv : Nat) (x : Stmt), XOk X G cl I lv → XS X → Takes X W → chkS s I x = true → OS X cl B W x (evS G s)
structure SndSs (G : Tb) (s : SL) : Prop where
  s : ∀ (X : Cx) (cl : Str → Option Addr) (B : List Addr) (W : WX) (I : Info) (lv : Nat) (x : List Stmt), XOk X G cl I lv → XS X → Takes X W → chkSs s I x = true → OSs X cl B W x (evSs G s)
section
variable {G : Tb}
theorem sndS_asg (i : Nat) (e : E) : SndS G (.asg i e) := ⟨fun X cl B W I lv s hX hp tk h => by
  rw [chkS] at h
  obtain ⟨q, hq, h⟩ := ob_by h
  obtain ⟨n, hn, h⟩ := ob_by h
  have qE := vA1_eq hq
  have nE := vNm_eq hn
  simp only [Bool.and_eq_true, decide_eq_true_eq] at h
  obtain ⟨⟨⟨h1, h2⟩, h3⟩, h4⟩ := h
  rw [qE, nE]
  revert h3 h4
  generalize q.2.1 = v
  generalize q.2.2 = pos
  revert h1 h2
  generalize n.1 = x
  generalize n.2 = p1
  intro h1 h2 h4 h3
  have he := (snd (G := G) e).v X cl B W I lv _ hX tk h3
  by_cases hc : plainA v = true
  · exact s_asg hX he (ev_mono e).1 h1 h2 hc
  · rw [Bool.or_eq_true] at h4
    obtain ⟨q, hq⟩ := Option.isSome_iff_exists.mp (h4.resolve_left hc)
    obtain ⟨elt, ⟨tg, iter, ifs, as⟩, sc, pv⟩ := q
    have hv := vLC_eq hq
    dsimp only at hv
    subst hv
    cases hs : swB I x p1 sc pv with
    | false => exact s_asg' hX he (ev_mono e).1 h1 h2 (sw_false hX hs)
    | true =>
      cases e with
      | lc t it cnd el =>
        simp only [chk, Bool.and_eq_true, decide_eq_true_eq] at h3
        obtain ⟨⟨⟨⟨⟨⟨g0, g1⟩, g2⟩, g3⟩, g4⟩, g5⟩, g6⟩ := h3
        subst g0
        simp only [swB, Bool.and_eq_true, Bool.not_eq_true'] at hs
        refine PS.imp (s_setLc (cnd := evC G cnd) (felt := (ev G el).1) (fi := evI G it) hX ((sndI it).i X cl B W I lv _ _ hX tk g3) g2 g1 (fun s H C c fp => pg_of (hX.blk g2 s H C c fp) g4) (fun s H C c fp => (sndL cnd).C _ cl B _ lv _ (hX.blk g2 s H C c fp) g5)
          (fun s H C c fp => (snd el).v _ cl B _ _ lv _ (hX.blk g2 s H C c fp) takesF g6) (evI_mono it) (evC_mono cnd) (ev_mono el).1 h1 hs.1.1 hs.1.2 hs.2) fun D σ H z => asg_sem (ev_mono (.lc t it cnd el)).1 z
      | _ => cases h3⟩
theorem sndS_asgT (is : List Nat) (e : E) : SndS G (.asgT is e) := ⟨fun X cl B W I lv s hX hp tk h => by
  simp only [chkS] at h
  obtain ⟨q, hq, h⟩ := ob_by h
  obtain ⟨t, ht, h⟩ := ob_by h
  have qE := vA1_eq hq
  have tE := vTu_eq ht
  rw [qE, tE]
  simp only [Bool.and_eq_true] at h
  exact s_asgT hX ((snd e).v X cl B W I lv _ hX tk h.2) (ev_mono e).1 h.1.1.1 h.1.1.2 (sw_none hX h.1.2)⟩
theorem all2 {a b : Expr} (h1 : notStar a = true) (h2 : notStar b = true) : [a, b].all notStar = true := by simp [h1, h2]
theorem all3 {a b c : Expr} (h1 : notStar a = true) (h2 : notStar b = true) (h3 : notStar c = true) : [a, b, c].all notStar = true := by simp [h1, h2, h3]
theorem sndS_par2 (i j : Nat) (a b : E) : SndS G (.par2 i j a b) := ⟨fun X cl B W I lv s hX hp tk h => by
  simp only [chkS] at h
  obtain ⟨q, hq, h⟩ := ob_by h
  obtain ⟨t, ht, h⟩ := ob_by h
  obtain ⟨tt, htt, h⟩ := ob_by h
  obtain ⟨x, hx, h⟩ := ob_by h
  obtain ⟨y, hy, h⟩ := ob_by h
  obtain ⟨u, hu, h⟩ := ob_by h
  obtain ⟨uu, huu, h⟩ := ob_by h
  have qE := vA1_eq hq
  have tE := vTu_eq ht
  have ttE := l2_eq htt
  have xE := vNm_eq hx
  have yE := vNm_eq hy
  have uE := vTu_eq hu
  have uuE := l2_eq huu
  rw [qE, tE, ttE, xE, yE, uE, uuE]
  simp only [Bool.and_eq_true, decide_eq_true_eq] at h
  obtain ⟨⟨⟨⟨h1, h2⟩, h3⟩, h4⟩, h5⟩ := h
  have hn : [uu.1, uu.2].all notStar = true := by
    have h3' := h3
    simp only [par2Ok, Bool.and_eq_true] at h3'
    exact all2 h3'.1.1.1.2 h3'.1.1.2
  have hc : chkL (.cons a (.cons b .nil)) I [uu.1, uu.2] = true := by simp only [chkL, h4, h5, Bool.and_self]
  exact s_par2 (fl := evL G (.cons a (.cons b .nil))) hX ((sndL (.cons a (.cons b .nil))).L X cl B W I lv _ hX tk hn hc) (evL_mono _) h1 h2 h3⟩
theorem sndS_par3 (i j k : Nat) (a b c : E) : SndS G (.par3 i j k a b c) := ⟨fun X cl B W I lv s hX hp tk h => by
  simp only [chkS] at h
  obtain ⟨q, hq, h⟩ := ob_by h
  obtain ⟨t, ht, h⟩ := ob_by h
  obtain ⟨tt, htt, h⟩ := ob_by h
  obtain ⟨x, hx, h⟩ := ob_by h
  obtain ⟨y, hy, h⟩ := ob_by h
  obtain ⟨z, hz, h⟩ := ob_by h
  obtain ⟨u, hu, h⟩ := ob_by h
  obtain ⟨uu, huu, h⟩ := ob_by h
  have qE := vA1_eq hq
  have tE := vTu_eq ht
  have ttE := l3_eq htt
  have xE := vNm_eq hx
  have yE := vNm_eq hy
  have zE := vNm_eq hz
  have uE := vTu_eq hu
  have uuE := l3_eq huu
  rw [qE, tE, ttE, xE, yE, zE, uE, uuE]
  simp only [Bool.and_eq_true, decide_eq_true_eq] at h
  obtain ⟨⟨⟨⟨⟨⟨h1, h2⟩, h21⟩, h3⟩, h4⟩, h5⟩, h6⟩ := h
  have hn : [uu.1, uu.2.1, uu.2.2].all notStar = true := by
    have h3' := h3
    simp only [par3Ok, Bool.and_eq_true] at h3'
    exact all3 h3'.1.1.1.1.2 h3'.1.1.1.2 h3'.1.1.2
  have hc : chkL (.cons a (.cons b (.cons c .nil))) I [uu.1, uu.2.1, uu.2.2] = true := by simp only [chkL, h4, h5, h6, Bool.and_self]
  exact s_par3 (fl := evL G (.cons a (.cons b (.cons c .nil)))) hX ((sndL (.cons a (.cons b (.cons c .nil)))).L X cl B W I lv _ hX tk hn hc) (evL_mono _) h1 h2 h21 h3⟩
theorem sndS_aug (i : Nat) (op : Bop) (e : E) : SndS G (.aug i op e) := ⟨fun X cl B W I lv s hX hp tk h => by
  simp only [chkS] at h
  obtain ⟨q, hq, h⟩ := ob_by h
  obtain ⟨x, hx, h⟩ := ob_by h
  have qE := vAu_eq hq
  have xE := vNm_eq hx
  rw [qE, xE]
  simp only [Bool.and_eq_true, decide_eq_true_eq] at h
  obtain ⟨⟨⟨⟨h1, h2⟩, h3⟩, h4⟩, h5⟩ := h
  rw [h3]
  exact s_aug h4 hX ((snd e).v X cl B W I lv _ hX tk h5) (ev_mono e).1 h1 h2⟩
theorem sndS_setIx (i : Nat) (a e : E) : SndS G (.setIx i a e) := ⟨fun X cl B W I lv s hX hp tk h => by
  simp only [chkS] at h
  obtain ⟨q, hq, h⟩ := ob_by h
  obtain ⟨t, ht, h⟩ := ob_by h
  obtain ⟨x, hx, h⟩ := ob_by h
  have qE := vA1_eq hq
  have tE := vSu_eq ht
  have xE := vNm_eq hx
  rw [qE, tE, xE]
  simp only [Bool.and_eq_true] at h
  obtain ⟨⟨⟨⟨h1, h2⟩, h3⟩, h4⟩, h5⟩ := h
  obtain ⟨n1, n2, n3, n4⟩ := slOk_by h1
  exact s_setIx hX ((snd e).v X cl B W I lv _ hX tk h5) (ev_mono e).1 ((snd a).v X cl B W I lv _ hX tk h4) (ev_mono a).1 n1 n2 n3 n4 h2 h3⟩
theorem sndS_setIx2 (i : Nat) (a b e : E) : SndS G (.setIx2 i a b e) := ⟨fun X cl B W I lv s hX hp tk h => by
  simp only [chkS] at h
  obtain ⟨q, hq, h⟩ := ob_by h
  obtain ⟨t, ht, h⟩ := ob_by h
  obtain ⟨u, hu, h⟩ := ob_by h
  obtain ⟨x, hx, h⟩ := ob_by h
  have qE := vA1_eq hq
  have tE := vSu_eq ht
  have uE := vSu_eq hu
  have xE := vNm_eq hx
  rw [qE, tE, uE, xE]
  simp only [Bool.and_eq_true] at h
  obtain ⟨⟨⟨⟨h1, h2⟩, h3⟩, h4⟩, h5⟩ := h
  obtain ⟨n1, n2, n3, n4⟩ := slOk_by h1
  exact s_setIx2 hX ((snd e).v X cl B W I lv _ hX tk h5) (ev_mono e).1 h3 h4 n1 n2 n3 n4 h2⟩
theorem sndS_swap2 (i : Nat) (a b : E) : SndS G (.swap2 i a b) := ⟨fun X cl B W I lv s hX hp tk h => by
  simp only [chkS] at h
  obtain ⟨q, hq, h⟩ := ob_by h
  obtain ⟨t, ht, h⟩ := ob_by h
  obtain ⟨tt, htt, h⟩ := ob_by h
  obtain ⟨t1, ht1, h⟩ := ob_by h
  obtain ⟨t2, ht2, h⟩ := ob_by h
  obtain ⟨x1, hx1, h⟩ := ob_by h
  obtain ⟨x2, hx2, h⟩ := ob_by h
  obtain ⟨u, hu, h⟩ := ob_by h
  obtain ⟨uu, huu, h⟩ := ob_by h
  obtain ⟨u1, hu1, h⟩ := ob_by h
  obtain ⟨u2, hu2, h⟩ := ob_by h
  obtain ⟨x3, hx3, h⟩ := ob_by h
  obtain ⟨x4, hx4, h⟩ := ob_by h
  rw [vA1_eq hq, vTu_eq ht, l2_eq htt, vSu_eq ht1, vSu_eq ht2, vNm_eq hx1, vNm_eq hx2, vTu_eq hu, l2_eq huu, vSu_eq hu1, vSu_eq hu2, vNm_eq hx3, vNm_eq hx4]
  simp only [Bool.and_eq_true, decide_eq_true_eq] at h
  obtain ⟨⟨⟨⟨⟨⟨⟨h1, h2⟩, h3⟩, h4⟩, h5⟩, h6⟩, h7⟩, h8⟩ := h
  rw [h2, h3, h4]
  obtain ⟨n1, n2, n3, n4⟩ := slOk_by h1
  exact s_swap2 hX h5 h6 h8 h7 n1 n2 n3 n4⟩
theorem sndS_newD (i j : Nat) (e : E) : SndS G (.newD i j e) := ⟨fun X cl B W I lv s hX hp tk h => by
  simp only [chkS] at h
  obtain ⟨q, hq, h⟩ := ob_by h
  obtain ⟨t, ht, h⟩ := ob_by h
  obtain ⟨tt, htt, h⟩ := ob_by h
  obtain ⟨x, hx, h⟩ := ob_by h
  obtain ⟨y, hy, h⟩ := ob_by h
  obtain ⟨u, hu, h⟩ := ob_by h
  obtain ⟨uu, huu, h⟩ := ob_by h
  obtain ⟨pd, hpd, h⟩ := ob_by h
  rw [vA1_eq hq, vTu_eq ht, l2_eq htt, vNm_eq hx, vNm_eq hy, vTu_eq hu, l2_eq huu, vDi_eq hpd]
  simp only [Bool.and_eq_true, decide_eq_true_eq] at h
  obtain ⟨⟨⟨h1, h2⟩, h3⟩, h4⟩ := h
  exact s_newD hX ((snd e).v X cl B W I lv _ hX tk h4) (ev_mono e).1 h1 h2 h3⟩
theorem sndS_setK (i : Nat) (a e : E) : SndS G (.setK i a e) := ⟨fun X cl B W I lv s hX hp tk h => by
  simp only [chkS] at h
  obtain ⟨q, hq, h⟩ := ob_by h
  obtain ⟨t, ht, h⟩ := ob_by h
  obtain ⟨x, hx, h⟩ := ob_by h
  have qE := vA1_eq hq
  have tE := vSu_eq ht
  have xE := vNm_eq hx
  rw [qE, tE, xE]
  simp only [Bool.and_eq_true] at h
  obtain ⟨⟨⟨⟨h1, h2⟩, h3⟩, h4⟩, h5⟩ := h
  obtain ⟨n1, n2, n3, n4⟩ := slOk_by h1
  exact s_setK hX ((snd e).v X cl B W I lv _ hX tk h5) (ev_mono e).1 ((snd a).v X cl B W I lv _ hX tk h4) (ev_mono a).1 n1 n2 n3 n4 h2 h3⟩
theorem sndS_forK (k i : Nat) {b : SL} (hb : SndSs G b) : SndS G (.forK k i b) := ⟨fun X cl B W I lv s hX hp tk h => by
  simp only [chkS] at h
  obtain ⟨q, hq, h⟩ := ob_by h
  obtain ⟨y, hy, h⟩ := ob_by h
  rw [vFo_eq hq, vNm_eq hy]
  simp only [Bool.and_eq_true] at h
  obtain ⟨⟨h1, h2⟩, h3⟩ := h
  obtain ⟨n1, n2, n3, n4⟩ := slOk_by h1
  exact s_forK hp.pass hX n1 n2 n3 n4 h2 (hb.s X cl B W I lv _ hX hp tk h3) (evSs_mono b)⟩
theorem sndS_setA (f : Str) (e : E) : SndS G (.setA f e) := ⟨fun X cl B W I lv s hX hp tk h => by
  simp only [chkS] at h
  obtain ⟨q, hq, h⟩ := ob_by h
  obtain ⟨t, ht, h⟩ := ob_by h
  obtain ⟨x, hx, h⟩ := ob_by h
  have qE := vA1_eq hq
  have tE := vAt_eq ht
  have xE := vNm_eq hx
  rw [qE, tE, xE]
  simp only [Bool.and_eq_true, decide_eq_true_eq] at h
  obtain ⟨⟨⟨h1, h2⟩, h3⟩, h4⟩ := h
  obtain ⟨n1, n2, n3, n4⟩ := slOk_by h1
  rw [h3]
  exact s_setA hX ((snd e).v X cl B W I lv _ hX tk h4) (ev_mono e).1 n1 n2 n3 n4 h2⟩
theorem sndS_app (i : Nat) (e : E) : SndS G (.app i e) := ⟨fun X cl B W I lv s hX hp tk h => by
  simp only [chkS] at h
  obtain ⟨q, hq, h⟩ := ob_by h
  obtain ⟨c, hc, h⟩ := ob_by h
  obtain ⟨t, ht, h⟩ := ob_by h
  obtain ⟨x, hx, h⟩ := ob_by h
  obtain ⟨v, hv, h⟩ := ob_by h
  have qE := vEx_eq hq
  have cE := vCa_eq hc
  have tE := vAt_eq ht
  have xE := vNm_eq hx
  have vE := l1_eq hv
  rw [qE, cE, tE, xE, vE]
  simp only [Bool.and_eq_true, decide_eq_true_eq] at h
  obtain ⟨⟨⟨⟨h1, h2⟩, h3⟩, h4⟩, h5⟩ := h
  obtain ⟨n1, n2, n3, n4⟩ := slOk_by h1
  rw [h2]
  exact s_app hX ((snd e).v X cl B W I lv _ hX tk h5) (ev_mono e).1 n1 n2 n3 n4 h3 h4⟩
theorem sndS_ext (i : Nat) (e : E) : SndS G (.ext i e) := ⟨fun X cl B W I lv s hX hp tk h => by
  simp only [chkS] at h
  obtain ⟨q, hq, h⟩ := ob_by h
  obtain ⟨c, hc, h⟩ := ob_by h
  obtain ⟨t, ht, h⟩ := ob_by h
  obtain ⟨x, hx, h⟩ := ob_by h
  obtain ⟨v, hv, h⟩ := ob_by h
  have qE := vEx_eq hq
  have cE := vCa_eq hc
  have tE := vAt_eq ht
  have xE := vNm_eq hx
  have vE := l1_eq hv
  rw [qE, cE, tE, xE, vE]
  simp only [Bool.and_eq_true, decide_eq_true_eq] at h
  obtain ⟨⟨⟨⟨h1, h2⟩, h3⟩, h4⟩, h5⟩ := h
  obtain ⟨n1, n2, n3, n4⟩ := slOk_by h1
  rw [h2]
  exact s_ext hX ((snd e).v X cl B W I lv _ hX tk h5) (ev_mono e).1 n1 n2 n3 n4 h3 h4⟩
theorem sndS_popA (j i : Nat) : SndS G (.popA j i) := ⟨fun X cl B W I lv s hX hp tk h => by
  simp only [chkS] at h
  obtain ⟨q, hq, h⟩ := ob_by h
  obtain ⟨y, hy, h⟩ := ob_by h
  obtain ⟨c, hc, h⟩ := ob_by h
  obtain ⟨t, ht, h⟩ := ob_by h
  obtain ⟨x, hx, h⟩ := ob_by h
  have qE := vA1_eq hq
  have yE := vNm_eq hy
  have cE := vCa_eq hc
  have tE := vAt_eq ht
  have xE := vNm_eq hx
  simp only [Bool.and_eq_true, decide_eq_true_eq] at h
  obtain ⟨⟨⟨⟨⟨h1, h2⟩, h21⟩, h3⟩, h4⟩, h5⟩ := h
  rw [qE, yE, cE, tE, xE, h2, List.isEmpty_iff.mp h21]
  obtain ⟨n1, n2, n3, n4⟩ := slOk_by h1
  exact s_popA hX n1 n2 n3 n4 h4 h5 h3⟩
theorem sndS_expr (e : E) : SndS G (.expr e) := ⟨fun X cl B W I lv s hX hp tk h => by
  simp only [chkS] at h
  obtain ⟨q, hq, h⟩ := ob_by h
  have qE := vEx_eq hq
  rw [qE]
  simp only [Bool.and_eq_true] at h
  exact s_expr ((snd e).v X cl B W I lv _ hX tk h.2) (ev_mono e).1 h.1⟩
theorem sndS_ite (c : E) {a b : SL} (ha : SndSs G a) (hb : SndSs G b) : SndS G (.ite c a b) := ⟨fun X cl B W I lv s hX hp tk h => by
  simp only [chkS] at h
  obtain ⟨q, hq, h⟩ := ob_by h
  have qE := vIf_eq hq
  rw [qE]
  simp only [Bool.and_eq_true] at h
  exact s_ite ((snd c).t X cl B W I lv _ hX tk h.1.1) (ha.s X cl B W I lv _ hX hp tk h.1.2) (hb.s X cl B W I lv _ hX hp tk h.2) (ev_mono c).2 (evSs_mono a) (evSs_mono b)⟩
theorem sndS_for (t : Tg) (it : It) {b : SL} (hb : SndSs G b) : SndS G (.forS t it b) := ⟨fun X cl B W I lv s hX hp tk h => by
  simp only [chkS] at h
  obtain ⟨q, hq, h⟩ := ob_by h
  have qE := vFo_eq hq
  rw [qE]
  simp only [Bool.and_eq_true] at h
  obtain ⟨⟨⟨h1, h2⟩, h3⟩, h4⟩ := h
  exact s_for hp.pass hX ((sndI it).i X cl B W I lv _ _ hX tk h1) h2 (hb.s X cl B W I lv _ hX hp tk h4) h3 (evI_mono it) (evSs_mono b)⟩
theorem sndS_whl (c : E) {b : SL} (hb : SndSs G b) : SndS G (.whl c b) := ⟨fun X cl B W I lv s hX hp tk h => by
  simp only [chkS] at h
  obtain ⟨q, hq, h⟩ := ob_by h
  have qE := vWh_eq hq
  rw [qE]
  simp only [Bool.and_eq_true] at h
  exact s_whl hp.pass ((snd c).t X cl B W I lv _ hX tk h.1) (hb.s X cl B W I lv _ hX hp tk h.2) (ev_mono c).2 (evSs_mono b)⟩
theorem sndS_ret (e : E) : SndS G (.ret e) := ⟨fun X cl B W I lv s hX hp tk h => by
  simp only [chkS] at h
  obtain ⟨q, hq, h⟩ := ob_by h
  obtain ⟨v, hv, h⟩ := ob_by h
  rw [vRe_eq hq, hv]
  exact s_ret ((snd e).v X cl B W I lv _ hX tk h) (ev_mono e).1⟩
theorem sndS_retN : SndS G .retN := ⟨fun X cl B W I lv s hX hp tk h => by
  simp only [chkS] at h
  obtain ⟨q, hq, h⟩ := ob_by h
  rw [vRe_eq hq, Option.isNone_iff_eq_none.mp h]
  exact s_retN⟩
theorem sndS_rai (C : Str) : SndS G (.rai C) := ⟨fun X cl B W I lv s hX hp tk h => by
  simp only [chkS] at h
  obtain ⟨q, hq, h⟩ := ob_by h
  obtain ⟨c, hc, h⟩ := ob_by h
  obtain ⟨x, hx, h⟩ := ob_by h
  obtain ⟨m, hm, h⟩ := ob_by h
  obtain ⟨t, ht, h⟩ := ob_by h
  simp only [Bool.and_eq_true, decide_eq_true_eq] at h
  obtain ⟨h1, h2⟩ := h
  rw [vRa_eq hq, vCa_eq hc, vNm_eq hx, l1_eq hm, vSt_eq ht, h1]
  refine ⟨fun pins s σ H D I' q => ?_⟩
  obtain ⟨F, env, A, ok, hex, q⟩ := q
  obtain ⟨Ca, c1, c2⟩ := hX.gw.exc C hex
  exact (s_rai hX tk h2 c1 c2).run pins s σ H D I' ⟨F, env, A, ok, q⟩⟩
theorem sndS_try {b : SL} (C : Str) (nm : Option Nat) (u : XU) (hb : SndSs G b) : SndS G (.tryX b C nm u) := ⟨fun X cl B W I lv s hX hp tk h => by
  simp only [chkS] at h
  obtain ⟨q, hq, h⟩ := ob_by h
  simp only [Bool.and_eq_true, decide_eq_true_eq] at h
  obtain ⟨⟨⟨⟨h1, h2⟩, h3⟩, h4⟩, h5⟩ := h
  obtain ⟨np, p', p'', e⟩ := vTr_eq hq
  rw [e, h1]
  have hbody : ∀ (W : WX) (pn : List (Addr × Obj)) (xe : Value → Shared → Prop), Takes (X.tr pn xe) W → PassesOwn (model X.prog X.w) X.A X.env xe → OSs (X.tr pn xe) cl B W q.1 (evSs G b) := fun W pn xe tk hpa => hb.s (X.tr pn xe) cl B W I lv _ (hX.tr pn xe) ⟨hpa, hp.stk, hp.frm⟩ tk h5
  cases nm with
  | some j =>
    obtain ⟨n, hn, h3⟩ := ob_by h3
    simp only [Bool.and_eq_true, decide_eq_true_eq] at h3
    rw [hn]
    exact s_tryAs hX hp tk hbody (evSs_mono b) h2 h3.1 h3.2 h4
  | none =>
    rw [Option.isNone_iff_eq_none.mp h3]
    exact s_tryOnly hX hp tk hbody (evSs_mono b) h2 h4⟩
theorem sndS_pas : SndS G .pas := ⟨fun X cl B W I lv s hX hp tk h => by
  simp only [chkS, Bool.or_eq_true] at h
  rcases h with h | h
  · obtain ⟨p, hp⟩ := Option.isSome_iff_exists.mp h
    rw [vPa_eq hp]
    exact s_pas
  · obtain ⟨q, hq, h⟩ := ob_by h
    obtain ⟨t, ht⟩ := Option.isSome_iff_exists.mp h
    rw [vEx_eq hq, vSt_eq ht]
    exact s_doc⟩
theorem sndSs_nil : SndSs G .nil := ⟨fun X cl B W I lv s hX hp tk h => by
  simp only [chkSs] at h
  rw [List.isEmpty_iff.mp h]
  exact s_nil⟩
theorem sndSs_cons {s : S} {l : SL} (hs : SndS G s) (hl : SndSs G l) : SndSs G (.cons s l) := ⟨fun X cl B W I lv x hX hp tk h => by
  cases x with
  | nil => simp only [chkSs] at h; cases h
  | cons x xs =>
    simp only [chkSs, Bool.and_eq_true] at h
    exact s_consF (f := evS G s) (g := evSs G l) (hs.s X cl B W I lv _ hX hp tk h.1) (hl.s X cl B W I lv _ hX hp tk h.2) (evS_mono s) (evSs_mono l)⟩
theorem sndSs (l : SL) : SndSs G l := SL.rec (motive_1 := SndS G) (motive_2 := SndSs G)
  (fun i e => sndS_asg i e)
  (fun is e => sndS_asgT is e)
  (fun i j a b => sndS_par2 i j a b)
  (fun i j k a b c => sndS_par3 i j k a b c)
  (fun i op e => sndS_aug i op e)
  (fun i a e => sndS_setIx i a e)
  (fun i a b e => sndS_setIx2 i a b e)
  (fun i a b => sndS_swap2 i a b)
  (fun f e => sndS_setA f e)
  (fun i e => sndS_app i e)
  (fun i e => sndS_ext i e)
  (fun j i => sndS_popA j i)
  (fun e => sndS_expr e)
  (fun c a b ha hb => sndS_ite c ha hb)
  (fun t it b hb => sndS_for t it hb)
  (fun c b hb => sndS_whl c hb)
  (fun e => sndS_ret e)
  sndS_retN
  (fun C => sndS_rai C)
  (fun b C n su hb => sndS_try C n su hb)
  sndS_pas
  (fun i j e => sndS_newD i j e)
  (fun i a e => sndS_setK i a e)
  (fun k i b hb => sndS_forK k i hb)
  sndSs_nil
  (fun s l hs hl => sndSs_cons hs hl) l
end
end PF

set_option Elab.async false
set_option linter.all false
set_option maxRecDepth 100000
set_option maxHeartbeats 4000000

namespace PF
open PySem PySem.Spec PyProof.Rows L2

/-! ## a def by its body -/
def outsOf (env : En) : List Sl → Nat → Option (List (List D))
  | [], _ => some []
  | .own k _ :: r, i => match env[i]? with
    | some (.own k' ds) => if k' = k then (outsOf env r (i + 1)).map (ds :: ·) else none
    | _ => none
  | _ :: r, i => outsOf env r (i + 1)
def bodyPo (args : List Sl) (Q : D → List (List D) → Prop) (E : Str → List (List D) → Prop) : Po where
  nx := fun env => ∃ outs, outsOf env args 0 = some outs ∧ Q .non outs
  rt := fun d env => ∃ outs, outsOf env args 0 = some outs ∧ Q d outs
  bk := fun _ => False
  ct := fun _ => False
  er := fun c env => ∃ outs, outsOf env args 0 = some outs ∧ E c outs
def Fn.ofBody (G : Tb) (m : Nat) (bd : SL) : Fn where
  run := fun args Q E => evSs G bd (args ++ List.replicate m .no) (bodyPo args Q E)
  mono := fun {args Q Q' E E'} h q e => evSs_mono bd _ (bodyPo args Q E) (bodyPo args Q' E') h ⟨fun _ ⟨o, a, b⟩ => ⟨o, a, q _ _ b⟩, fun _ _ ⟨o, a, b⟩ => ⟨o, a, q _ _ b⟩, fun _ z => z, fun _ z => z, fun _ _ ⟨o, a, b⟩ => ⟨o, a, e _ _ b⟩⟩
def infoOf (N : List Str) (sc : Scope) (gc : Bool) : Info := { N := N, sc := sc, fn := fun _ => true, gc := gc }
section
variable {K : PySem.W.Frag} {cl : Str → Option Addr} {F H F' H' : Hp}
def adrs : List V → List Sl → List (List Addr)
  | .ref a :: vs, .own _ _ :: sls => [a] :: adrs vs sls
  | _ :: vs, _ :: sls => [] :: adrs vs sls
  | _, _ => []
theorem args_fl {n : Nat} {vs : List V} {sls : List Sl} {B : List Addr} (h : ArgsOk K cl F H n vs sls B) : (adrs vs sls).flatten = B ∧ (adrs vs sls).length = vs.length ∧ sls.length = vs.length ∧ (∀ a ∈ B, F a = none ∧ H a ≠ none) := by
  induction h with
  | nil => exact ⟨rfl, rfl, rfl, fun _ m => nomatch m⟩
  | fz r t ih =>
    rename_i v vs d sls B
    have e : adrs (v :: vs) (.fz d :: sls) = [] :: adrs vs sls := by cases v <;> rfl
    rw [e]
    exact ⟨by simpa using ih.1, by simp [ih.2.1], by simp [ih.2.2.1], ih.2.2.2⟩
  | own h1 h2 r t ih =>
    refine ⟨by simp [adrs, ih.1], by simp [adrs, ih.2.1], by simp [ih.2.2.1], fun a m => ?_⟩
    rcases List.mem_cons.mp m with m | m
    · subst m; exact ⟨h1, by rw [h2]; exact fun z => nomatch z⟩
    · exact ih.2.2.2 a m
theorem args_slot {B0 : List Addr} {n : Nat} {vs : List V} {sls : List Sl} {B : List Addr} (h : ArgsOk K cl F H n vs sls B) (hB : ∀ j, B[j]? = B0[n + j]?) : ∀ (i : Nat) (sl : Sl) (v : V) (as : List Addr), sls[i]? = some sl → vs[i]? = some v → (adrs vs sls)[i]? = some as → RepS K cl B0 F H (some v) as sl := by
  induction h with
  | nil => intro i sl v as h1; simp at h1
  | fz r t ih =>
    rename_i v vs d sls B
    have e : adrs (v :: vs) (.fz d :: sls) = [] :: adrs vs sls := by cases v <;> rfl
    rw [e]
    intro i sl u as h1 h2 h3
    cases i with
    | zero => simp at h1 h2 h3; subst h1 h2 h3; exact ⟨rfl, _, rfl, r⟩
    | succ i => simp at h1 h2 h3; exact ih hB i sl u as h1 h2 h3
  | own q1 q2 r t ih =>
    rename_i n b ws vs ds sls B
    intro i sl u as h1 h2 h3
    cases i with
    | zero =>
      simp [adrs] at h1 h2 h3; subst h1 h2 h3
      refine ⟨b, ws, rfl, rfl, q1, q2, r, fun j e => ?_⟩
      have : j = n := by omega
      subst this
      have := hB 0
      simpa using this.symm
    | succ i =>
      simp [adrs] at h1 h2 h3
      refine ih (fun j => ?_) i sl u as h1 h2 h3
      have := hB (j + 1)
      simp only [List.getElem?_cons_succ] at this
      rw [this]
      congr 1
      omega
theorem outs_ok {B0 : List Addr} {σ : L2.St} {env : En} {A : List (List Addr)} {F1 H1 : Hp} (ok : SOk K cl B0 F1 H1 σ env A) {n : Nat} {vs : List V} {sls : List Sl} {B : List Addr} (h : ArgsOk K cl F H n vs sls B) (hB : ∀ j, B[j]? = B0[n + j]?) : ∀ (i : Nat) (outs : List (List D)), outsOf env sls i = some outs → OutsOk K cl F1 H1 B outs := by
  induction h with
  | nil => intro i outs e; cases e; exact .nil
  | fz r t ih => intro i outs e; exact ih hB (i + 1) outs e
  | own q1 q2 r t ih =>
    rename_i n b ws vs ds sls B
    intro i outs e
    simp only [outsOf] at e
    split at e
    · rename_i k' ds' he
      split at e
      · rename_i ek
        subst ek
        rw [Option.map_eq_some_iff] at e
        obtain ⟨o, e1, e2⟩ := e
        subst e2
        obtain ⟨w, as, z1, z2, a, us, z3, z4, z5, z6, z7, z8⟩ := ok.at he
        have hb := z8 n rfl
        have h0 := hB 0
        simp only [List.getElem?_cons_zero, Nat.add_zero] at h0
        rw [← h0] at hb
        cases hb
        refine .cons z5 z6 z7 (ih (fun j => ?_) (i + 1) o e1)
        have := hB (j + 1)
        simp only [List.getElem?_cons_succ] at this
        rw [this]
        congr 1
        omega
      · cases e
    · cases e
theorem ok_start {vs : List V} {sls : List Sl} {B : List Addr} {m : Nat} (hs : ∀ a o, F a = some o → H a = some o) (h : ArgsOk K cl F H 0 vs sls B) (nd : B.Nodup) :
    SOk K cl B F H (vs.map some ++ List.replicate m none) (sls ++ List.replicate m .no) (adrs vs sls ++ List.replicate m []) := by
  obtain ⟨e1, e2, e3, e4⟩ := args_fl h
  have fl : (adrs vs sls ++ List.replicate m []).flatten = B := by
    rw [List.flatten_append, e1]
    have : (List.replicate m ([] : List Addr)).flatten = [] := by
      induction m with
      | zero => rfl
      | succ m ih => rw [List.replicate_succ, List.flatten_cons, ih]; rfl
    rw [this, List.append_nil]
  refine ⟨hs, by simp [e3], by simp [e2], fun i sl v as h1 h2 h3 => ?_, by rw [fl]; exact nd, fun a m => (e4 a (by rw [fl] at m; exact m)).1, fun a m => (e4 a (by rw [fl] at m; exact m)).2⟩
  by_cases hi : i < vs.length
  · rw [List.getElem?_append_left (by rw [e3]; exact hi)] at h1
    rw [List.getElem?_append_left (by simpa using hi)] at h2
    rw [List.getElem?_append_left (by rw [e2]; exact hi)] at h3
    rw [List.getElem?_map, Option.map_eq_some_iff] at h2
    obtain ⟨u, h2, e⟩ := h2
    subst e
    exact args_slot h (fun j => by simp) i sl u as h1 h2 h3
  · rw [List.getElem?_append_right (by rw [e3]; omega)] at h1
    rw [List.getElem?_append_right (by rw [e2]; omega)] at h3
    have h1' := List.mem_of_getElem? h1
    have h3' := List.mem_of_getElem? h3
    rw [List.mem_replicate] at h1' h3'
    rw [h1'.2, h3'.2]
    exact rfl
theorem adrs_fl {vs : List V} {sls : List Sl} {B : List Addr} {m : Nat} (h : ArgsOk K cl F H 0 vs sls B) : (adrs vs sls ++ List.replicate m []).flatten = B := by
  rw [List.flatten_append, (args_fl h).1]
  have : (List.replicate m ([] : List Addr)).flatten = [] := by
    induction m with
    | zero => rfl
    | succ m ih => rw [List.replicate_succ, List.flatten_cons, ih]; rfl
  rw [this, List.append_nil]
theorem Gr.toB {A A' : List (List Addr)} {B : List Addr} (g : Gr F H A F' H' A') (e : A.flatten = B) : Gr F H [B] F' H' [B] where
  fr := g.fr
  keep := fun a o h n => g.keep a o h (by rw [e]; simpa using n)
  new := fun a h => by have := g.new a h; rw [e] at this; simpa using this
  own := fun a m => .inl m
  stay := g.stay
  nf := g.nf
end
section
variable {P : Program} {w : World} {K : PySem.W.Frag} {mg : Str → Option Value} {base : Heap} {G : Tb} {cl : Str → Option Addr} {lv : Nat}
theorem fn_pf {x qual : Str} {st : Stmt} {f : Addr} {fd : FuncData} {N ps : List Str} {bd : SL} {gc : Bool} (F : Fun K x qual st f fd) (S : FnScope N ps (defScope st)) (hch : chkSs bd (infoOf N (defScope st) gc) (defBody st) = true)
    (gw : GW P w K mg base G cl lv) (hg : gc = true → G.gcd = true) : FnOk P w K mg base (L2.CX P w) (lv + 1) f fd ps (spOf K cl ps.length (Fn.ofBody G (N.length - ps.length) bd)) := by
  refine F.okX S (fun vs H Q E h => ?_) fun cdv A outer s H vs Q E hr h => ?_
  · obtain ⟨_, _, _, z, _⟩ := h; exact z
  · obtain ⟨F0, sls, B, hl, sub, ha, nd, run⟩ := h
    refine ⟨_, (sndSs bd).s _ cl B (fun cls d _ H => E cls d H) (infoOf N (defScope st) gc) lv _ ⟨rfl, S.nd, rfl, fun x hx => ?_, hg, S.kind, rfl, hr, gw⟩ ⟨passes_of rfl, rfl, rfl⟩ (takes_of rfl rfl rfl rfl) hch, ?_⟩
    · exact rfl
    · refine ⟨F0, sls ++ List.replicate (N.length - ps.length) .no, adrs vs sls ++ List.replicate (N.length - ps.length) [], ?_, ?_⟩
      · unfold L2.start
        rw [hl]
        exact ok_start sub ha nd
      · have run' : evSs G bd (sls ++ List.replicate (N.length - ps.length) .no) (bodyPo sls (fun d outs => ∀ v F' H', Gr F0 H [B] F' H' [B] → (∀ a o, F' a = some o → H' a = some o) → Rep K cl F' v d → OutsOk K cl F' H' B outs → Q v H')
            (fun c outs => ∀ F' H' Ca, Gr F0 H [B] F' H' [B] → (∀ a o, F' a = some o → H' a = some o) → cl c = some Ca → OutsOk K cl F' H' B outs → E (.ref Ca) none H')) := run
        refine evSs_mono _ _ _ _ run' ⟨?_, ?_, fun _ z => z.elim, fun _ z => z.elim, ?_⟩
        · rintro env ⟨outs, e, q⟩ σ' F' H' A' g ok
          exact q _ _ _ (g.toB (adrs_fl ha)) ok.sub .non (outs_ok ok ha (fun j => by simp) 0 outs e)
        · rintro d env ⟨outs, e, q⟩ v σ' F' H' A' g ok r
          exact q _ _ _ (g.toB (adrs_fl ha)) ok.sub r (outs_ok ok ha (fun j => by simp) 0 outs e)
        · rintro c env ⟨outs, e, q⟩ σ' F' H' A' Ca g ok hc
          exact q _ _ _ (g.toB (adrs_fl ha)) ok.sub hc (outs_ok ok ha (fun j => by simp) 0 outs e)
end
end PF

set_option Elab.async false
set_option linter.all false
set_option maxRecDepth 100000
set_option maxHeartbeats 4000000

namespace PF
open PySem PySem.Spec PyProof.Rows L2

/-! ## tables of what has been shown -/
def Tb.add (G : Tb) (x : Str) (ms : List Bool) (fn : Fn) : Tb := { G with fns := fun y => if y = x then some (ms, fn) else G.fns y }
def Tb.zero (gc : Bool) (ex : List Str) (sub : Str → Str → Bool) : Tb := { fns := fun _ => none, cst := fun _ => none, mks := fun _ => none, mth := fun _ => none, fld := fun _ _ => false, exc := fun C => decide (C ∈ ex), sub := sub, gcd := gc, own := fun _ => false }
section
variable {P : Program} {w : World} {K : PySem.W.Frag} {mg : Str → Option Value} {base : Heap} {G : Tb} {cl : Str → Option Addr} {lv : Nat}
theorem gw_zero {gc : Bool} {ex : List Str} {sub : Str → Str → Bool} (hb : ∀ x ∈ biNames, mg x = none) (hg : gc = true → mg "gcd" = some (.builtin "math.gcd"))
    (he : ∀ C ∈ ex, ∃ Ca, cl C = some Ca ∧ ExC K mg C Ca) (hs : ∀ C ∈ ex, ∀ D ∈ ex, ∀ Ca Da, cl C = some Ca → cl D = some Da → PySem.W.exmOne K (.ref Ca) (.ref Da) = some (sub C D) ∧ PySem.W.kitOne K (.ref Ca) (.ref Da) = some (sub C D))
    (hv : ∀ C ∈ ex, ∀ Ca, cl C = some Ca → PySem.W.kitOne K (.ref Ca) (.type "ValueError") = some true) : GW P w K mg base (Tb.zero gc ex sub) cl 0 where
  bi := hb
  gcd := hg
  isq := fun h => nomatch h
  fns := fun _ _ _ h => nomatch h
  cst := fun _ _ h => nomatch h
  mks := fun _ _ _ h => nomatch h
  mth := fun _ _ _ _ h => nomatch h
  fld := fun _ _ _ _ h => nomatch h
  exc := fun C h => he C (of_decide_eq_true h)
  xsub := fun C D Ca Da h1 h2 h3 h4 => hs C (of_decide_eq_true h1) D (of_decide_eq_true h2) Ca Da h3 h4
  own := fun _ _ h => nomatch h
  xve := fun C Ca h1 h2 => hv C (of_decide_eq_true h1) Ca h2
theorem GW.up (gw : GW P w K mg base G cl lv) {lv' : Nat} (h : lv ≤ lv') : GW P w K mg base G cl lv' where
  bi := gw.bi
  gcd := gw.gcd
  isq := gw.isq
  fns := fun x ms fn e => by
    obtain ⟨k, f, fd, ps, hk, r⟩ := gw.fns x ms fn e
    exact ⟨k, f, fd, ps, Nat.le_trans hk h, r⟩
  cst := gw.cst
  mks := fun C n fn e => by
    obtain ⟨Ca, k, f, fd, ps, hk, r⟩ := gw.mks C n fn e
    exact ⟨Ca, k, f, fd, ps, Nat.le_trans hk h, r⟩
  mth := fun m C n fn e => by
    obtain ⟨Ca, k, f, fd, ps, hk, r⟩ := gw.mth m C n fn e
    exact ⟨Ca, k, f, fd, ps, Nat.le_trans hk h, r⟩
  fld := gw.fld
  exc := gw.exc
  xsub := gw.xsub
  own := gw.own
  xve := gw.xve
theorem GW.addF (gw : GW P w K mg base G cl lv) {x : Str} {ms : List Bool} {fn : Fn} {f : Addr} {fd : FuncData} {ps : List Str} {k : Nat} (hk : k ≤ lv) (F : FnOk P w K mg base (L2.CX P w) k f fd ps (spOf K cl ms.length fn)) (hm : mg x = some (.ref f)) (kp : PySem.W.keepIn K (.ref f) = true) (b : Binds K fd ps []) (hl : ps.length = ms.length) :
    GW P w K mg base (G.add x ms fn) cl lv where
  bi := gw.bi
  gcd := gw.gcd
  isq := gw.isq
  fns := fun y ms' fn' e => by
    have e' : (if y = x then some (ms, fn) else G.fns y) = some (ms', fn') := e
    split at e'
    · rename_i hy
      subst hy
      cases e'
      exact ⟨k, f, fd, ps, hk, F, hm, kp, b, hl⟩
    · exact gw.fns y ms' fn' e'
  cst := gw.cst
  mks := gw.mks
  mth := gw.mth
  fld := gw.fld
  exc := gw.exc
  xsub := gw.xsub
  own := gw.own
  xve := gw.xve
theorem spOf_imp {n : Nat} {fn fn' : Fn} (h : ∀ sls Q E, fn'.run sls Q E → fn.run sls Q E) : ∀ vs H Q E, spOf K cl n fn' vs H Q E → spOf K cl n fn vs H Q E := fun vs H Q E ⟨F, sls, B, h1, h2, h3, h4, h5⟩ => ⟨F, sls, B, h1, h2, h3, h4, h _ _ _ h5⟩
/-- THE STEP: one more def, by its contract -/
theorem GW.step (gw : GW P w K mg base G cl lv) {x : Str} {ms : List Bool} {fn : Fn} {st : Stmt} {f : Addr} {fd : FuncData} {N ps : List Str} {bd : SL} {gc : Bool} (F : Fun K x x st f fd) (hm : mg x = some (.ref f)) (b : Binds K fd ps []) (S : FnScope N ps (defScope st)) (hch : chkSs bd (infoOf N (defScope st) gc) (defBody st) = true) (hg : gc = true → G.gcd = true)
    (hl : ps.length = ms.length) (h : ∀ sls Q E, fn.run sls Q E → (Fn.ofBody G (N.length - ps.length) bd).run sls Q E) : GW P w K mg base (G.add x ms fn) cl (lv + 1) := by
  have FO := (fn_pf F S hch gw hg).imp (spOf_imp h)
  rw [hl] at FO
  exact (gw.up (Nat.le_succ _)).addF (Nat.le_refl _) FO hm F.kp b hl

/-- a def of values: what it gives, or raises -/
def Fn.val (r : List D → Option (D ⊕ Str)) : Fn where
  run := fun args Q E => ∃ ds o, args = ds.map Sl.fz ∧ r ds = some o ∧ match o with | .inl d => Q d [] | .inr c => E c []
  mono := fun ⟨ds, o, h1, h2, h3⟩ q e => ⟨ds, o, h1, h2, by cases o with | inl d => exact q _ _ h3 | inr c => exact e _ _ h3⟩
theorem outs_fz (env : En) : ∀ (ds : List D) (i : Nat), outsOf env (ds.map Sl.fz) i = some []
  | [], _ => rfl
  | _ :: ds, i => outs_fz env ds (i + 1)
def valPo (Q : D → Prop) (E : Str → Prop) : Po := { nx := fun _ => Q .non, rt := fun d _ => Q d, bk := fun _ => False, ct := fun _ => False, er := fun c _ => E c }
theorem val_ok {r : List D → Option (D ⊕ Str)} {m : Nat} {bd : SL} (h : ∀ ds o, r ds = some o → evSs G bd (ds.map Sl.fz ++ List.replicate m .no) (valPo (fun d => o = .inl d) (fun c => o = .inr c))) : ∀ sls Q E, (Fn.val r).run sls Q E → (Fn.ofBody G m bd).run sls Q E := by
  rintro sls Q E ⟨ds, o, e, h1, h2⟩
  subst e
  show evSs G bd (ds.map Sl.fz ++ List.replicate m .no) (bodyPo (ds.map Sl.fz) Q E)
  refine evSs_mono bd _ _ _ (h ds o h1) ⟨fun env e => ?_, fun d env e => ?_, fun _ z => z, fun _ z => z, fun c env e => ?_⟩
  · have e' : o = .inl .non := e
    subst e'; exact ⟨[], outs_fz _ _ _, h2⟩
  · have e' : o = .inl d := e
    subst e'; exact ⟨[], outs_fz _ _ _, h2⟩
  · have e' : o = .inr c := e
    subst e'; exact ⟨[], outs_fz _ _ _, h2⟩
end

/-! ## the law at its end -/
def spLaw (K : PySem.W.Frag) : Sp := fun vs H Q _ => ∃ (a : Addr) (ns : List Int), vs = [.ref a] ∧ SqL K H a (ns.map V.int) ∧ ns.length ≤ 63 ∧ ∀ H', Q (.bl true) H'
theorem law_end {P : Program} {w : World} {K : PySem.W.Frag} {mg : Str → Option Value} {base : Heap} {cl : Str → Option Addr} {k : Nat} {f : Addr} {fd : FuncData} {x : Str} {fn : Fn} {n : Nat} (hn : n = 1) (FO : FnOk P w K mg base (L2.CX P w) k f fd [x] (spOf K cl n fn))
    (h : ∀ ns : List Int, ns.length ≤ 63 → fn.run [.fz (.klst (ns.map D.int))] (fun d _ => d = .bl true) (fun _ _ => False)) : FnOk P w K mg base (L2.CX P w) k f fd [x] (spLaw K) := by
  refine FO.imp fun vs H Q E ⟨a, ns, e, hS, hl, q⟩ => ?_
  subst e hn
  refine ⟨H, _, [], rfl, fun _ _ z => z, .fz (.klst hS (RepL.of_ints ns)) .nil, .nil, fn.mono (h ns hl) (fun d o e v F' H' g sub r ro => ?_) fun c o z => z.elim⟩
  subst e
  cases r
  exact q _
theorem walk {l : PySem.W.OpenLaw} {q : Program} {loose : List Str} {XP : (Str → Option Value) → Heap → Prop} {YP : World → Heap → Prop} {d : DefRec} {K : Params → PySem.W.Frag} {k : Nat} (hr : Room k callerA) (hn : l.most = some 63) (hdf : d.params.defaults = [])
    (hY : ∀ (w : World) (h : Heap), YP w h → (K w.params).In h)
    (F : ∀ (w : World) (mg : Str → Option Value) (fa : Addr) (h : Heap), (K w.params).In h → h.Ns mainGlobals mg → mg d.name = some (.ref fa) →
      ∃ fd : FuncData, (∀ (s : Shared) (u : Value), BindsTo s fd ⟨[u], []⟩ [("script", u)]) ∧ ∀ base : Heap, (K w.params).In base → base.Ns mainGlobals mg → FnOk l.prog w (K w.params) mg base (L2.CX l.prog w) k fa fd ["script"] (spLaw (K w.params))) :
    PySem.W.WalkO q loose XP YP l.row.toRowW d [] (fun f vs => PySem.call f vs) :=
  L2.walk_of (n := 63) (k := k) (x := "script") (CX := fun w => L2.CX l.prog w) (sp := fun w => spLaw (K w.params)) hn (by decide) hdf hr hY F (fun _ _ a ns hl _ hS => ⟨a, ns, rfl, hS, hl, fun _ => rfl⟩) fun _ _ _ _ _ z => by
    obtain ⟨_, _, _, _, _, _, _, _, _, _, _, _, z⟩ := z
    exact z.elim
/-! ## isinstance and except, of own classes -/
theorem kit_ref {K : PySem.W.Frag} {t : Value} {C : Addr} {b : Bool} (hd : PySem.W.hasDictIn K C = true) (ht : PySem.W.typeIn K (.ref C) = some (.type "type")) (h4 : PySem.W.subIn K t (.ref C) = some b) (hb : t = .ref C → b = true) : PySem.W.kitOne K t (.ref C) = some b := by
  obtain ⟨cd, hc, _⟩ := PySem.W.any_some hd
  unfold PySem.W.kitOne
  split
  · rename_i e
    rw [hb (beq_iff_eq.mp e)]
  · unfold PySem.W.kitCls
    have e2 : ((PySem.W.clsIn K C).isSome && PySem.W.typeIn K (.ref C) == some (.type "type")) = true := by rw [hc, ht] <;> rfl
    show (if ((PySem.W.clsIn K C).isSome && PySem.W.typeIn K (.ref C) == some (.type "type")) = true then PySem.W.subIn K t (.ref C) else none) = some b
    rw [if_pos e2]
    exact h4
theorem kit_ve {K : PySem.W.Frag} {C : Addr} (h : PySem.W.subIn K (.ref C) (.type "ValueError") = some true) : PySem.W.kitOne K (.ref C) (.type "ValueError") = some true := by
  unfold PySem.W.kitOne
  rw [if_neg (by simp)]
  show (if PySem.W.kitMeta "ValueError" = true then PySem.W.subIn K (.ref C) (.type "ValueError") else none) = some true
  rw [if_pos (by decide +kernel)]
  exact h
end PF

set_option Elab.async false
set_option linter.all false
set_option maxRecDepth 100000
set_option maxHeartbeats 4000000

namespace PF
open PySem PySem.Spec PyProof.Rows L2

/-! ## plain facts: contracts, rows and tables -/
/-- a def of values: for each a of which P holds, what it gives, or raises -/
def Fn.pre {α : Type} (arg : α → List D) (P : α → Prop) (res : α → D ⊕ Str) : Fn where
  run := fun args Q E => ∃ a, args = (arg a).map Sl.fz ∧ P a ∧ match res a with | .inl d => Q d [] | .inr c => E c []
  mono := fun ⟨a, h1, h2, h3⟩ q e => ⟨a, h1, h2, by
    split at h3
    · rename_i z; first | exact q _ _ h3 | (simp only [z]; exact q _ _ h3)
    · rename_i z; first | exact e _ _ h3 | (simp only [z]; exact e _ _ h3)⟩
theorem pre_ok {α : Type} {arg : α → List D} {P : α → Prop} {res : α → D ⊕ Str} {G : Tb} {m : Nat} {bd : SL} (h : ∀ a, P a → evSs G bd ((arg a).map Sl.fz ++ List.replicate m .no) (valPo (fun d => res a = .inl d) (fun c => res a = .inr c))) : ∀ sls Q E, (Fn.pre arg P res).run sls Q E → (Fn.ofBody G m bd).run sls Q E := by
  rintro sls Q E ⟨a, e, h1, h2⟩
  subst e
  show evSs G bd ((arg a).map Sl.fz ++ List.replicate m .no) (bodyPo ((arg a).map Sl.fz) Q E)
  refine evSs_mono bd _ _ _ (h a h1) ⟨fun env e => ?_, fun d env e => ?_, fun _ z => z, fun _ z => z, fun c env e => ?_⟩
  · have e' : res a = .inl .non := e
    rw [e'] at h2; exact ⟨[], outs_fz _ _ _, h2⟩
  · have e' : res a = .inl d := e
    rw [e'] at h2; exact ⟨[], outs_fz _ _ _, h2⟩
  · have e' : res a = .inr c := e
    rw [e'] at h2; exact ⟨[], outs_fz _ _ _, h2⟩
theorem sls_vals (env : En) : ∀ (ds : List D) (n : Nat), slsOf env n (ds.map Sum.inl) = some (ds.map Sl.fz)
  | [], _ => rfl
  | d :: ds, n => by
    show (slsOf env n (ds.map Sum.inl)).map (Sl.fz d :: ·) = _
    rw [sls_vals env ds n]; rfl
theorem refs_vals : ∀ ds : List D, refs (ds.map Sum.inl) = []
  | [] => rfl
  | _ :: ds => refs_vals ds
theorem call_pre {α : Type} {arg : α → List D} {P : α → Prop} {res : α → D ⊕ Str} {n : Nat} {ds : List (D ⊕ Nat)} {env : En} {Q : Ev → En → Prop} {Er : KE0} (a : α) (e : ds = (arg a).map Sum.inl) (hn : (arg a).length = n) (hP : P a) (d : D) (hr : res a = .inl d) (h : Q (.d d) env) : callR n (Fn.pre arg P res) ds env Q Er := by
  subst e
  refine ⟨by simpa using hn, _, sls_vals env _ 0, by rw [refs_vals]; exact .nil, a, rfl, hP, ?_⟩
  rw [hr, refs_vals]
  exact ⟨env, rfl, h⟩
theorem call_preE {α : Type} {arg : α → List D} {P : α → Prop} {res : α → D ⊕ Str} {n : Nat} {ds : List (D ⊕ Nat)} {env : En} {Q : Ev → En → Prop} {Er : KE0} (a : α) (e : ds = (arg a).map Sum.inl) (hn : (arg a).length = n) (hP : P a) (c : Str) (hr : res a = .inr c) (h : Er c env) : callR n (Fn.pre arg P res) ds env Q Er := by
  subst e
  refine ⟨by simpa using hn, _, sls_vals env _ 0, by rw [refs_vals]; exact .nil, a, rfl, hP, ?_⟩
  rw [hr, refs_vals]
  exact ⟨env, rfl, h⟩

/-! rows of three, tables of three rows -/
abbrev R3 := Int × Int × Int
abbrev M3 := R3 × R3 × R3
def dR (r : R3) : D := .tup [.int r.1, .int r.2.1, .int r.2.2]
def dM (m : M3) : D := .tup [dR m.1, dR m.2.1, dR m.2.2]
/-- of few bits -/
def Sm (n : Nat) (i : Int) : Prop := i.natAbs < 2 ^ n
def SmR (n : Nat) (r : R3) : Prop := Sm n r.1 ∧ Sm n r.2.1 ∧ Sm n r.2.2
def SmM (n : Nat) (m : M3) : Prop := SmR n m.1 ∧ SmR n m.2.1 ∧ SmR n m.2.2
theorem Sm.up {a b : Nat} {i : Int} (h : Sm a i) (hb : a ≤ b) : Sm b i := Nat.lt_of_lt_of_le h (Nat.pow_le_pow_right (by decide) hb)
theorem Sm.mul {a b : Nat} {i j : Int} (h : Sm a i) (g : Sm b j) : Sm (a + b) (i * j) := by
  unfold Sm at *
  rw [Int.natAbs_mul, Nat.pow_add]
  exact Nat.mul_lt_mul'' h g
theorem Sm.add {a b : Nat} {i j : Int} (h : Sm a i) (g : Sm b j) : Sm (max a b + 1) (i + j) := by
  have h' := h.up (Nat.le_max_left a b)
  have g' := g.up (Nat.le_max_right a b)
  unfold Sm at *
  rw [Nat.pow_succ]
  have := Int.natAbs_add_le i j
  omega
theorem Sm.sub {a b : Nat} {i j : Int} (h : Sm a i) (g : Sm b j) : Sm (max a b + 1) (i - j) := by
  have g' : Sm b (-j) := by unfold Sm at *; rw [Int.natAbs_neg]; exact g
  have := h.add g'
  rwa [← Int.sub_eq_add_neg] at this
theorem Sm.cm {a b : Nat} {i j : Int} (h : Sm a i) (g : Sm b j) (hn : a + b ≤ 999990) : CMulW i j := by
  refine wide_mul (a := a + 1) (b := b + 1) (h.up (Nat.le_succ _)) (g.up (Nat.le_succ _)) (by omega) (by omega) (by omega)
def dot (v w : R3) : Int := v.1 * w.1 + v.2.1 * w.2.1 + v.2.2 * w.2.2
def im (m : M3) (r : R3) : R3 := (dot m.1 r, dot m.2.1 r, dot m.2.2 r)
def tp (m : M3) : M3 := ((m.1.1, m.2.1.1, m.2.2.1), (m.1.2.1, m.2.1.2.1, m.2.2.2.1), (m.1.2.2, m.2.1.2.2, m.2.2.2.2))
def rm (l : R3) (b : M3) : R3 := (dot l b.1, dot l b.2.1, dot l b.2.2)
def mm (a b : M3) : M3 := (rm a.1 (tp b), rm a.2.1 (tp b), rm a.2.2 (tp b))
def cr (v w : R3) : R3 := (v.2.1 * w.2.2 - v.2.2 * w.2.1, v.2.2 * w.1 - v.1 * w.2.2, v.1 * w.2.1 - v.2.1 * w.1)
def det3 (m : M3) : Int := dot m.1 (cr m.2.1 m.2.2)
def adj (m : M3) : M3 := tp (cr m.2.1 m.2.2, cr m.2.2 m.1, cr m.1 m.2.1)
end PF

set_option Elab.async false
set_option linter.all false
set_option maxRecDepth 100000
set_option maxHeartbeats 4000000

namespace PF
open PySem PySem.Spec PyProof.Rows L2

/-! ## a symbolic evaluator: what an expression gives, and what must hold for it; nothing in the slots changes -/
abbrev PV := Option (Ev × Prop)
def peekD (env : En) : Ev → Option D
  | .d d => some d
  | .vw i => match env[i]? with
    | some (.fz d) => some d
    | some (.own _ ds) => some (.lst ds)
    | _ => none
  | .nw ds => some (.lst ds)
  | .nw2 _ => none
theorem peekD_ok {env : En} {e : Ev} {d : D} {Q : D → Prop} (h : peekD env e = some d) (q : Q d) : peekW env e Q := by
  cases e with
  | d x => cases h; exact q
  | vw i =>
    unfold peekW
    unfold peekD at h
    dsimp only at h ⊢
    split at h
    · rename_i e; cases h; first | (rw [e]; exact q) | exact q
    · rename_i e; cases h; first | (rw [e]; exact q) | exact q
    · cases h
  | nw ds => cases h; exact q
  | nw2 _ => cases h
/-- a value that stays, with no slot changed -/
def setD : Ev → Option D
  | .d d => some d
  | .nw ds => some (.lst ds)
  | .nw2 dss => some (.lst (dss.map .lst))
  | .vw _ => none
theorem setD_ok {env : En} {e : Ev} {d : D} {Q : D → En → Prop} (h : setD e = some d) (q : Q d env) : PF.settle env e Q := by
  cases e with
  | vw i => cases h
  | _ => cases h; exact q
def binF : Bop → D → D → PV
  | .add, .int i, .int j => some (.d (.int (i + j)), True)
  | .add, .tup xs, .tup ys => some (.d (.tup (xs ++ ys)), xs.length + ys.length ≤ sizeLine)
  | .add, .str x, .str y => some (.d (.str (x ++ y)), x.length + y.length ≤ sizeLine)
  | .add, .lst xs, .lst ys => some (.nw (xs ++ ys), xs.length + ys.length ≤ sizeLine)
  | .sub, .int i, .int j => some (.d (.int (i - j)), True)
  | .mul, .int i, .int j => some (.d (.int (i * j)), CMulW i j)
  | .fdiv, .int i, .int j => some (.d (.int (i / j)), 0 < j ∧ j.natAbs.log2 < 9000)
  | .mod, .int i, .int j => some (.d (.int (i % j)), 0 < j)
  | .pow, .int i, .int j => some (.d (.int (i ^ j.toNat)), CPow i j)
  | _, _, _ => none
theorem binF_ok {op : Bop} {x y : D} {v : Ev} {c : Prop} {Q : Ev → Prop} (h : binF op x y = some (v, c)) (hc : c) (q : Q v) : opBin op x y Q := by
  unfold binF at h
  split at h <;> first | (cases h; done) | (cases h)
  · exact q
  · exact ⟨hc, q⟩
  · exact ⟨hc, q⟩
  · exact ⟨hc, q⟩
  · exact q
  · exact ⟨hc, q⟩
  · dsimp only [opBin]; rw [if_pos hc.1]; exact ⟨hc.2, q⟩
  · dsimp only [opBin]; rw [if_pos hc]; exact q
  · exact ⟨hc, q⟩
def intsOf : List D → Option (List Int)
  | [] => some []
  | .int i :: r => (intsOf r).map (i :: ·)
  | _ => none
theorem intsOf_ok : ∀ {ds : List D} {ns : List Int}, intsOf ds = some ns → ds = ns.map D.int
  | [], _, h => by cases h; rfl
  | d :: ds, ns, h => by
    cases d with
    | int i =>
      simp only [intsOf, Option.map_eq_some_iff] at h
      obtain ⟨a, h1, h2⟩ := h
      rw [← h2, intsOf_ok h1]; rfl
    | _ => cases h
def cmpF : Cop → D → D → Option (Bool × Prop)
  | .eq, .int i, .int j => some (decide (i = j), True)
  | .ne, .int i, .int j => some (!decide (i = j), True)
  | .eq, x, y => some (eqD x y, shp x = true ∧ shp y = true)
  | .ne, x, y => some (!eqD x y, shp x = true ∧ shp y = true)
  | .lt, .int i, .int j => some (decide (i < j), True)
  | .le, .int i, .int j => some (decide (i ≤ j), True)
  | .gt, .int i, .int j => some (decide (j < i), True)
  | .ge, .int i, .int j => some (decide (j ≤ i), True)
  | .isN, x, .non => some (isNon x, True)
  | .notN, x, .non => some (!isNon x, True)
  | .isN, .bl a, .bl b => some (decide (a = b), True)
  | .notN, .bl a, .bl b => some (!decide (a = b), True)
  | .inn, x, .lst ys => some (ys.any fun z => eqD z x, shp x = true ∧ shp (.lst ys) = true)
  | .nin, x, .lst ys => some (!ys.any fun z => eqD z x, shp x = true ∧ shp (.lst ys) = true)
  | .inn, .int i, .tup ys => (intsOf ys).map fun ns => (ns.any fun z => z == i, True)
  | .nin, .int i, .tup ys => (intsOf ys).map fun ns => (!ns.any fun z => z == i, True)
  | .inn, .non, .tup ys => (intsOf ys).map fun _ => (false, True)
  | .nin, .non, .tup ys => (intsOf ys).map fun _ => (true, True)
  | .gt, .tup xs, .tup ys => (intsOf xs).bind fun ns => (intsOf ys).map fun ms => (gtI ns ms, True)
  | .le, .tup xs, .tup ys => (intsOf xs).bind fun ns => (intsOf ys).map fun ms => (leI ns ms, True)
  | .lt, .tup xs, .tup ys => (intsOf xs).bind fun ns => (intsOf ys).map fun ms => (HT.lexLt ns ms, True)
  | _, _, _ => none
theorem eqC_ok {x y : D} {Q : Bool → Prop} (hn : ∀ i j, x = .int i → y = .int j → False) (h1 : shp x = true) (h2 : shp y = true) (q : Q (eqD x y)) : opCmp .eq x y Q := by
  cases x <;> cases y <;> first | exact ⟨h1, h2, q⟩ | exact (hn _ _ rfl rfl).elim
theorem neC_ok {x y : D} {Q : Bool → Prop} (hn : ∀ i j, x = .int i → y = .int j → False) (h1 : shp x = true) (h2 : shp y = true) (q : Q (!eqD x y)) : opCmp .ne x y Q := by
  cases x <;> cases y <;> first | exact ⟨h1, h2, q⟩ | exact (hn _ _ rfl rfl).elim
theorem cmpF_ok {op : Cop} {x y : D} {b : Bool} {c : Prop} {Q : Bool → Prop} (h : cmpF op x y = some (b, c)) (hc : c) (q : Q b) : opCmp op x y Q := by
  unfold cmpF at h
  split at h <;> first | (cases h; done) | (simp only [Option.map_eq_some_iff, Option.bind_eq_some_iff] at h; first | (obtain ⟨ns, h1, h2⟩ := h; cases h2; exact ⟨ns, intsOf_ok h1, q⟩) | (obtain ⟨ns, h1, ms, h2, h3⟩ := h; cases h3; exact ⟨ns, ms, intsOf_ok h1, intsOf_ok h2, q⟩)) | (cases h)
  · exact q
  · exact q
  · rename_i hn; exact eqC_ok hn hc.1 hc.2 q
  · rename_i hn; exact neC_ok hn hc.1 hc.2 q
  · exact q
  · exact q
  · exact q
  · exact q
  · exact q
  · exact q
  · exact q
  · exact q
  · exact ⟨hc.1, hc.2, q⟩
  · exact ⟨hc.1, hc.2, q⟩
def truF : D → Option (Bool × Prop)
  | .non => some (false, True)
  | .bl b => some (b, True)
  | .int i => some (i != 0, True)
  | .str x => some ((x.length : Int) != 0, x.length ≤ sizeLine)
  | .lst ds => some (!ds.isEmpty, True)
  | .tup ds => some (!ds.isEmpty, True)
  | _ => none
theorem truF_ok {x : D} {b : Bool} {c : Prop} {Q : Bool → Prop} (h : truF x = some (b, c)) (hc : c) (q : Q b) : opTru x Q := by
  cases x <;> cases h <;> first | exact q | exact ⟨hc, q⟩
/-- an item by its place: from the front with no look at the length -/
def atF (xs : List D) : Int → Option D
  | .ofNat k => xs[k]?
  | .negSucc k => atI xs (.negSucc k)
theorem atF_ok {xs : List D} {i : Int} {d : D} (h : atF xs i = some d) : atI xs i = some d := by
  cases i with
  | ofNat k =>
    have h' : xs[k]? = some d := h
    have hk := (List.getElem?_eq_some_iff.mp h').1
    unfold atI ixN
    rw [if_pos (show (0 : Int) ≤ Int.ofNat k from Int.natCast_nonneg k), if_pos (show Int.ofNat k < (xs.length : Int) from Int.ofNat_lt.mpr hk)]
    exact h'
  | negSucc k => exact h
def ixF : D → D → Option D
  | .lst xs, .int i => atF xs i
  | .tup xs, .int i => atF xs i
  | .klst xs, .int i => atF xs i
  | _, _ => none
theorem ixF_ok {x y d : D} {Q : D → Prop} (h : ixF x y = some d) (q : Q d) : opIx x y Q := by
  unfold ixF at h
  split at h <;> first | exact ⟨d, atF_ok h, q⟩ | cases h
def slF : D → Option Int → Option Int → Option Ev
  | .lst xs, l, h => some (.nw (cutD xs l h))
  | .tup xs, l, h => some (.d (.tup (cutD xs l h)))
  | .klst xs, l, h => some (.nw (cutD xs l h))
  | _, _, _ => none
theorem slF_ok {x : D} {l h : Option Int} {v : Ev} {Q : Ev → Prop} (e : slF x l h = some v) (q : Q v) : opSl x l h Q := by
  cases x <;> cases e <;> exact q
def blsOf : List D → Option (List Bool)
  | [] => some []
  | .bl i :: r => (blsOf r).map (i :: ·)
  | _ => none
theorem blsOf_ok : ∀ {ds : List D} {ns : List Bool}, blsOf ds = some ns → ds = ns.map D.bl
  | [], _, h => by cases h; rfl
  | d :: ds, ns, h => by
    cases d with
    | bl i =>
      simp only [blsOf, Option.map_eq_some_iff] at h
      obtain ⟨a, h1, h2⟩ := h
      rw [← h2, blsOf_ok h1]; rfl
    | _ => cases h
def rowsOf : List D → Option (List SrtT.I3)
  | [] => some []
  | .tup [.int a, .int b, .int c] :: r => (rowsOf r).map ((a, b, c) :: ·)
  | _ => none
theorem rowsOf_ok : ∀ {ds : List D} {ts : List SrtT.I3}, rowsOf ds = some ts → ds = ts.map row3
  | [], _, h => by cases h; rfl
  | d :: ds, ts, h => by
    unfold rowsOf at h
    split at h
    · rename_i e; cases e
    · rename_i e
      simp only [Option.map_eq_some_iff] at h
      obtain ⟨a, h1, h2⟩ := h
      cases e
      rw [← h2, rowsOf_ok h1]; rfl
    · cases h
theorem rowsOf_map : ∀ ts : List SrtT.I3, rowsOf (ts.map row3) = some ts
  | [] => rfl
  | t :: ts => by
    have := rowsOf_map ts
    show (rowsOf (ts.map row3)).map _ = _
    rw [this]; rfl
def biF : Bi → List D → PV
  | .len, [.lst ds] => some (.d (.int ds.length), True)
  | .len, [.tup ds] => some (.d (.int ds.length), True)
  | .len, [.klst ds] => some (.d (.int ds.length), True)
  | .tuple, [.lst ds] => some (.d (.tup ds), True)
  | .tuple, [.tup ds] => some (.d (.tup ds), True)
  | .list, [.lst ds] => some (.nw ds, True)
  | .list, [.tup ds] => some (.nw ds, True)
  | .abs, [.int i] => some (.d (.int (if i < 0 then -i else i)), True)
  | .int, [.int i] => some (.d (.int i), True)
  | .int, [.bl b] => some (.d (.int (if b then 1 else 0)), True)
  | .sum, [.lst ds] => (intsOf ds).map fun ns => (.d (.int ns.sum), True)
  | .all, [.lst ds] => (blsOf ds).map fun bs => (.d (.bl (bs.all id)), True)
  | .any, [.lst ds] => (blsOf ds).map fun bs => (.d (.bl (bs.any id)), True)
  | .max, [.int i, .int j] => some (.d (.int (if j > i then j else i)), True)
  | .min, [.int i, .int j] => some (.d (.int (if j < i then j else i)), True)
  | .max, [.int i, .int j, .int k] => some (.d (.int (mx2 (mx2 i j) k)), True)
  | .max, [.lst ds] => (intsOf ds).map fun ns => (.d (.int (maxL ns)), ns ≠ [])
  | .min, [.lst ds] => (intsOf ds).map fun ns => (.d (.int (minL ns)), ns ≠ [])
  | .gcd, [.int a, .int b] => some (.d (.int ((Nat.gcd a.natAbs b.natAbs : Nat) : Int)), True)
  | .str, [.int i] => some (.d (.str (toString i)), i.natAbs.log2 < 1920)
  | .sorted, [.lst ds] => (rowsOf ds).map fun ts => (.nw ((SrtT.sort3 ts).map row3), True)
  | _, _ => none
theorem biF_ok {f : Bi} {xs : List D} {v : Ev} {c : Prop} {Q : Ev → Prop} (h : biF f xs = some (v, c)) (hc : c) (q : Q v) : opBi f xs Q := by
  unfold biF at h
  split at h <;> first | (cases h; done) | (simp only [Option.map_eq_some_iff] at h; obtain ⟨ns, h1, h2⟩ := h; cases h2; first | exact ⟨ns, intsOf_ok h1, q⟩ | exact ⟨ns, blsOf_ok h1, q⟩ | exact ⟨ns, rowsOf_ok h1, q⟩ | exact ⟨ns, ⟨intsOf_ok h1, hc⟩, q⟩) | (cases h; first | exact q | exact ⟨hc, q⟩)
end PF

set_option Elab.async false
set_option linter.all false
set_option maxRecDepth 100000
set_option maxHeartbeats 4000000

namespace PF
open PySem PySem.Spec PyProof.Rows L2

/-- what calls give: functional contracts -/
structure Ft where
  fn : Str → Option (List D → Option (D × Prop))
  cst : Str → Option D
  mks : Str → Option (List D → Option (D × Prop))
  mth : Str → Option (List D → Option (D × Prop))
  fld : Str → Str → Bool
structure FtOk (G : Tb) (T : Ft) : Prop where
  fn : ∀ f r ds p, T.fn f = some r → r ds = some p → p.2 → ∃ fn, G.fns f = some (List.replicate ds.length false, fn) ∧ ∀ Q E, Q p.1 [] → fn.run (ds.map .fz) Q E
  cst : ∀ x d, T.cst x = some d → G.cst x = some d
  mks : ∀ C r ds p, T.mks C = some r → r ds = some p → p.2 → ∃ fn, G.mks C = some (ds.length, fn) ∧ ds ≠ [] ∧ ∀ Q E, Q p.1 [] → fn.run (ds.map .fz) Q E
  mth : ∀ m r ds p, T.mth m = some r → r ds = some p → p.2 → ∃ C fs tl fn, ds = .obj C fs :: tl ∧ fs.lookup m = none ∧ G.mth m = some (C, ds.length, fn) ∧ ∀ Q E, Q p.1 [] → fn.run (ds.map .fz) Q E
  fld : ∀ C f, T.fld C f = true → G.fld C f = true
def noOwnB (env : En) (is : List Nat) : Bool := is.all fun i => match env[i]? with
  | some (.own _ _) => false
  | some (.own2 _) => false
  | some (.ob _ _) => false
  | some (.dic _) => false
  | _ => true
theorem noOwnB_ok {env : En} {is : List Nat} (h : noOwnB env is = true) : noOwn env is := fun i m => by
  have := List.all_eq_true.mp h i m
  split <;> rename_i e <;> simp only [e] at this <;> first | trivial | cases this
def lcF (is : List Nat) (tg : Tg) (cnd : En → Option (Bool × Prop)) (elt : En → PV) (env0 : En) : List D → Option (List D × Prop)
  | [] => some ([], True)
  | d :: ds => (putTg tg d (wipeE env0 is)).bind fun env1 => (cnd env1).bind fun b => match b.1 with
    | true => (elt env1).bind fun e => (setD e.1).bind fun x => (lcF is tg cnd elt env0 ds).map fun r => (x :: r.1, b.2 ∧ e.2 ∧ r.2)
    | false => (lcF is tg cnd elt env0 ds).map fun r => (r.1, b.2 ∧ r.2)
section
variable (T : Ft)
/-- the truth of a value -/
def truP (v : En → PV) : En → Option (Bool × Prop) := fun env => (v env).bind fun p => (peekD env p.1).bind fun x => (truF x).map fun r => (r.1, p.2 ∧ r.2)
mutual
def evQ : E → (En → PV) × (En → Option (Bool × Prop))
  | .cst c => let v : En → PV := fun _ => some (.d c.dt, True); (v, truP v)
  | .var i => let v : En → PV := fun env => match env[i]? with
    | some (.fz d) => some (.d d, True)
    | some (.own _ _) => some (.vw i, True)
    | some (.own2 _) => some (.vw i, True)
    | _ => none; (v, truP v)
  | .glob x => let v : En → PV := fun _ => (T.cst x).map fun d => (.d d, True); (v, truP v)
  | .bin op a b => let v : En → PV := fun env => ((evQ a).1 env).bind fun p => ((evQ b).1 env).bind fun q => (peekD env p.1).bind fun x => (peekD env q.1).bind fun y => (binF op x y).map fun r => (r.1, p.2 ∧ q.2 ∧ r.2); (v, truP v)
  | .neg a => let v : En → PV := fun env => ((evQ a).1 env).bind fun p => match p.1 with
    | .d (.int i) => some (.d (.int (-i)), p.2)
    | _ => none; (v, truP v)
  | .cmp op a b => let v : En → PV := fun env => ((evQ a).1 env).bind fun p => ((evQ b).1 env).bind fun q => (peekD env p.1).bind fun x => (peekD env q.1).bind fun y => (cmpF op x y).map fun r => (.d (.bl r.1), p.2 ∧ q.2 ∧ r.2); (v, truP v)
  | .chain o1 o2 a b c => let v : En → PV := fun env => ((evQ a).1 env).bind fun p => ((evQ b).1 env).bind fun q => ((evQ c).1 env).bind fun w => (peekD env p.1).bind fun x => (peekD env q.1).bind fun y => (peekD env w.1).bind fun z => (cmpF o1 x y).bind fun r => (cmpF o2 y z).map fun r' => (.d (.bl (r.1 && r'.1)), p.2 ∧ q.2 ∧ r.2 ∧ (r.1 = true → w.2 ∧ r'.2)); (v, truP v)
  | .band l => (fun env => (evPAV l env).map fun r => (.d (.bl r.1), r.2), evPA l)
  | .bor l => (fun env => (evPOV l env).map fun r => (.d (.bl r.1), r.2), evPOr l)
  | .bnot a => (fun env => ((evQ a).1 env).bind fun p => match p.1 with
    | .d (.bl b) => some (.d (.bl (!b)), p.2)
    | _ => none, fun env => ((evQ a).2 env).map fun p => (!p.1, p.2))
  | .ife c a b => (fun env => ((evQ c).2 env).bind fun k => match k.1 with
    | true => ((evQ a).1 env).map fun p => (p.1, k.2 ∧ p.2)
    | false => ((evQ b).1 env).map fun p => (p.1, k.2 ∧ p.2), fun _ => none)
  | .call f l => let v : En → PV := fun env => (T.fn f).bind fun r => (evPM l env).bind fun ds => (r ds.1).map fun p => (.d p.1, ds.2 ∧ p.2); (v, truP v)
  | .mk C l => let v : En → PV := fun env => (T.mks C).bind fun r => (evPM l env).bind fun ds => (r ds.1).map fun p => (.d p.1, ds.2 ∧ p.2); (v, truP v)
  | .meth m o l => let v : En → PV := fun env => (T.mth m).bind fun r => ((evQ o).1 env).bind fun e => (setD e.1).bind fun d0 => (evPM l env).bind fun ds => (r (d0 :: ds.1)).map fun p => (.d p.1, e.2 ∧ ds.2 ∧ p.2); (v, truP v)
  | .bi f l => let v : En → PV := fun env => (evPL l env).bind fun es => (es.1.mapM (peekD env)).bind fun ds => (biF f ds).map fun r => (r.1, es.2 ∧ r.2); (v, truP v)
  | .isi a ty => let v : En → PV := fun env => ((evQ a).1 env).bind fun p => (peekD env p.1).bind fun x => (isiB x ty).map fun b => (.d (.bl b), p.2); (v, truP v)
  | .attr o f => let v : En → PV := fun env => ((evQ o).1 env).bind fun p => (peekD env p.1).bind fun x => match x with
    | .obj C fs => if T.fld C f = true then (fs.lookup f).map fun d => (.d d, p.2) else none
    | _ => none; (v, truP v)
  | .ix a b => let v : En → PV := fun env => ((evQ a).1 env).bind fun p => ((evQ b).1 env).bind fun q => (peekD env p.1).bind fun x => (peekD env q.1).bind fun y => (ixF x y).map fun d => (.d d, p.2 ∧ q.2); (v, truP v)
  | .sl a lo hi => let v : En → PV := fun env => ((evQ a).1 env).bind fun p => (evPO lo env).bind fun l => (evPO hi env).bind fun h => (peekD env p.1).bind fun x => (slF x l.1 h.1).map fun e => (e, p.2 ∧ l.2 ∧ h.2); (v, truP v)
  | .tup l => let v : En → PV := fun env => (evPM l env).map fun ds => (.d (.tup ds.1), ds.2 ∧ ds.1.length ≤ sizeLine); (v, truP v)
  | .lst l => let v : En → PV := fun env => (evPM l env).map fun ds => (.nw ds.1, ds.2 ∧ ds.1.length ≤ sizeLine); (v, truP v)
  | .lst2 l => (fun env => (evPL l env).bind fun es => (nws es.1).map fun dss => (.nw2 dss, es.2 ∧ es.1.length ≤ sizeLine), fun _ => none)
  | .lc tg it cnd elt => let v : En → PV := fun env => (evPI it env).bind fun ds => if noOwnB env tg.is = true then (lcF tg.is tg (evPC cnd) (evQ elt).1 env ds.1).map fun r => (.nw r.1, ds.2 ∧ r.2 ∧ r.1.length ≤ sizeLine) else none; (v, truP v)
  | .callN _ _ => (fun _ => none, fun _ => none)
  | .dnin _ _ => (fun _ => none, fun _ => none)
  | .dget _ _ => (fun _ => none, fun _ => none)
  | .lrng it => let v : En → PV := fun env => (evPI it env).map fun ds => (.nw ds.1, ds.2 ∧ ds.1.length ≤ 100000); (v, truP v)
def evPL : EL → En → Option (List Ev × Prop)
  | .nil => fun _ => some ([], True)
  | .cons e l => fun env => ((evQ e).1 env).bind fun p => (evPL l env).map fun r => (p.1 :: r.1, p.2 ∧ r.2)
def evPM : EL → En → Option (List D × Prop)
  | .nil => fun _ => some ([], True)
  | .cons e l => fun env => ((evQ e).1 env).bind fun p => (setD p.1).bind fun d => (evPM l env).map fun r => (d :: r.1, p.2 ∧ r.2)
def evPO : EO → En → Option (Option Int × Prop)
  | .none => fun _ => some (Option.none, True)
  | .some e => fun env => ((evQ e).1 env).bind fun p => match p.1 with
    | .d (.int i) => some (some i, p.2)
    | _ => none
def evPI : It → En → Option (List D × Prop)
  | .of e => fun env => ((evQ e).1 env).bind fun p => (setD p.1).bind fun d => match d with
    | .lst ds => some (ds, p.2)
    | .tup ds => some (ds, p.2)
    | .klst ds => some (ds, p.2)
    | _ => none
  | .rng1 a => fun env => ((evQ a).1 env).bind fun p => match p.1 with
    | .d (.int j) => some (intsFrom 0 j.toNat, p.2 ∧ -(2 ^ 62) ≤ j ∧ j < 2 ^ 62)
    | _ => none
  | .rng2 a b => fun env => ((evQ a).1 env).bind fun p => ((evQ b).1 env).bind fun q => match p.1, q.1 with
    | .d (.int i), .d (.int j) => some (intsFrom i (j - i).toNat, p.2 ∧ q.2 ∧ (-(2 ^ 62) ≤ i ∧ i < 2 ^ 62 ∧ -(2 ^ 62) ≤ j ∧ j < 2 ^ 62))
    | _, _ => none
  | .enum e => fun env => ((evQ e).1 env).bind fun p => (setD p.1).bind fun d => match d with
    | .lst ds => some (enumD 0 ds, p.2)
    | _ => none
  | .zip a b => fun env => ((evQ a).1 env).bind fun p => (setD p.1).bind fun d => ((evQ b).1 env).bind fun q => (setD q.1).bind fun d' => match d, d' with
    | .lst ds, .lst es => some (zipD ds es, p.2 ∧ q.2)
    | _, _ => none
def evPC : EL → En → Option (Bool × Prop)
  | .nil => fun _ => some (true, True)
  | .cons a .nil => (evQ a).2
  | .cons _ _ => fun _ => none
def evPA : EL → En → Option (Bool × Prop)
  | .nil => fun _ => none
  | .cons a .nil => (evQ a).2
  | .cons a l => fun env => ((evQ a).2 env).bind fun p => (evPA l env).map fun r => (p.1 && r.1, p.2 ∧ (p.1 = true → r.2))
def evPOr : EL → En → Option (Bool × Prop)
  | .nil => fun _ => none
  | .cons a .nil => (evQ a).2
  | .cons a l => fun env => ((evQ a).2 env).bind fun p => (evPOr l env).map fun r => (p.1 || r.1, p.2 ∧ (p.1 = false → r.2))
def evPAV : EL → En → Option (Bool × Prop)
  | .nil => fun _ => none
  | .cons a .nil => fun env => ((evQ a).1 env).bind fun p => match p.1 with
    | .d (.bl b) => some (b, p.2)
    | _ => none
  | .cons a l => fun env => ((evQ a).1 env).bind fun p => match p.1 with
    | .d (.bl b) => (evPAV l env).map fun r => (b && r.1, p.2 ∧ (b = true → r.2))
    | _ => none
def evPOV : EL → En → Option (Bool × Prop)
  | .nil => fun _ => none
  | .cons a .nil => fun env => ((evQ a).1 env).bind fun p => match p.1 with
    | .d (.bl b) => some (b, p.2)
    | _ => none
  | .cons a l => fun env => ((evQ a).1 env).bind fun p => match p.1 with
    | .d (.bl b) => (evPOV l env).map fun r => (b || r.1, p.2 ∧ (b = false → r.2))
    | _ => none
end
def evP (e : E) (env : En) : PV := (evQ T e).1 env
def evPT (e : E) (env : En) : Option (Bool × Prop) := (evQ T e).2 env
end
end PF

set_option Elab.async false
set_option linter.all false
set_option maxRecDepth 100000
set_option maxHeartbeats 4000000

namespace PF
open PySem PySem.Spec PyProof.Rows L2
def SameOut (env0 env : En) (is : List Nat) : Prop := env.length = env0.length ∧ ∀ i, i ∉ is → env[i]? = env0[i]?
theorem wipeE_in {env : En} {i : Nat} : ∀ {is : List Nat}, i ∈ is → i < env.length → (wipeE env is)[i]? = some .no
  | j :: is, h, hl => by
    unfold wipeE
    by_cases e : j = i
    · subst e; rw [List.getElem?_set_self (by rw [wipeE_length]; exact hl)]
    · rw [List.getElem?_set_ne e]
      exact wipeE_in (by rcases List.mem_cons.mp h with h | h; exact absurd h.symm e; exact h) hl
theorem wipe_same {env0 env : En} {is : List Nat} (h : SameOut env0 env is) : wipeE env is = wipeE env0 is := by
  apply List.ext_getElem?
  intro i
  by_cases m : i ∈ is
  · by_cases hl : i < env.length
    · rw [wipeE_in m hl, wipeE_in m (by rw [← h.1]; exact hl)]
    · rw [List.getElem?_eq_none (by rw [wipeE_length]; omega), List.getElem?_eq_none (by rw [wipeE_length, ← h.1]; omega)]
  · rw [wipeE_out m, wipeE_out m]; exact h.2 i m
theorem putIs_same {js : List Nat} : ∀ {is : List Nat} {ds : List D} {env env1 : En}, putIs env is ds = some env1 → (∀ i ∈ is, i ∈ js) → env1.length = env.length ∧ ∀ i, i ∉ js → env1[i]? = env[i]?
  | [], [], env, env1, h, _ => by cases h; exact ⟨rfl, fun _ _ => rfl⟩
  | i :: is, d :: ds, env, env1, h, hj => by
    obtain ⟨a, b⟩ := putIs_same (js := js) (is := is) (ds := ds) h fun j m => hj j (List.mem_cons_of_mem _ m)
    refine ⟨by rw [a, List.length_set], fun j m => ?_⟩
    rw [b j m, List.getElem?_set_ne fun e => m (by rw [← e]; exact hj i List.mem_cons_self)]
  | [], _ :: _, _, _, h, _ => by cases h
  | _ :: _, [], _, _, h, _ => by cases h
theorem put_same {tg : Tg} {d : D} {env0 env1 : En} (h : putTg tg d (wipeE env0 tg.is) = some env1) : SameOut env0 env1 tg.is := by
  have go : env1.length = (wipeE env0 tg.is).length ∧ ∀ i, i ∉ tg.is → env1[i]? = (wipeE env0 tg.is)[i]? := by
    cases tg with
    | name i =>
      cases h
      refine ⟨by rw [List.length_set], fun j m => ?_⟩
      rw [List.getElem?_set_ne fun e => m (by rw [← e]; exact List.mem_cons_self)]
    | tup is =>
      cases d with
      | tup ds => exact putIs_same h fun _ m => m
      | _ => cases h
  refine ⟨by rw [go.1, wipeE_length], fun i m => by rw [go.2 i m, wipeE_out m]⟩
theorem back_same {env0 env : En} {is : List Nat} (h : SameOut env0 env is) : backE env0 env is = env0 := by
  apply List.ext_getElem?
  intro i
  by_cases m : i ∈ is
  · by_cases hl : i < env.length
    · rw [backE_in m hl, List.getElem?_eq_getElem (by rw [← h.1]; exact hl)]; rfl
    · rw [List.getElem?_eq_none (by rw [backE_length]; omega), List.getElem?_eq_none (by rw [← h.1]; omega)]
  · rw [backE_out m]; exact h.2 i m
theorem sameOut_refl (env : En) (is : List Nat) : SameOut env env is := ⟨rfl, fun _ _ => rfl⟩

theorem lcF_ok {tg : Tg} {cnd : SemT} {elt : SemE} {cF : En → Option (Bool × Prop)} {eF : En → PV} {env0 : En} (hc : ∀ env p, cF env = some p → p.2 → ∀ Q Er, Q p.1 env → cnd env Q Er) (he : ∀ env p, eF env = some p → p.2 → ∀ Q Er, Q p.1 env → elt env Q Er) :
    ∀ {ds : List D} {p : List D × Prop} {env : En} {acc : List D} {Q : List D → En → Prop}, lcF tg.is tg cF eF env0 ds = some p → p.2 → SameOut env0 env tg.is → acc.length + p.1.length ≤ sizeLine → (∀ env', SameOut env0 env' tg.is → Q (acc ++ p.1) env') → lcL tg.is tg cnd elt ds env acc Q
  | [], p, env, acc, Q, h, _, so, _, q => by
    cases h
    have := q env so
    rwa [List.append_nil] at this
  | d :: ds, p, env, acc, Q, h, hp, so, hl, q => by
    simp only [lcF, Option.bind_eq_some_iff] at h
    obtain ⟨env1, h1, b, h2, h3⟩ := h
    have so1 := put_same h1
    refine ⟨env1, by rw [wipe_same so]; exact h1, ?_⟩
    obtain ⟨bb, bc⟩ := b
    cases bb with
    | true =>
      simp only [Option.bind_eq_some_iff, Option.map_eq_some_iff] at h3
      obtain ⟨e, h4, x, h5, r, h6, h7⟩ := h3
      subst h7
      refine hc env1 _ h2 hp.1 _ _ ?_
      simp only [if_true]
      refine he env1 _ h4 hp.2.1 _ _ (setD_ok h5 ?_)
      simp only [List.length_cons] at hl
      refine ⟨by omega, lcF_ok hc he h6 hp.2.2 so1 (by simp; omega) fun env' s' => ?_⟩
      have := q env' s'
      simpa using this
    | false =>
      simp only [Option.map_eq_some_iff] at h3
      obtain ⟨r, h6, h7⟩ := h3
      subst h7
      refine hc env1 _ h2 hp.1 _ _ ?_
      simp only [Bool.false_eq_true, if_false]
      exact lcF_ok hc he h6 hp.2 so1 hl q

section
variable {G : Tb} {T : Ft}
structure Ps (G : Tb) (T : Ft) (e : E) : Prop where
  v : ∀ env p, evP T e env = some p → p.2 → ∀ Q Er, Q p.1 env → (ev G e).1 env Q Er
  t : ∀ env p, evPT T e env = some p → p.2 → ∀ Q Er, Q p.1 env → (ev G e).2 env Q Er
structure PsL (G : Tb) (T : Ft) (l : EL) : Prop where
  L : ∀ env p, evPL T l env = some p → p.2 → ∀ Q Er, Q p.1 env → evL G l env Q Er
  M : ∀ env p, evPM T l env = some p → p.2 → ∀ Q Er, Q p.1 env → evM G l env Q Er
  A : ∀ env p, evPM T l env = some p → p.2 → ∀ Q Er, Q (p.1.map .inl) env → evA G l (List.replicate p.1.length false) env Q Er
  C : ∀ env p, evPC T l env = some p → p.2 → ∀ Q Er, Q p.1 env → evC G l env Q Er
  av : ∀ env p, evPA T l env = some p → p.2 → ∀ Q Er, Q p.1 env → evAndT G l env Q Er
  ov : ∀ env p, evPOr T l env = some p → p.2 → ∀ Q Er, Q p.1 env → evOrT G l env Q Er
  aV : ∀ env p, evPAV T l env = some p → p.2 → ∀ Q Er, Q (.d (.bl p.1)) env → evAndV G l env Q Er
  oV : ∀ env p, evPOV T l env = some p → p.2 → ∀ Q Er, Q (.d (.bl p.1)) env → evOrV G l env Q Er
structure PsO (G : Tb) (T : Ft) (l : EO) : Prop where
  o : ∀ env p, evPO T l env = some p → p.2 → ∀ Q Er, Q p.1 env → evO G l env Q Er
structure PsI (G : Tb) (T : Ft) (l : It) : Prop where
  i : ∀ env p, evPI T l env = some p → p.2 → ∀ Q Er, Q p.1 env → evI G l env Q Er
theorem ps_none {e : E} (h1 : ∀ env, evP T e env = none) (h2 : ∀ env, evPT T e env = none) : Ps G T e := ⟨fun env p h => (by rw [h1] at h; cases h), fun env p h => (by rw [h2] at h; cases h)⟩
theorem ps_plain {e : E} (hv : ∀ env p, evP T e env = some p → p.2 → ∀ Q Er, Q p.1 env → (ev G e).1 env Q Er) (he : (ev G e).2 = truS (ev G e).1) (hT : (evQ T e).2 = truP (evQ T e).1) : Ps G T e := ⟨hv, fun env p h hp Q Er q => by
  have h' : truP (evQ T e).1 env = some p := by rw [← hT]; exact h
  unfold truP at h'
  simp only [Option.bind_eq_some_iff, Option.map_eq_some_iff] at h'
  obtain ⟨u, h1, x, h2, r, h3, h4⟩ := h'
  subst h4
  rw [he]
  exact hv _ _ h1 hp.1 _ _ (peekD_ok h2 (truF_ok h3 hp.2 q))⟩
theorem psx_cst (c : Cst) : Ps G T (.cst c) := ps_plain (fun env p h _ Q Er q => by simp only [evP, evQ] at h; cases h; exact q) rfl rfl
theorem psx_var (i : Nat) : Ps G T (.var i) := ps_plain (fun env p h _ Q Er q => by
  simp only [evP, evQ] at h
  simp only [ev]
  split at h <;> rename_i e <;> first | (cases h; first | (rw [e]; exact q) | exact q) | cases h) rfl rfl
theorem psx_glob (F : FtOk G T) (x : Str) : Ps G T (.glob x) := ps_plain (fun env p h _ Q Er q => by
  simp only [evP, evQ, Option.map_eq_some_iff] at h
  obtain ⟨d, h1, h2⟩ := h
  subst h2
  exact ⟨d, F.cst x d h1, q⟩) rfl rfl
theorem psx_bin (op : Bop) {a b : E} (ha : Ps G T a) (hb : Ps G T b) : Ps G T (.bin op a b) := ps_plain (fun env p h hp Q Er q => by
  simp only [evP, evQ, Option.bind_eq_some_iff, Option.map_eq_some_iff] at h
  obtain ⟨u, h1, v, h2, x, h3, y, h4, r, h5, h6⟩ := h
  subst h6
  exact ha.v _ _ h1 hp.1 _ _ (hb.v _ _ h2 hp.2.1 _ _ (peekD_ok h3 (peekD_ok h4 (binF_ok h5 hp.2.2 q))))) rfl rfl
theorem psx_neg {a : E} (ha : Ps G T a) : Ps G T (.neg a) := ps_plain (fun env p h hp Q Er q => by
  simp only [evP, evQ, Option.bind_eq_some_iff] at h
  obtain ⟨u, h1, h2⟩ := h
  split at h2 <;> rename_i e
  · cases h2
    exact ha.v _ _ h1 hp _ _ ⟨_, e, q⟩
  · cases h2) rfl rfl
theorem psx_cmp (op : Cop) {a b : E} (ha : Ps G T a) (hb : Ps G T b) : Ps G T (.cmp op a b) := ps_plain (fun env p h hp Q Er q => by
  simp only [evP, evQ, Option.bind_eq_some_iff, Option.map_eq_some_iff] at h
  obtain ⟨u, h1, v, h2, x, h3, y, h4, r, h5, h6⟩ := h
  subst h6
  exact ha.v _ _ h1 hp.1 _ _ (hb.v _ _ h2 hp.2.1 _ _ (peekD_ok h3 (peekD_ok h4 (cmpF_ok h5 hp.2.2 q))))) rfl rfl
theorem psx_chain (o1 o2 : Cop) {a b c : E} (ha : Ps G T a) (hb : Ps G T b) (hc : Ps G T c) : Ps G T (.chain o1 o2 a b c) := ps_plain (fun env p h hp Q Er q => by
  simp only [evP, evQ, Option.bind_eq_some_iff, Option.map_eq_some_iff] at h
  obtain ⟨u, h1, v, h2, w, h3, x, h4, y, h5, z, h6, r, h7, r', h8, h9⟩ := h
  subst h9
  refine ha.v _ _ h1 hp.1 _ _ (hb.v _ _ h2 hp.2.1 _ _ (peekD_ok h4 (peekD_ok h5 (cmpF_ok h7 hp.2.2.1 ?_))))
  have hq := hp.2.2.2
  dsimp only at q
  cases hr : r.1 with
  | true =>
    simp only [if_true]
    rw [hr, Bool.true_and] at q
    exact hc.v _ _ h3 (hq hr).1 _ _ (peekD_ok h5 (peekD_ok h6 (cmpF_ok h8 (hq hr).2 q)))
  | false =>
    simp only [Bool.false_eq_true, if_false]
    rw [hr, Bool.false_and] at q
    exact q) rfl rfl
theorem psx_ife {c a b : E} (hc : Ps G T c) (ha : Ps G T a) (hb : Ps G T b) : Ps G T (.ife c a b) where
  v := fun env p h hp Q Er q => by
    simp only [evP, evQ, Option.bind_eq_some_iff] at h
    obtain ⟨⟨k, kc⟩, h1, h2⟩ := h
    cases k with
    | true =>
      simp only [Option.map_eq_some_iff] at h2
      obtain ⟨u, h3, h4⟩ := h2
      subst h4
      refine hc.t _ _ h1 hp.1 _ _ ?_
      simp only [if_true]
      exact ha.v _ _ h3 hp.2 _ _ q
    | false =>
      simp only [Option.map_eq_some_iff] at h2
      obtain ⟨u, h3, h4⟩ := h2
      subst h4
      refine hc.t _ _ h1 hp.1 _ _ ?_
      simp only [Bool.false_eq_true, if_false]
      exact hb.v _ _ h3 hp.2 _ _ q
  t := fun env p h => by simp only [evPT, evQ] at h; cases h
theorem psx_bnot {a : E} (ha : Ps G T a) : Ps G T (.bnot a) where
  v := fun env p h hp Q Er q => by
    simp only [evP, evQ, Option.bind_eq_some_iff] at h
    obtain ⟨u, h1, h2⟩ := h
    split at h2 <;> rename_i e
    · cases h2
      exact ha.v _ _ h1 hp _ _ ⟨_, e, q⟩
    · cases h2
  t := fun env p h hp Q Er q => by
    simp only [evPT, evQ, Option.map_eq_some_iff] at h
    obtain ⟨u, h1, h2⟩ := h
    subst h2
    exact ha.t _ _ h1 hp _ _ q
theorem psx_band {l : EL} (hl : PsL G T l) : Ps G T (.band l) where
  v := fun env p h hp Q Er q => by
    simp only [evP, evQ, Option.map_eq_some_iff] at h
    obtain ⟨u, h1, h2⟩ := h
    subst h2
    exact hl.aV _ _ h1 hp _ _ q
  t := fun env p h hp Q Er q => by
    simp only [evPT, evQ] at h
    exact hl.av _ _ h hp _ _ q
theorem psx_bor {l : EL} (hl : PsL G T l) : Ps G T (.bor l) where
  v := fun env p h hp Q Er q => by
    simp only [evP, evQ, Option.map_eq_some_iff] at h
    obtain ⟨u, h1, h2⟩ := h
    subst h2
    exact hl.oV _ _ h1 hp _ _ q
  t := fun env p h hp Q Er q => by
    simp only [evPT, evQ] at h
    exact hl.ov _ _ h hp _ _ q
theorem psx_mk (F : FtOk G T) (C : Str) {l : EL} (hl : PsL G T l) : Ps G T (.mk C l) := ps_plain (fun env p h hp Q Er q => by
  simp only [evP, evQ, Option.bind_eq_some_iff, Option.map_eq_some_iff] at h
  obtain ⟨r, h1, ds, h2, u, h3, h4⟩ := h
  subst h4
  obtain ⟨fn, g1, g2, g3⟩ := F.mks C r _ _ h1 h3 hp.2
  exact ⟨_, fn, g1, hl.M _ _ h2 hp.1 _ _ ⟨rfl, g2, g3 _ _ q⟩⟩) rfl rfl
theorem psx_lst2 {l : EL} (hl : PsL G T l) : Ps G T (.lst2 l) where
  v := fun env p h hp Q Er q => by
    simp only [evP, evQ, Option.bind_eq_some_iff, Option.map_eq_some_iff] at h
    obtain ⟨es, h1, dss, h2, h3⟩ := h
    subst h3
    exact hl.L _ _ h1 hp.1 _ _ ⟨hp.2, dss, h2, q⟩
  t := fun env p h => by simp only [evPT, evQ] at h; cases h
theorem psx_lrng {it : It} (hi : PsI G T it) : Ps G T (.lrng it) := ps_plain (fun env p h hp Q Er q => by
  simp only [evP, evQ, Option.map_eq_some_iff] at h
  obtain ⟨ds, h1, h2⟩ := h
  subst h2
  exact hi.i _ _ h1 hp.1 _ _ ⟨hp.2, q⟩) rfl rfl
theorem psx_call (F : FtOk G T) (f : Str) {l : EL} (hl : PsL G T l) : Ps G T (.call f l) := ps_plain (fun env p h hp Q Er q => by
  simp only [evP, evQ, Option.bind_eq_some_iff, Option.map_eq_some_iff] at h
  obtain ⟨r, h1, ds, h2, u, h3, h4⟩ := h
  subst h4
  obtain ⟨fn, g1, g2⟩ := F.fn f r _ _ h1 h3 hp.2
  refine ⟨_, fn, g1, hl.A _ _ h2 hp.1 _ _ ⟨by simp, _, sls_vals env _ 0, by rw [refs_vals]; exact .nil, g2 _ _ ?_⟩⟩
  rw [refs_vals]
  exact ⟨env, rfl, q⟩) rfl rfl
theorem psx_meth (F : FtOk G T) (m : Str) {o : E} {l : EL} (ho : Ps G T o) (hl : PsL G T l) : Ps G T (.meth m o l) := ps_plain (fun env p h hp Q Er q => by
  simp only [evP, evQ, Option.bind_eq_some_iff, Option.map_eq_some_iff] at h
  obtain ⟨r, h1, e, h2, d0, h3, ds, h4, u, h5, h6⟩ := h
  subst h6
  obtain ⟨C, fs, tl, fn, g1, g2, g3, g4⟩ := F.mth m r _ _ h1 h5 hp.2.2
  cases g1
  refine ⟨C, _, fn, g3, ho.v _ _ h2 hp.1 _ _ (setD_ok h3 ⟨⟨fs, rfl, g2⟩, hl.M _ _ h4 hp.2.1 _ _ ⟨by simp, g4 _ _ q⟩⟩)⟩) rfl rfl
theorem peeksD_ok {env : En} {Q : List D → Prop} : ∀ {es : List Ev} {ds : List D}, es.mapM (peekD env) = some ds → Q ds → peeks env es Q := by
  intro es
  induction es generalizing Q with
  | nil => intro ds h q; cases h; exact q
  | cons e es ih =>
    intro ds h q
    rw [List.mapM_cons] at h
    simp only [Option.bind_eq_bind, Option.bind_eq_some_iff, Option.pure_def, Option.some.injEq] at h
    obtain ⟨d, h1, r, h2, h3⟩ := h
    subst h3
    exact peekD_ok h1 (ih h2 q)
theorem psx_bi (f : Bi) {l : EL} (hl : PsL G T l) : Ps G T (.bi f l) := ps_plain (fun env p h hp Q Er q => by
  simp only [evP, evQ, Option.bind_eq_some_iff, Option.map_eq_some_iff] at h
  obtain ⟨es, h1, ds, h2, r, h3, h4⟩ := h
  subst h4
  exact ⟨fun e => by subst e; simp [biF] at h3, hl.L _ _ h1 hp.1 _ _ (peeksD_ok h2 (biF_ok h3 hp.2 q))⟩) rfl rfl
theorem psx_isi {a : E} (ty : Str) (ha : Ps G T a) : Ps G T (.isi a ty) := ps_plain (fun env p h hp Q Er q => by
  simp only [evP, evQ, Option.bind_eq_some_iff, Option.map_eq_some_iff] at h
  obtain ⟨u, h1, x, h2, b, h3, h4⟩ := h
  subst h4
  exact ha.v _ _ h1 hp _ _ (peekD_ok h2 (.inl ⟨b, h3, q⟩))) rfl rfl
theorem psx_attr (F : FtOk G T) {o : E} (f : Str) (ho : Ps G T o) : Ps G T (.attr o f) := ps_plain (fun env p h hp Q Er q => by
  simp only [evP, evQ, Option.bind_eq_some_iff] at h
  obtain ⟨u, h1, x, h2, h3⟩ := h
  split at h3
  · split at h3
    · rename_i hf
      simp only [Option.map_eq_some_iff] at h3
      obtain ⟨d, h4, h5⟩ := h3
      subst h5
      exact ho.v _ _ h1 hp _ _ (peekD_ok h2 ⟨_, _, d, rfl, F.fld _ _ hf, h4, q⟩)
    · cases h3
  · cases h3) rfl rfl
theorem psx_ix {a b : E} (ha : Ps G T a) (hb : Ps G T b) : Ps G T (.ix a b) := ps_plain (fun env p h hp Q Er q => by
  simp only [evP, evQ, Option.bind_eq_some_iff, Option.map_eq_some_iff] at h
  obtain ⟨u, h1, v, h2, x, h3, y, h4, r, h5, h6⟩ := h
  subst h6
  exact ha.v _ _ h1 hp.1 _ _ (hb.v _ _ h2 hp.2 _ _ (peekD_ok h3 (peekD_ok h4 (ixF_ok h5 q))))) rfl rfl
theorem psx_sl {a : E} {lo hi : EO} (ha : Ps G T a) (hlo : PsO G T lo) (hhi : PsO G T hi) : Ps G T (.sl a lo hi) := ps_plain (fun env p h hp Q Er q => by
  simp only [evP, evQ, Option.bind_eq_some_iff, Option.map_eq_some_iff] at h
  obtain ⟨u, h1, v, h2, w, h3, x, h4, r, h5, h6⟩ := h
  subst h6
  exact ha.v _ _ h1 hp.1 _ _ (hlo.o _ _ h2 hp.2.1 _ _ (hhi.o _ _ h3 hp.2.2 _ _ (peekD_ok h4 (slF_ok h5 q))))) rfl rfl
theorem psx_tup {l : EL} (hl : PsL G T l) : Ps G T (.tup l) := ps_plain (fun env p h hp Q Er q => by
  simp only [evP, evQ, Option.map_eq_some_iff] at h
  obtain ⟨u, h1, h2⟩ := h
  subst h2
  exact hl.M _ _ h1 hp.1 _ _ ⟨hp.2, q⟩) rfl rfl
theorem psx_lst {l : EL} (hl : PsL G T l) : Ps G T (.lst l) := ps_plain (fun env p h hp Q Er q => by
  simp only [evP, evQ, Option.map_eq_some_iff] at h
  obtain ⟨u, h1, h2⟩ := h
  subst h2
  exact hl.M _ _ h1 hp.1 _ _ ⟨hp.2, q⟩) rfl rfl
theorem psx_lc (tg : Tg) {it : It} {cnd : EL} {elt : E} (hi : PsI G T it) (hc : PsL G T cnd) (he : Ps G T elt) : Ps G T (.lc tg it cnd elt) := ps_plain (fun env p h hp Q Er q => by
  simp only [evP, evQ, Option.bind_eq_some_iff] at h
  obtain ⟨ds, h1, h2⟩ := h
  split at h2
  · rename_i hn
    simp only [Option.map_eq_some_iff] at h2
    obtain ⟨r, h3, h4⟩ := h2
    subst h4
    refine hi.i _ _ h1 hp.1 _ _ ⟨noOwnB_ok hn, lcF_ok hc.C he.v h3 hp.2.1 (sameOut_refl _ _) (by simpa using hp.2.2) fun env' s => ?_⟩
    rw [back_same s, List.nil_append]
    exact q
  · cases h2) rfl rfl
theorem psL_nil : PsL G T .nil where
  L := fun env p h _ Q Er q => by simp only [evPL] at h; cases h; exact q
  M := fun env p h _ Q Er q => by simp only [evPM] at h; cases h; exact q
  A := fun env p h _ Q Er q => by simp only [evPM] at h; cases h; exact ⟨rfl, q⟩
  C := fun env p h _ Q Er q => by simp only [evPC] at h; cases h; exact q
  av := fun env p h => by simp only [evPA] at h; cases h
  ov := fun env p h => by simp only [evPOr] at h; cases h
  aV := fun env p h => by simp only [evPAV] at h; cases h
  oV := fun env p h => by simp only [evPOV] at h; cases h
theorem psL_cons {e : E} {l : EL} (he : Ps G T e) (hl : PsL G T l) : PsL G T (.cons e l) where
  L := fun env p h hp Q Er q => by
    simp only [evPL, Option.bind_eq_some_iff, Option.map_eq_some_iff] at h
    obtain ⟨u, h1, r, h2, h3⟩ := h
    subst h3
    exact he.v _ _ h1 hp.1 _ _ (hl.L _ _ h2 hp.2 _ _ q)
  M := fun env p h hp Q Er q => by
    simp only [evPM, Option.bind_eq_some_iff, Option.map_eq_some_iff] at h
    obtain ⟨u, h1, d, h0, r, h2, h3⟩ := h
    subst h3
    exact he.v _ _ h1 hp.1 _ _ (setD_ok h0 (hl.M _ _ h2 hp.2 _ _ q))
  A := fun env p h hp Q Er q => by
    simp only [evPM, Option.bind_eq_some_iff, Option.map_eq_some_iff] at h
    obtain ⟨u, h1, d, h0, r, h2, h3⟩ := h
    subst h3
    exact he.v _ _ h1 hp.1 _ _ (setD_ok h0 (hl.A _ _ h2 hp.2 _ _ q))
  C := fun env p h hp Q Er q => by
    cases l with
    | nil => simp only [evPC] at h; exact he.t _ _ h hp _ _ q
    | cons _ _ => simp only [evPC] at h; cases h
  av := fun env p h hp Q Er q => by
    cases l with
    | nil => simp only [evPA] at h; exact he.t _ _ h hp _ _ q
    | cons e' l' =>
      simp only [evPA, Option.bind_eq_some_iff, Option.map_eq_some_iff] at h
      obtain ⟨u, h1, r, h2, h3⟩ := h
      subst h3
      refine he.t _ _ h1 hp.1 _ _ ?_
      obtain ⟨b, c⟩ := u
      cases b with
      | true => simp only [if_true]; exact hl.av _ _ h2 (hp.2 rfl) _ _ q
      | false => simp only [Bool.false_eq_true, if_false]; exact q
  ov := fun env p h hp Q Er q => by
    cases l with
    | nil => simp only [evPOr] at h; exact he.t _ _ h hp _ _ q
    | cons e' l' =>
      simp only [evPOr, Option.bind_eq_some_iff, Option.map_eq_some_iff] at h
      obtain ⟨u, h1, r, h2, h3⟩ := h
      subst h3
      refine he.t _ _ h1 hp.1 _ _ ?_
      obtain ⟨b, c⟩ := u
      cases b with
      | true => simp only [if_true]; exact q
      | false => simp only [Bool.false_eq_true, if_false]; exact hl.ov _ _ h2 (hp.2 rfl) _ _ q
  aV := fun env p h hp Q Er q => by
    cases l with
    | nil =>
      simp only [evPAV, Option.bind_eq_some_iff] at h
      obtain ⟨u, h1, h2⟩ := h
      split at h2 <;> rename_i e
      · cases h2
        refine he.v _ _ h1 hp _ _ ?_
        rw [e]; exact q
      · cases h2
    | cons e' l' =>
      simp only [evPAV, Option.bind_eq_some_iff] at h
      obtain ⟨u, h1, h2⟩ := h
      split at h2 <;> rename_i b e
      · simp only [Option.map_eq_some_iff] at h2
        obtain ⟨r, h3, h4⟩ := h2
        subst h4
        refine he.v _ _ h1 hp.1 _ _ ⟨_, e, ?_⟩
        cases b with
        | true => simp only [if_true]; exact hl.aV _ _ h3 (hp.2 rfl) _ _ q
        | false => simp only [Bool.false_eq_true, if_false]; exact q
      · cases h2
  oV := fun env p h hp Q Er q => by
    cases l with
    | nil =>
      simp only [evPOV, Option.bind_eq_some_iff] at h
      obtain ⟨u, h1, h2⟩ := h
      split at h2 <;> rename_i e
      · cases h2
        refine he.v _ _ h1 hp _ _ ?_
        rw [e]; exact q
      · cases h2
    | cons e' l' =>
      simp only [evPOV, Option.bind_eq_some_iff] at h
      obtain ⟨u, h1, h2⟩ := h
      split at h2 <;> rename_i b e
      · simp only [Option.map_eq_some_iff] at h2
        obtain ⟨r, h3, h4⟩ := h2
        subst h4
        refine he.v _ _ h1 hp.1 _ _ ⟨_, e, ?_⟩
        cases b with
        | true => simp only [if_true]; exact q
        | false => simp only [Bool.false_eq_true, if_false]; exact hl.oV _ _ h3 (hp.2 rfl) _ _ q
      · cases h2
theorem psO_none : PsO G T .none := ⟨fun env p h _ Q Er q => by simp only [evPO] at h; cases h; exact q⟩
theorem psO_some {e : E} (he : Ps G T e) : PsO G T (.some e) := ⟨fun env p h hp Q Er q => by
  simp only [evPO, Option.bind_eq_some_iff] at h
  obtain ⟨u, h1, h2⟩ := h
  split at h2
  · rename_i i e; cases h2; exact he.v _ _ h1 hp _ _ ⟨i, e, q⟩
  · cases h2⟩
theorem psI_of {e : E} (he : Ps G T e) : PsI G T (.of e) := ⟨fun env p h hp Q Er q => by
  simp only [evPI, Option.bind_eq_some_iff] at h
  obtain ⟨u, h1, d, h2, h3⟩ := h
  split at h3 <;> first | (cases h3; exact he.v _ _ h1 hp _ _ (setD_ok h2 q)) | cases h3⟩
theorem psI_rng1 {e : E} (he : Ps G T e) : PsI G T (.rng1 e) := ⟨fun env p h hp Q Er q => by
  simp only [evPI, Option.bind_eq_some_iff] at h
  obtain ⟨u, h1, h2⟩ := h
  split at h2
  · rename_i j e; cases h2; exact he.v _ _ h1 hp.1 _ _ ⟨j, e, hp.2.1, hp.2.2, q⟩
  · cases h2⟩
theorem psI_rng2 {a b : E} (ha : Ps G T a) (hb : Ps G T b) : PsI G T (.rng2 a b) := ⟨fun env p h hp Q Er q => by
  simp only [evPI, Option.bind_eq_some_iff] at h
  obtain ⟨u, h1, v, h2, h3⟩ := h
  split at h3
  · rename_i i j e1 e2; cases h3; exact ha.v _ _ h1 hp.1 _ _ (hb.v _ _ h2 hp.2.1 _ _ ⟨i, j, e1, e2, hp.2.2, q⟩)
  · cases h3⟩
theorem psI_enum {e : E} (he : Ps G T e) : PsI G T (.enum e) := ⟨fun env p h hp Q Er q => by
  simp only [evPI, Option.bind_eq_some_iff] at h
  obtain ⟨u, h1, d, h2, h3⟩ := h
  split at h3
  · cases h3; exact he.v _ _ h1 hp _ _ (setD_ok h2 ⟨_, rfl, q⟩)
  · cases h3⟩
theorem psI_zip {a b : E} (ha : Ps G T a) (hb : Ps G T b) : PsI G T (.zip a b) := ⟨fun env p h hp Q Er q => by
  simp only [evPI, Option.bind_eq_some_iff] at h
  obtain ⟨u, h1, d, h2, v, h3, d', h4, h5⟩ := h
  split at h5
  · cases h5; exact ha.v _ _ h1 hp.1 _ _ (setD_ok h2 (hb.v _ _ h3 hp.2 _ _ (setD_ok h4 ⟨_, _, rfl, rfl, q⟩)))
  · cases h5⟩
theorem psI_no {it : It} (h : ∀ env, evPI T it env = none) : PsI G T it := ⟨fun env p e => by rw [h] at e; cases e⟩
theorem ps (F : FtOk G T) (e : E) : Ps G T e := E.rec (motive_1 := Ps G T) (motive_2 := PsL G T) (motive_3 := PsO G T) (motive_4 := PsI G T)
  (fun c => psx_cst c) (fun i => psx_var i) (fun y => psx_glob F y) (fun op a b ha hb => psx_bin op ha hb) (fun a ha => psx_neg ha) (fun op a b ha hb => psx_cmp op ha hb)
  (fun o1 o2 a b c ha hb hc => psx_chain o1 o2 ha hb hc) (fun l hl => psx_band hl) (fun l hl => psx_bor hl) (fun a ha => psx_bnot ha) (fun c a b hc ha hb => psx_ife hc ha hb)
  (fun f l hl => psx_call F f hl) (fun C l hl => psx_mk F C hl) (fun m o l ho hl => psx_meth F m ho hl) (fun f l hl => psx_bi f hl) (fun a ty ha => psx_isi ty ha) (fun o f ho => psx_attr F f ho)
  (fun a b ha hb => psx_ix ha hb) (fun a lo hi ha hlo hhi => psx_sl ha hlo hhi) (fun l hl => psx_tup hl) (fun l hl => psx_lst hl) (fun l hl => psx_lst2 hl)
  (fun tg it cnd elt hit hcnd helt => psx_lc tg hit hcnd helt) (fun it hi => psx_lrng hi) (fun f l hl => ps_none (fun _ => rfl) (fun _ => rfl)) (fun a i ha => ps_none (fun _ => rfl) (fun _ => rfl)) (fun i a ha => ps_none (fun _ => rfl) (fun _ => rfl))
  psL_nil (fun e l he hl => psL_cons he hl) psO_none (fun e he => psO_some he) (fun e he => psI_of he) (fun e he => psI_rng1 he) (fun a b ha hb => psI_rng2 ha hb) (fun e he => psI_enum he) (fun a b ha hb => psI_zip ha hb) e
theorem psI (F : FtOk G T) (e : It) : PsI G T e := It.rec (motive_1 := Ps G T) (motive_2 := PsL G T) (motive_3 := PsO G T) (motive_4 := PsI G T)
  (fun c => psx_cst c) (fun i => psx_var i) (fun y => psx_glob F y) (fun op a b ha hb => psx_bin op ha hb) (fun a ha => psx_neg ha) (fun op a b ha hb => psx_cmp op ha hb)
  (fun o1 o2 a b c ha hb hc => psx_chain o1 o2 ha hb hc) (fun l hl => psx_band hl) (fun l hl => psx_bor hl) (fun a ha => psx_bnot ha) (fun c a b hc ha hb => psx_ife hc ha hb)
  (fun f l hl => psx_call F f hl) (fun C l hl => psx_mk F C hl) (fun m o l ho hl => psx_meth F m ho hl) (fun f l hl => psx_bi f hl) (fun a ty ha => psx_isi ty ha) (fun o f ho => psx_attr F f ho)
  (fun a b ha hb => psx_ix ha hb) (fun a lo hi ha hlo hhi => psx_sl ha hlo hhi) (fun l hl => psx_tup hl) (fun l hl => psx_lst hl) (fun l hl => psx_lst2 hl)
  (fun tg it cnd elt hit hcnd helt => psx_lc tg hit hcnd helt) (fun it hi => psx_lrng hi) (fun f l hl => ps_none (fun _ => rfl) (fun _ => rfl)) (fun a i ha => ps_none (fun _ => rfl) (fun _ => rfl)) (fun i a ha => ps_none (fun _ => rfl) (fun _ => rfl))
  psL_nil (fun e l he hl => psL_cons he hl) psO_none (fun e he => psO_some he) (fun e he => psI_of he) (fun e he => psI_rng1 he) (fun a b ha hb => psI_rng2 ha hb) (fun e he => psI_enum he) (fun a b ha hb => psI_zip ha hb) e
theorem psLs (F : FtOk G T) (e : EL) : PsL G T e := EL.rec (motive_1 := Ps G T) (motive_2 := PsL G T) (motive_3 := PsO G T) (motive_4 := PsI G T)
  (fun c => psx_cst c) (fun i => psx_var i) (fun y => psx_glob F y) (fun op a b ha hb => psx_bin op ha hb) (fun a ha => psx_neg ha) (fun op a b ha hb => psx_cmp op ha hb)
  (fun o1 o2 a b c ha hb hc => psx_chain o1 o2 ha hb hc) (fun l hl => psx_band hl) (fun l hl => psx_bor hl) (fun a ha => psx_bnot ha) (fun c a b hc ha hb => psx_ife hc ha hb)
  (fun f l hl => psx_call F f hl) (fun C l hl => psx_mk F C hl) (fun m o l ho hl => psx_meth F m ho hl) (fun f l hl => psx_bi f hl) (fun a ty ha => psx_isi ty ha) (fun o f ho => psx_attr F f ho)
  (fun a b ha hb => psx_ix ha hb) (fun a lo hi ha hlo hhi => psx_sl ha hlo hhi) (fun l hl => psx_tup hl) (fun l hl => psx_lst hl) (fun l hl => psx_lst2 hl)
  (fun tg it cnd elt hit hcnd helt => psx_lc tg hit hcnd helt) (fun it hi => psx_lrng hi) (fun f l hl => ps_none (fun _ => rfl) (fun _ => rfl)) (fun a i ha => ps_none (fun _ => rfl) (fun _ => rfl)) (fun i a ha => ps_none (fun _ => rfl) (fun _ => rfl))
  psL_nil (fun e l he hl => psL_cons he hl) psO_none (fun e he => psO_some he) (fun e he => psI_of he) (fun e he => psI_rng1 he) (fun a b ha hb => psI_rng2 ha hb) (fun e he => psI_enum he) (fun a b ha hb => psI_zip ha hb) e
end
end PF

set_option Elab.async false
set_option linter.all false
set_option maxRecDepth 100000
set_option maxHeartbeats 4000000

namespace PF
open PySem PySem.Spec PyProof.Rows L2
section
variable {G : Tb} {T : Ft} {env : En} {P : Po}
/-! ## statements, by the symbolic evaluator -/
theorem x_ret (F : FtOk G T) {e : E} {p : Ev × Prop} {d : D} (h : evP T e env = some p) (hc : p.2) (hd : setD p.1 = some d) (q : P.rt d env) : evS G (.ret e) env P :=
  (ps F e).v env p h hc _ _ (setD_ok hd q)
theorem x_asg (F : FtOk G T) {i : Nat} {e : E} {p : Ev × Prop} (h : evP T e env = some p) (hc : p.2) (q : storeE i p.1 env P.nx) : evS G (.asg i e) env P :=
  (ps F e).v env p h hc _ _ q
theorem x_app (F : FtOk G T) {i k : Nat} {ds : List D} {e : E} {p : Ev × Prop} {d : D} (h0 : env[i]? = some (.own k ds)) (h : evP T e env = some p) (hc : p.2) (hd : setD p.1 = some d) (hl : ds.length < sizeLine) (q : P.nx (env.set i (.own k (ds ++ [d])))) : evS G (.app i e) env P :=
  ⟨⟨k, ds, h0⟩, (ps F e).v env p h hc _ _ (setD_ok hd ⟨k, ds, h0, hl, q⟩)⟩
theorem x_ite (F : FtOk G T) {e : E} {a b : SL} {p : Bool × Prop} (h : evPT T e env = some p) (hc : p.2) (q1 : p.1 = true → evSs G a env P) (q2 : p.1 = false → evSs G b env P) : evS G (.ite e a b) env P := by
  refine (ps F e).t env p h hc _ _ ?_
  cases hb : p.1 with
  | true => simp only [if_true]; exact q1 hb
  | false => simp only [Bool.false_eq_true, if_false]; exact q2 hb
theorem x_rai {C : Str} (h : G.exc C = true) (q : P.er C env) : evS G (.rai C) env P := ⟨h, q⟩
theorem x_asgT (F : FtOk G T) {is : List Nat} {e : E} {p : Ev × Prop} {ds : List D} {env3 : En} (h : evP T e env = some p) (hc : p.2) (hd : setD p.1 = some (.tup ds)) (hp : putIs env is ds = some env3) (q : P.nx env3) : evS G (.asgT is e) env P :=
  (ps F e).v env p h hc _ _ (setD_ok hd ⟨ds, env3, rfl, hp, q⟩)
theorem x_ret' {e : E} (h : (ev G e).1 env (fun v env1 => PF.settle env1 v P.rt) P.er) : evS G (.ret e) env P := h
theorem x_done (q : P.nx env) : evSs G .nil env P := q
theorem x_seq {s : S} {l : SL} (h : evS G s env { P with nx := fun env1 => evSs G l env1 P }) : evSs G (.cons s l) env P := ⟨[], h⟩
theorem x_one {s : S} (h : evS G s env P) : evSs G (.cons s .nil) env P := ⟨[], h⟩
/-- some lists are written no more -/
theorem x_fz (is : List Nat) {s : S} {l : SL} (h : evS G s (frzs env is) { P with nx := fun env1 => evSs G l env1 P }) : evSs G (.cons s l) env P := ⟨is, h⟩
theorem x_for (F : FtOk G T) {tg : Tg} {it : It} {b : SL} {p : List D × Prop} (h : evPI T it env = some p) (hc : p.2) (q : forL tg (evSs G b) p.1 env P) : evS G (.forS tg it b) env P := by
  exact (psI F it).i env p h hc _ _ q
end

/-! ## functional contracts -/
def Fn.fu (n : Nat) (r : List D → Option (D × Prop)) : Fn where
  run := fun args Q _ => ∃ ds p, args = ds.map Sl.fz ∧ ds.length = n ∧ r ds = some p ∧ p.2 ∧ Q p.1 []
  mono := fun {args Q Q' E E'} h q _ => by
    obtain ⟨ds, p, h1, h2, h3, h4, h5⟩ := h
    exact ⟨ds, p, h1, h2, h3, h4, q _ _ h5⟩
theorem fu_run {n : Nat} {r : List D → Option (D × Prop)} {ds : List D} {p : D × Prop} {Q : D → List (List D) → Prop} {E : Str → List (List D) → Prop} (hn : ds.length = n) (h : r ds = some p) (hc : p.2) (q : Q p.1 []) : (Fn.fu n r).run (ds.map Sl.fz) Q E := ⟨ds, p, rfl, hn, h, hc, q⟩
theorem fu_ok {n : Nat} {r : List D → Option (D × Prop)} {G : Tb} {m : Nat} {bd : SL} (h : ∀ ds p, ds.length = n → r ds = some p → p.2 → ∀ P : Po, (∀ env, P.rt p.1 env) → evSs G bd (ds.map Sl.fz ++ List.replicate m .no) P) : ∀ sls Q E, (Fn.fu n r).run sls Q E → (Fn.ofBody G m bd).run sls Q E := by
  rintro sls Q E ⟨ds, p, e, hn, h1, h2, h3⟩
  subst e
  exact h ds p hn h1 h2 (bodyPo (ds.map Sl.fz) Q E) fun env => ⟨[], outs_fz _ _ _, h3⟩
/-- one entry: a name, how many arguments, what it gives -/
abbrev Fe := Str × Nat × (List D → Option (D × Prop))
def Ft.of (l : List Fe) : Ft := { fn := fun f => (l.lookup f).map fun e ds => if ds.length = e.1 then e.2 ds else none, cst := fun _ => none, mks := fun _ => none, mth := fun _ => none, fld := fun _ _ => false }
theorem ftOk_of {G : Tb} {l : List Fe} (h : ∀ e ∈ l, G.fns e.1 = some (List.replicate e.2.1 false, Fn.fu e.2.1 e.2.2)) : FtOk G (Ft.of l) where
  fn := fun f r ds p h1 h2 h3 => by
    have h1' : (l.lookup f).map (fun e ds => if ds.length = e.1 then e.2 ds else none) = some r := h1
    rw [Option.map_eq_some_iff] at h1'
    obtain ⟨e, h4, h5⟩ := h1'
    subst h5
    have h2' : (if ds.length = e.1 then e.2 ds else none) = some p := h2
    split at h2'
    · rename_i hn
      have hm : (f, e) ∈ l := mem_of_lookup_some h4
      refine ⟨Fn.fu e.1 e.2, ?_, fun Q E q => fu_run hn h2' h3 q⟩
      have := h _ hm
      rw [hn]; exact this
    · cases h2'
  cst := fun _ _ h => nomatch h
  mks := fun _ _ _ _ h => nomatch h
  mth := fun _ _ _ _ h => nomatch h
  fld := fun _ _ h => nomatch h
/-! contracts of defs that may raise -/
def Fn.fe (n : Nat) (r : List D → Option ((D ⊕ Str) × Prop)) : Fn where
  run := fun args Q E => ∃ ds o c, args = ds.map Sl.fz ∧ ds.length = n ∧ r ds = some (o, c) ∧ c ∧ (∀ d, o = .inl d → Q d []) ∧ (∀ e, o = .inr e → E e [])
  mono := fun {args Q Q' E E'} h q e => by
    obtain ⟨ds, o, c, h1, h2, h3, h4, h5, h6⟩ := h
    exact ⟨ds, o, c, h1, h2, h3, h4, fun d z => q _ _ (h5 d z), fun x z => e _ _ (h6 x z)⟩
theorem fe_ok {n : Nat} {r : List D → Option ((D ⊕ Str) × Prop)} {G : Tb} {m : Nat} {bd : SL} (h : ∀ ds o c, ds.length = n → r ds = some (o, c) → c → ∀ P : Po, (∀ d env, o = .inl d → P.rt d env) → (∀ e env, o = .inr e → P.er e env) → evSs G bd (ds.map Sl.fz ++ List.replicate m .no) P) : ∀ sls Q E, (Fn.fe n r).run sls Q E → (Fn.ofBody G m bd).run sls Q E := by
  rintro sls Q E ⟨ds, o, c, e, hn, h1, h2, h3, h4⟩
  subst e
  exact h ds o c hn h1 h2 (bodyPo (ds.map Sl.fz) Q E) (fun d env z => ⟨[], outs_fz _ _ _, h3 d z⟩) fun x env z => ⟨[], outs_fz _ _ _, h4 x z⟩
end PF

set_option Elab.async false
set_option linter.all false
set_option maxRecDepth 100000
set_option maxHeartbeats 4000000

namespace PF
open PySem PySem.Spec PyProof.Rows L2
/-! ## rows and tables read off data; the program's functions on them -/
def rdR : D → Option R3
  | .tup [.int a, .int b, .int c] => some (a, b, c)
  | _ => none
def rdM : D → Option M3
  | .tup [a, b, c] => (rdR a).bind fun x => (rdR b).bind fun y => (rdR c).map fun z => (x, y, z)
  | _ => none
theorem rdR_ok {d : D} {r : R3} (h : rdR d = some r) : d = dR r := by
  unfold rdR at h
  split at h <;> first | (cases h; rfl) | cases h
theorem rdM_ok {d : D} {m : M3} (h : rdM d = some m) : d = dM m := by
  unfold rdM at h
  split at h
  · simp only [Option.bind_eq_some_iff, Option.map_eq_some_iff] at h
    obtain ⟨x, h1, y, h2, z, h3, h4⟩ := h
    subst h4
    rw [rdR_ok h1, rdR_ok h2, rdR_ok h3]; rfl
  · cases h
theorem sm_dot {n : Nat} (hn : n ≤ 400000) {v w : R3} (hv : SmR n v) (hw : SmR n w) : (CMulW v.1 w.1 ∧ CMulW v.2.1 w.2.1 ∧ CMulW v.2.2 w.2.2) ∧ Sm (n + n + 2) (dot v w) :=
  ⟨⟨hv.1.cm hw.1 (by omega), hv.2.1.cm hw.2.1 (by omega), hv.2.2.cm hw.2.2 (by omega)⟩, by
    have := ((hv.1.mul hw.1).add (hv.2.1.mul hw.2.1)).add (hv.2.2.mul hw.2.2)
    exact this.up (by omega)⟩
theorem SmR.up {a b : Nat} {r : R3} (h : SmR a r) (hb : a ≤ b) : SmR b r := ⟨h.1.up hb, h.2.1.up hb, h.2.2.up hb⟩
theorem SmM.up {a b : Nat} {m : M3} (h : SmM a m) (hb : a ≤ b) : SmM b m := ⟨h.1.up hb, h.2.1.up hb, h.2.2.up hb⟩
theorem sm_im {n : Nat} (hn : n ≤ 400000) {m : M3} {r : R3} (hm : SmM n m) (hr : SmR n r) : SmR (n + n + 2) (im m r) := ⟨(sm_dot hn hm.1 hr).2, (sm_dot hn hm.2.1 hr).2, (sm_dot hn hm.2.2 hr).2⟩
theorem sm_tp {n : Nat} {m : M3} (h : SmM n m) : SmM n (tp m) := ⟨⟨h.1.1, h.2.1.1, h.2.2.1⟩, ⟨h.1.2.1, h.2.1.2.1, h.2.2.2.1⟩, ⟨h.1.2.2, h.2.1.2.2, h.2.2.2.2⟩⟩
theorem sm_cr {n : Nat} {v w : R3} (hv : SmR n v) (hw : SmR n w) : SmR (n + n + 1) (cr v w) :=
  ⟨((hv.2.1.mul hw.2.2).sub (hv.2.2.mul hw.2.1)).up (by omega), ((hv.2.2.mul hw.1).sub (hv.1.mul hw.2.2)).up (by omega), ((hv.1.mul hw.2.1).sub (hv.2.1.mul hw.1)).up (by omega)⟩
theorem sm_rm {n : Nat} (hn : n ≤ 400000) {l : R3} {b : M3} (ha : SmR n l) (hb : SmM n b) : SmR (n + n + 2) (rm l b) := ⟨(sm_dot hn ha hb.1).2, (sm_dot hn ha hb.2.1).2, (sm_dot hn ha hb.2.2).2⟩
theorem sm_mm {n : Nat} (hn : n ≤ 400000) {a b : M3} (ha : SmM n a) (hb : SmM n b) : SmM (n + n + 2) (mm a b) := ⟨sm_rm hn ha.1 (sm_tp hb), sm_rm hn ha.2.1 (sm_tp hb), sm_rm hn ha.2.2 (sm_tp hb)⟩
/-- contracts -/
def cImage : List D → Option (D × Prop)
  | [a, b] => (rdM a).bind fun m => (rdR b).map fun r => (dR (im m r), SmM 400000 m ∧ SmR 400000 r)
  | _ => none
def cTp : List D → Option (D × Prop)
  | [a] => (rdM a).map fun m => (dM (tp m), True)
  | _ => none
def cMm : List D → Option (D × Prop)
  | [a, b] => (rdM a).bind fun m => (rdM b).map fun r => (dM (mm m r), SmM 400000 m ∧ SmM 400000 r)
  | _ => none
def cCr : List D → Option (D × Prop)
  | [a, b] => (rdR a).bind fun m => (rdR b).map fun r => (dR (cr m r), SmR 400000 m ∧ SmR 400000 r)
  | _ => none
def cDet : List D → Option (D × Prop)
  | [a] => (rdM a).map fun m => (.int (det3 m), SmM 190000 m)
  | _ => none
def cAdj : List D → Option (D × Prop)
  | [a] => (rdM a).map fun m => (dM (adj m), SmM 400000 m)
  | _ => none
theorem c2_by {α β : Type} {f : D → Option α} {g : D → Option β} {k : α → β → D × Prop} {c : List D → Option (D × Prop)} (hc : ∀ a b, c [a, b] = (f a).bind fun x => (g b).map fun y => k x y) {ds : List D} {p : D × Prop} (hn : ds.length = 2) (h : c ds = some p) : ∃ a b x y, ds = [a, b] ∧ f a = some x ∧ g b = some y ∧ p = k x y := by
  match ds, hn with
  | [a, b], _ =>
    rw [hc] at h
    simp only [Option.bind_eq_some_iff, Option.map_eq_some_iff] at h
    obtain ⟨x, h1, y, h2, h3⟩ := h
    exact ⟨a, b, x, y, rfl, h1, h2, h3.symm⟩
theorem c1_by {α : Type} {f : D → Option α} {k : α → D × Prop} {c : List D → Option (D × Prop)} (hc : ∀ a, c [a] = (f a).map k) {ds : List D} {p : D × Prop} (hn : ds.length = 1) (h : c ds = some p) : ∃ a x, ds = [a] ∧ f a = some x ∧ p = k x := by
  match ds, hn with
  | [a], _ =>
    rw [hc] at h
    simp only [Option.map_eq_some_iff] at h
    obtain ⟨x, h1, h3⟩ := h
    exact ⟨a, x, rfl, h1, h3.symm⟩
end PF

set_option Elab.async false
set_option linter.all false
set_option maxRecDepth 100000
set_option maxHeartbeats 4000000

namespace PF
open PySem PySem.Spec PyProof.Rows L2
/-! ## loops by an invariant -/
section
variable {G : Tb} {T : Ft} {env : En} {P : Po}
theorem forL_inv {tg : Tg} {body : SemS} (mb : MonoS body) {P : Po} (I : Nat → En → Prop) : ∀ {ds : List D} {k : Nat} {env : En}, I k env →
    (∀ j d env, ds[j]? = some d → I (k + j) env → ∃ env1, putTg tg d env = some env1 ∧ body env1 { nx := I (k + j + 1), rt := P.rt, bk := P.nx, ct := I (k + j + 1), er := P.er }) →
    (∀ env, I (k + ds.length) env → P.nx env) → forL tg body ds env P
  | [], k, env, h0, _, hd => hd env h0
  | d :: ds, k, env, h0, hs, hd => by
    obtain ⟨env1, h1, h2⟩ := hs 0 d env rfl h0
    refine ⟨env1, h1, mb _ _ _ h2 ?_⟩
    have go : ∀ env2, I (k + 1) env2 → forL tg body ds env2 P := fun env2 h => forL_inv mb I h (fun j d env hj hi => by
      have := hs (j + 1) d env (by simpa using hj)
      have e : k + (j + 1) = k + 1 + j := by omega
      rw [e] at this
      exact this hi) (fun env hi => hd env (by
        have e : k + (d :: ds).length = k + 1 + ds.length := by simp; omega
        rw [e]; exact hi))
    exact ⟨go, fun _ _ h => h, fun _ h => h, go, fun _ _ h => h⟩
/-- a loop over what an expression gives, by an invariant over the place -/
theorem x_forI (F : FtOk G T) {tg : Tg} {it : It} {b : SL} {p : List D × Prop} (h : evPI T it env = some p) (hc : p.2) (I : Nat → En → Prop) (h0 : I 0 env)
    (hs : ∀ j d env, p.1[j]? = some d → I j env → ∃ env1, putTg tg d env = some env1 ∧ evSs G b env1 { nx := I (j + 1), rt := P.rt, bk := P.nx, ct := I (j + 1), er := P.er })
    (hd : ∀ env, I p.1.length env → P.nx env) : evS G (.forS tg it b) env P :=
  x_for F h hc (forL_inv (evSs_mono b) (k := 0) I h0 (fun j d env hj hi => by
    rw [Nat.zero_add] at hi ⊢; exact hs j d env hj hi) (fun env hi => hd env (by rwa [Nat.zero_add] at hi)))
theorem x_whl (F : FtOk G T) {c : E} {b : SL} (I : En → Prop) (μ : En → Nat) (h0 : I env)
    (hs : ∀ env, I env → ∃ p, evPT T c env = some p ∧ p.2 ∧ (p.1 = true → evSs G b env { nx := fun env2 => I env2 ∧ μ env2 < μ env, rt := P.rt, bk := P.nx, ct := fun env2 => I env2 ∧ μ env2 < μ env, er := P.er }) ∧ (p.1 = false → P.nx env)) : evS G (.whl c b) env P := by
  refine ⟨I, μ, h0, fun env hi => ?_⟩
  obtain ⟨p, h1, h2, h3, h4⟩ := hs env hi
  refine (ps F c).t env p h1 h2 _ _ ?_
  cases hb : p.1 with
  | true => simp only [if_true]; exact h3 hb
  | false => simp only [Bool.false_eq_true, if_false]; exact h4 hb
theorem x_par2 (F : FtOk G T) {i j : Nat} {a b : E} {p : List Ev × Prop} {env2 : En} (h : evPL T (.cons a (.cons b .nil)) env = some p) (hc : p.2) (he : putEs env [i, j] p.1 = some env2) (q : P.nx env2) : evS G (.par2 i j a b) env P :=
  (psLs F (.cons a (.cons b .nil))).L env p h hc (fun es env1 => ∃ env2, putEs env1 [i, j] es = some env2 ∧ P.nx env2) P.er ⟨env2, he, q⟩
theorem x_par3 (F : FtOk G T) {i j k : Nat} {a b c : E} {p : List Ev × Prop} {env2 : En} (h : evPL T (.cons a (.cons b (.cons c .nil))) env = some p) (hc : p.2) (he : putEs env [i, j, k] p.1 = some env2) (q : P.nx env2) : evS G (.par3 i j k a b c) env P :=
  (psLs F (.cons a (.cons b (.cons c .nil)))).L env p h hc (fun es env1 => ∃ env2, putEs env1 [i, j, k] es = some env2 ∧ P.nx env2) P.er ⟨env2, he, q⟩
theorem x_aug (F : FtOk G T) {i : Nat} {e : E} {n m : Int} {c : Prop} (h0 : env[i]? = some (.fz (.int n))) (h : evP T e env = some (.d (.int m), c)) (hc : c) (q : P.nx (env.set i (.fz (.int (n + m))))) : evS G (.aug i .add e) env P :=
  ⟨n, h0, (ps F e).v env _ h hc _ _ ⟨m, rfl, q⟩⟩
theorem x_ext (F : FtOk G T) {i k : Nat} {ds es : List D} {e : E} {p : Ev × Prop} (h0 : env[i]? = some (.own k ds)) (h : evP T e env = some p) (hc : p.2) (hd : setD p.1 = some (.lst es)) (hl : ds.length + es.length ≤ sizeLine) (q : P.nx (env.set i (.own k (ds ++ es)))) : evS G (.ext i e) env P :=
  ⟨⟨k, ds, h0⟩, (ps F e).v env p h hc _ _ (setD_ok hd ⟨k, ds, es, h0, rfl, hl, q⟩)⟩
theorem x_expr (F : FtOk G T) {e : E} {p : Ev × Prop} (h : evP T e env = some p) (hc : p.2) (q : P.nx env) : evS G (.expr e) env P :=
  (ps F e).v env p h hc _ _ q
/-- what holds between two statements -/
theorem x_mid (Q : En → Prop) {s : S} {l : SL} (h : evS G s env { P with nx := Q }) (k : ∀ env1, Q env1 → evSs G l env1 P) : evSs G (.cons s l) env P :=
  ⟨[], evS_mono s _ _ _ h ⟨k, fun _ _ h => h, fun _ h => h, fun _ h => h, fun _ _ h => h⟩⟩
/-- a consequence at the end of a list of statements -/
theorem x_le {l : SL} {P' : Po} (h : evSs G l env P') (q : Po.Le P' P) : evSs G l env P := evSs_mono l _ _ _ h q

/-! ## contracts that leave the result open -/
def Fn.rl {α : Type} (arg : α → List D) (Pr : α → Prop) (R : α → D ⊕ Str → Prop) : Fn where
  run := fun args Q E => ∃ a, args = (arg a).map Sl.fz ∧ Pr a ∧ (∀ d, R a (.inl d) → Q d []) ∧ (∀ c, R a (.inr c) → E c [])
  mono := fun ⟨a, h1, h2, h3, h4⟩ q e => ⟨a, h1, h2, fun d z => q _ _ (h3 d z), fun c z => e _ _ (h4 c z)⟩
theorem rl_ok {α : Type} {arg : α → List D} {Pr : α → Prop} {R : α → D ⊕ Str → Prop} {G : Tb} {m : Nat} {bd : SL} (h : ∀ a, Pr a → evSs G bd ((arg a).map Sl.fz ++ List.replicate m .no) (valPo (fun d => R a (.inl d)) (fun c => R a (.inr c)))) : ∀ sls Q E, (Fn.rl arg Pr R).run sls Q E → (Fn.ofBody G m bd).run sls Q E := by
  rintro sls Q E ⟨a, e, h1, h2, h3⟩
  subst e
  show evSs G bd ((arg a).map Sl.fz ++ List.replicate m .no) (bodyPo ((arg a).map Sl.fz) Q E)
  exact evSs_mono bd _ _ _ (h a h1) ⟨fun env e => ⟨[], outs_fz _ _ _, h2 _ e⟩, fun d env e => ⟨[], outs_fz _ _ _, h2 _ e⟩, fun _ z => z, fun _ z => z, fun c env e => ⟨[], outs_fz _ _ _, h3 _ e⟩⟩
/-- a call of it -/
theorem call_rl (F : FtOk G T) {α : Type} {arg : α → List D} {Pr : α → Prop} {R : α → D ⊕ Str → Prop} {f : Str} {l : EL} {n : Nat} {p : List D × Prop} {Q : Ev → En → Prop} {Er : KE0} (hf : G.fns f = some (List.replicate n false, Fn.rl arg Pr R)) (h : evPM T l env = some p) (hc : p.2) (a : α) (ha : p.1 = arg a) (hn : (arg a).length = n) (hP : Pr a)
    (q : ∀ d, R a (.inl d) → Q (.d d) env) (qe : ∀ c, R a (.inr c) → Er c env) : (ev G (.call f l)).1 env Q Er := by
  refine ⟨_, _, hf, ?_⟩
  have := (psLs F l).A env p h hc
  rw [ha, hn] at this
  refine this _ _ ⟨by simp [hn], _, sls_vals env _ 0, by rw [refs_vals]; exact .nil, a, rfl, hP, fun d r => ?_, fun c r => ?_⟩
  · rw [refs_vals]; exact ⟨env, rfl, q d r⟩
  · rw [refs_vals]; exact ⟨env, rfl, qe c r⟩
theorem x_asgR (F : FtOk G T) {α : Type} {arg : α → List D} {Pr : α → Prop} {R : α → D ⊕ Str → Prop} {f : Str} {i : Nat} {l : EL} {n : Nat} {p : List D × Prop} (hf : G.fns f = some (List.replicate n false, Fn.rl arg Pr R)) (h : evPM T l env = some p) (hc : p.2) (a : α) (ha : p.1 = arg a) (hn : (arg a).length = n) (hP : Pr a)
    (q : ∀ d, R a (.inl d) → P.nx (env.set i (.fz d))) (qe : ∀ c, R a (.inr c) → P.er c env) : evS G (.asg i (.call f l)) env P :=
  call_rl F hf h hc a ha hn hP q qe
theorem x_retR (F : FtOk G T) {α : Type} {arg : α → List D} {Pr : α → Prop} {R : α → D ⊕ Str → Prop} {f : Str} {l : EL} {n : Nat} {p : List D × Prop} (hf : G.fns f = some (List.replicate n false, Fn.rl arg Pr R)) (h : evPM T l env = some p) (hc : p.2) (a : α) (ha : p.1 = arg a) (hn : (arg a).length = n) (hP : Pr a)
    (q : ∀ d, R a (.inl d) → P.rt d env) (qe : ∀ c, R a (.inr c) → P.er c env) : evS G (.ret (.call f l)) env P :=
  call_rl F hf h hc a ha hn hP q qe
theorem x_exprR (F : FtOk G T) {α : Type} {arg : α → List D} {Pr : α → Prop} {R : α → D ⊕ Str → Prop} {f : Str} {l : EL} {n : Nat} {p : List D × Prop} (hf : G.fns f = some (List.replicate n false, Fn.rl arg Pr R)) (h : evPM T l env = some p) (hc : p.2) (a : α) (ha : p.1 = arg a) (hn : (arg a).length = n) (hP : Pr a)
    (q : ∀ d, R a (.inl d) → P.nx env) (qe : ∀ c, R a (.inr c) → P.er c env) : evS G (.expr (.call f l)) env P :=
  call_rl F hf h hc a ha hn hP q qe
end
/-- a def of one result, shown by what it may give -/
theorem fu_of_val {n : Nat} {r : List D → Option (D × Prop)} {G : Tb} {m : Nat} {bd : SL} (h : ∀ ds p, ds.length = n → r ds = some p → p.2 → evSs G bd (ds.map Sl.fz ++ List.replicate m .no) (valPo (fun d => d = p.1) (fun _ => False))) : ∀ ds p, ds.length = n → r ds = some p → p.2 → ∀ P : Po, (∀ env, P.rt p.1 env) → (∀ env, p.1 = .non → P.nx env) → evSs G bd (ds.map Sl.fz ++ List.replicate m .no) P := fun ds p hn hr hp P q qn =>
  evSs_mono bd _ _ _ (h ds p hn hr hp) ⟨fun env e => qn env e.symm, fun d env e => by have e' : d = p.1 := e; rw [e']; exact q env, fun _ z => z.elim, fun _ z => z.elim, fun _ _ z => z.elim⟩
/-! ## draws: a list of ints below 65521 -/
def dsF (n : Nat) (f : Nat → Int) : List D := (List.range n).map fun k => D.int (f k)
def Dr (f : Nat → Int) : Prop := ∀ k, 0 ≤ f k ∧ f k < 65521
theorem dsF_len (n : Nat) (f : Nat → Int) : (dsF n f).length = n := by simp [dsF]
theorem dsF_at {n : Nat} {f : Nat → Int} {k : Nat} (h : k < n) : (dsF n f)[k]? = some (.int (f k)) := by simp [dsF, h]
def isDr (d : D) : Prop := ∃ x : Int, d = .int x ∧ 0 ≤ x ∧ x < 65521
theorem dsF_of {n : Nat} {ds : List D} (h : ∀ d ∈ ds, isDr d) (hl : ds.length = n) : ∃ f, Dr f ∧ ds = dsF n f := by
  refine ⟨fun k => match ds[k]? with | some (.int i) => i | _ => 0, fun k => ?_, ?_⟩
  · dsimp only
    split
    · rename_i i e
      obtain ⟨x, e1, e2⟩ := h _ (List.mem_of_getElem? e)
      cases e1; exact e2
    · omega
  · apply List.ext_getElem?
    intro k
    by_cases hk : k < n
    · rw [dsF_at hk]
      have hk' : k < ds.length := by omega
      obtain ⟨x, e1, e2⟩ := h ds[k] (List.getElem_mem hk')
      rw [List.getElem?_eq_getElem hk', e1]
    · rw [List.getElem?_eq_none (by omega), List.getElem?_eq_none (by rw [dsF_len]; omega)]
end PF

set_option Elab.async false
set_option linter.all false
set_option maxRecDepth 100000
set_option maxHeartbeats 4000000

namespace PF
open PySem PySem.Spec PyProof.Rows L2
/-! ## classes: fields, constants, __init__, methods -/
def Tb.addC (G : Tb) (x : Str) (d : D) : Tb := { G with cst := fun y => if y = x then some d else G.cst y }
def Tb.addFl (G : Tb) (C : Str) (fs : List Str) : Tb := { G with fld := fun D f => (decide (D = C) && fs.contains f) || G.fld D f }
def Tb.addO (G : Tb) (C : Str) : Tb := { G with own := fun y => if y = C then true else G.own y }
def Tb.addI (G : Tb) (C : Str) (n : Nat) (fn : Fn) : Tb := { G with mks := fun y => if y = C then some (n, fn) else G.mks y }
def Tb.addM (G : Tb) (m C : Str) (n : Nat) (fn : Fn) : Tb := { G with mth := fun y => if y = m then some (C, n, fn) else G.mth y }
def bodyPoI (C : Str) (Q : D → List (List D) → Prop) (E : Str → List (List D) → Prop) : Po where
  nx := fun env => ∃ fs, env[0]? = some (.ob C fs) ∧ Q (.obj C fs) []
  rt := fun d env => d = .non ∧ ∃ fs, env[0]? = some (.ob C fs) ∧ Q (.obj C fs) []
  bk := fun _ => False
  ct := fun _ => False
  er := fun c _ => E c []
def Fn.ofInit (G : Tb) (C : Str) (m : Nat) (bd : SL) : Fn where
  run := fun args Q E => evSs G bd (.ob C [] :: args ++ List.replicate m .no) (bodyPoI C Q E)
  mono := fun {args Q Q' E E'} h q e => evSs_mono bd _ (bodyPoI C Q E) (bodyPoI C Q' E') h ⟨fun _ ⟨o, a, b⟩ => ⟨o, a, q _ _ b⟩, fun _ _ ⟨z, o, a, b⟩ => ⟨z, o, a, q _ _ b⟩, fun _ z => z, fun _ z => z, fun _ _ b => e _ _ b⟩
section
variable {K : PySem.W.Frag} {cl : Str → Option Addr} {F H F' H' : Hp}
theorem repL_get : ∀ {ws : List V} {ds : List D} {i : Nat} {v : V} {d : D}, RepL K cl F ws ds → ws[i]? = some v → ds[i]? = some d → Rep K cl F v d
  | _, _, _, _, _, .nil, h, _ => by simp at h
  | _, _, 0, _, _, .cons r _, h, g => by simp at h g; subst h g; exact r
  | _, _, i + 1, _, _, .cons _ t, h, g => repL_get (i := i) t (by simpa using h) (by simpa using g)
theorem ok_startI {x Ca dx : Addr} {C : Str} {ws : List V} {ds : List D} {m : Nat} (hs : ∀ a o, F a = some o → H a = some o) (rl : RepL K cl F ws ds) (hC : cl C = some Ca) (hx : H x = some (.ins Ca dx [])) (fx : F x = none) :
    SOk K cl [x] F H ((V.ref x :: ws).map some ++ List.replicate m none) (.ob C [] :: ds.map Sl.fz ++ List.replicate m .no) ([x] :: List.replicate (ws.length + m) []) := by
  have fl : ([x] :: List.replicate (ws.length + m) ([] : List Addr)).flatten = [x] := by
    have : ∀ n, (List.replicate n ([] : List Addr)).flatten = [] := fun n => by
      induction n with
      | zero => rfl
      | succ n ih => rw [List.replicate_succ, List.flatten_cons, ih]; rfl
    rw [List.flatten_cons, this]; rfl
  refine ⟨hs, by simp [rl.length], by simp, fun i sl v as h1 h2 h3 => ?_, by rw [fl]; simp, fun a m => ?_, fun a m => ?_⟩
  · cases i with
    | zero =>
      simp at h1 h2 h3
      subst h1 h2 h3
      exact ⟨x, Ca, dx, [], rfl, rfl, fx, hC, hx, .nil, rfl⟩
    | succ i =>
      have h3' := List.mem_of_getElem? (show (List.replicate (ws.length + m) ([] : List Addr))[i]? = some as by simpa using h3)
      rw [List.mem_replicate] at h3'
      obtain ⟨_, rfl⟩ := h3'
      by_cases hi : i < ws.length
      · have g1 : (ds.map Sl.fz)[i]? = some sl := by
          have : (ds.map Sl.fz ++ List.replicate m Sl.no)[i]? = some sl := by simpa using h1
          rwa [List.getElem?_append_left (by rw [List.length_map, ← rl.length]; exact hi)] at this
        have g2 : (ws.map some)[i]? = some v := by
          have : (ws.map some ++ List.replicate m none)[i]? = some v := by simpa using h2
          rwa [List.getElem?_append_left (by rw [List.length_map]; exact hi)] at this
        rw [List.getElem?_map, Option.map_eq_some_iff] at g1 g2
        obtain ⟨d, d1, d2⟩ := g1
        obtain ⟨u, u1, u2⟩ := g2
        subst d2 u2
        exact ⟨rfl, u, rfl, repL_get rl u1 d1⟩
      · have : (ds.map Sl.fz ++ List.replicate m Sl.no)[i]? = some sl := by simpa using h1
        rw [List.getElem?_append_right (by rw [List.length_map, ← rl.length]; omega)] at this
        have := List.mem_of_getElem? this
        rw [List.mem_replicate] at this
        rw [this.2]; rfl
  · rw [fl] at m; simp at m; subst m; exact fx
  · rw [fl] at m; simp at m; subst m; rw [hx]; exact fun z => nomatch z
end
section
variable {P : Program} {w : World} {K : PySem.W.Frag} {mg : Str → Option Value} {base : Heap} {G : Tb} {cl : Str → Option Addr} {lv : Nat}
theorem init_pf {x qual C : Str} {st : Stmt} {f : Addr} {fd : FuncData} {N ps : List Str} {bd : SL} {gc : Bool} {n : Nat} (F : Fun K x qual st f fd) (S : FnScope N ps (defScope st)) (hch : chkSs bd (infoOf N (defScope st) gc) (defBody st) = true)
    (gw : GW P w K mg base G cl lv) (hg : gc = true → G.gcd = true) (hn : ps.length = n + 1) : FnOk P w K mg base (L2.CX P w) (lv + 1) f fd ps (spInit K cl C n (Fn.ofInit G C (N.length - ps.length) bd)) := by
  refine F.okX S (fun vs H Q E h => ?_) fun cdv A outer s H vs Q E hr h => ?_
  · obtain ⟨F0, ds, x, Ca, dx, ws, e, hl, _⟩ := h
    subst e
    simp [hl, hn]
  · obtain ⟨F0, ds, x, Ca, dx, ws, e, hl, sub, rl, hC, hx, fx, run⟩ := h
    subst e
    refine ⟨_, (sndSs bd).s _ cl [x] (fun cls d _ H => E cls d H) (infoOf N (defScope st) gc) lv _ ⟨rfl, S.nd, rfl, fun x hx => ?_, hg, S.kind, rfl, hr, gw⟩ ⟨passes_of rfl, rfl, rfl⟩ (takes_of rfl rfl rfl rfl) hch, ?_⟩
    · exact rfl
    · have fl : ([x] :: List.replicate (ws.length + (N.length - ps.length)) ([] : List Addr)).flatten = [x] := by
        have : ∀ n, (List.replicate n ([] : List Addr)).flatten = [] := fun n => by
          induction n with
          | zero => rfl
          | succ n ih => rw [List.replicate_succ, List.flatten_cons, ih]; rfl
        rw [List.flatten_cons, this]; rfl
      refine ⟨F0, .ob C [] :: ds.map .fz ++ List.replicate (N.length - ps.length) .no, [x] :: List.replicate (ws.length + (N.length - ps.length)) [], ?_, ?_⟩
      · unfold L2.start
        rw [show (V.ref x :: ws).length = ps.length by simp [hl, hn]]
        exact ok_startI sub rl hC hx fx
      · have run' : evSs G bd (.ob C [] :: ds.map Sl.fz ++ List.replicate (N.length - ps.length) .no) (bodyPoI C (fun d _ => ∀ F' H', Gr F0 H [[x]] F' H' [] → (∀ a o, F' a = some o → H' a = some o) → Rep K cl F' (.ref x) d → Q .non H')
            (fun c _ => ∀ F' H' Ca, Gr F0 H [[x]] F' H' [[x]] → (∀ a o, F' a = some o → H' a = some o) → cl c = some Ca → E (.ref Ca) none H')) := run
        have fin : ∀ (fs : List (Str × D)) (env : En) σ' F' H' A', env[0]? = some (.ob C fs) → Gr F0 H ([x] :: List.replicate (ws.length + (N.length - ps.length)) []) F' H' A' → SOk K cl [x] F' H' σ' env A' →
            (∀ F' H', Gr F0 H [[x]] F' H' [] → (∀ a o, F' a = some o → H' a = some o) → Rep K cl F' (.ref x) (.obj C fs) → Q .non H') → Q .non H' := fun fs env σ' F' H' A' e g ok q => by
          obtain ⟨v, as, h1, h2, a, Ca', dx', vs, e1, e2, e3, e4, e5, e6, e7⟩ := ok.at e
          simp only [List.getElem?_cons_zero, Option.some.injEq] at e7
          subst e7
          have fr : ∀ b o, F' b = some o → upd F' x (.ins Ca' dx' vs) b = some o := fun b o h => by rw [upd_ne (ne_of_none h e3)]; exact h
          refine q (upd F' x (.ins Ca' dx' vs)) H' ⟨fun b o h => fr b o (g.fr b o h), fun b o h n => g.keep b o h (by rw [fl]; simpa using n), fun b h => ?_, (fun b m => nomatch m), g.stay, fun b o u z => by
            by_cases eb : b = x
            · subst eb; rw [upd_same] at z; cases z
            · rw [upd_ne eb] at z; exact g.nf b o u z⟩ (fun b o h => ?_) (.obj e4 upd_same (e6.mono fr))
          · by_cases eb : b = x
            · exact .inr (.inr (by simp [eb]))
            · rw [upd_ne eb] at h
              have := g.new b h
              rw [fl] at this
              simpa using this
          · by_cases eb : b = x
            · subst eb; rw [upd_same] at h; rw [← h]; exact e5
            · rw [upd_ne eb] at h; exact ok.sub _ _ h
        refine evSs_mono _ _ _ _ run' ⟨?_, ?_, fun _ z => z.elim, fun _ z => z.elim, ?_⟩
        · rintro env ⟨fs, e, q⟩ σ' F' H' A' g ok
          exact fin fs env σ' F' H' A' e g ok q
        · rintro d env ⟨rfl, fs, e, q⟩ v σ' F' H' A' g ok r
          cases r
          exact fin fs env σ' F' H' A' e g ok q
        · rintro c env q σ' F' H' A' Ca' g ok hc
          exact q _ _ _ (g.toB fl) ok.sub hc
theorem GW.addC (gw : GW P w K mg base G cl lv) {x : Str} {d : D} {v : V} {u : Value} (hm : mg x = some u) (rv : RelV v u) (rd : ∀ F, Rep K cl F v d) : GW P w K mg base (G.addC x d) cl lv where
  bi := gw.bi
  gcd := gw.gcd
  isq := gw.isq
  fns := gw.fns
  cst := fun y d' e => by
    have e' : (if y = x then some d else G.cst y) = some d' := e
    split at e'
    · rename_i hy
      subst hy; cases e'
      exact ⟨v, u, hm, rv, rd⟩
    · exact gw.cst y d' e'
  mks := gw.mks
  mth := gw.mth
  fld := gw.fld
  exc := gw.exc
  xsub := gw.xsub
  own := gw.own
  xve := gw.xve
theorem GW.addFl (gw : GW P w K mg base G cl lv) {C : Str} {Ca : Addr} {fs : List Str} (hC : cl C = some Ca) (hc : Cls K Ca) (hf : ∀ f ∈ fs, NoAttr K Ca f) : GW P w K mg base (G.addFl C fs) cl lv where
  bi := gw.bi
  gcd := gw.gcd
  isq := gw.isq
  fns := gw.fns
  cst := gw.cst
  mks := gw.mks
  mth := gw.mth
  fld := fun D Da f hD e => by
    have e' : ((decide (D = C) && fs.contains f) || G.fld D f) = true := e
    rw [Bool.or_eq_true, Bool.and_eq_true, decide_eq_true_eq] at e'
    rcases e' with ⟨e1, e2⟩ | e'
    · subst e1
      rw [hC] at hD; cases hD
      exact ⟨hc, hf f (by simpa using e2)⟩
    · exact gw.fld D Da f hD e'
  exc := gw.exc
  xsub := gw.xsub
  own := gw.own
  xve := gw.xve
theorem GW.addO (gw : GW P w K mg base G cl lv) {C : Str} {Ca : Addr} (hC : cl C = some Ca) (O : OwC K Ca) : GW P w K mg base (G.addO C) cl lv where
  bi := gw.bi
  gcd := gw.gcd
  isq := gw.isq
  fns := gw.fns
  cst := gw.cst
  mks := gw.mks
  mth := gw.mth
  fld := gw.fld
  exc := gw.exc
  xsub := gw.xsub
  own := fun D Da e hD => by
    have e' : (if D = C then true else G.own D) = true := e
    split at e'
    · rename_i h
      subst h
      rw [hC] at hD; cases hD
      exact O
    · exact gw.own D Da e' hD
  xve := gw.xve
def Tb.addQ (G : Tb) : Tb := { G with isq := true }
theorem GW.addQ (gw : GW P w K mg base G cl lv) (h : mg "isqrt" = some (.builtin "math.isqrt")) : GW P w K mg base G.addQ cl lv where
  bi := gw.bi
  gcd := gw.gcd
  isq := fun _ => h
  fns := gw.fns
  cst := gw.cst
  mks := gw.mks
  mth := gw.mth
  fld := gw.fld
  exc := gw.exc
  xsub := gw.xsub
  own := gw.own
  xve := gw.xve
theorem spInit_imp {C : Str} {n : Nat} {fn fn' : Fn} (h : ∀ (ds : List D) Q E, fn'.run (ds.map .fz) Q E → fn.run (ds.map .fz) Q E) : ∀ vs H Q E, spInit K cl C n fn' vs H Q E → spInit K cl C n fn vs H Q E := fun vs H Q E ⟨F, ds, x, Ca, dx, ws, h1, h2, h3, h4, h5, h6, h7, h8⟩ => ⟨F, ds, x, Ca, dx, ws, h1, h2, h3, h4, h5, h6, h7, h _ _ _ h8⟩
/-- a class's __init__, by its contract -/
theorem GW.stepI (gw : GW P w K mg base G cl lv) {C qual x : Str} {Ca : Addr} {n : Nat} {fn : Fn} {st : Stmt} {f : Addr} {fd : FuncData} {N ps : List Str} {bd : SL} {gc : Bool} (F : Fun K x qual st f fd) (hC : cl C = some Ca) (hm : mg C = some (.ref Ca)) (M : Mk K Ca f) (b : Binds K fd ps []) (S : FnScope N ps (defScope st)) (hch : chkSs bd (infoOf N (defScope st) gc) (defBody st) = true) (hg : gc = true → G.gcd = true)
    (hl : ps.length = n + 1) (h : ∀ (ds : List D) Q E, fn.run (ds.map .fz) Q E → (Fn.ofInit G C (N.length - ps.length) bd).run (ds.map .fz) Q E) : GW P w K mg base (G.addI C n fn) cl (lv + 2) := by
  have FO := (init_pf (C := C) F S hch gw hg hl).imp (spInit_imp h)
  have gw' := gw.up (Nat.le_add_right lv 2)
  refine ⟨gw'.bi, gw'.gcd, gw'.isq, gw'.fns, gw'.cst, fun y n' fn' e => ?_, gw'.mth, gw'.fld, gw'.exc, gw'.xsub, gw'.own, gw'.xve⟩
  have e' : (if y = C then some (n, fn) else G.mks y) = some (n', fn') := e
  split at e'
  · rename_i hy
    subst hy
    cases e'
    exact ⟨Ca, _, f, fd, ps, Nat.le_refl _, hC, hm, M, FO, b⟩
  · exact gw'.mks y n' fn' e'
/-- a method, by its contract -/
theorem GW.stepM (gw : GW P w K mg base G cl lv) {C m qual x : Str} {Ca : Addr} {n : Nat} {fn : Fn} {st : Stmt} {f : Addr} {fd : FuncData} {N ps : List Str} {bd : SL} {gc : Bool} (F : Fun K x qual st f fd) (hC : cl C = some Ca) (hc : Cls K Ca) (M : Meth K Ca m f) (b : Binds K fd ps []) (S : FnScope N ps (defScope st)) (hch : chkSs bd (infoOf N (defScope st) gc) (defBody st) = true) (hg : gc = true → G.gcd = true)
    (hl : ps.length = n) (h : ∀ sls Q E, fn.run sls Q E → (Fn.ofBody G (N.length - ps.length) bd).run sls Q E) : GW P w K mg base (G.addM m C n fn) cl (lv + 1) := by
  have FO := (fn_pf F S hch gw hg).imp (spOf_imp h)
  rw [hl] at FO
  have gw' := gw.up (Nat.le_succ lv)
  refine ⟨gw'.bi, gw'.gcd, gw'.isq, gw'.fns, gw'.cst, gw'.mks, fun y C' n' fn' e => ?_, gw'.fld, gw'.exc, gw'.xsub, gw'.own, gw'.xve⟩
  have e' : (if y = m then some (C, n, fn) else G.mth y) = some (C', n', fn') := e
  split at e'
  · rename_i hy
    subst hy
    cases e'
    exact ⟨Ca, _, f, fd, ps, Nat.le_refl _, hC, hc, M, FO, b⟩
  · exact gw'.mth y C' n' fn' e'
end
/-- the contract of an __init__ -/
theorem rlI_ok {α : Type} {arg : α → List D} {Pr : α → Prop} {R : α → D ⊕ Str → Prop} {G : Tb} {C : Str} {m : Nat} {bd : SL} (h : ∀ a, Pr a → evSs G bd (.ob C [] :: (arg a).map Sl.fz ++ List.replicate m .no) (bodyPoI C (fun d _ => R a (.inl d)) (fun c _ => R a (.inr c)))) : ∀ (ds : List D) Q E, (Fn.rl arg Pr R).run (ds.map .fz) Q E → (Fn.ofInit G C m bd).run (ds.map .fz) Q E := by
  rintro ds Q E ⟨a, e, h1, h2, h3⟩
  rw [e]
  show evSs G bd (.ob C [] :: (arg a).map Sl.fz ++ List.replicate m .no) (bodyPoI C Q E)
  exact evSs_mono bd _ _ _ (h a h1) ⟨fun env ⟨fs, e, q⟩ => ⟨fs, e, h2 _ q⟩, fun d env ⟨z, fs, e, q⟩ => ⟨z, fs, e, h2 _ q⟩, fun _ z => z, fun _ z => z, fun c env e => h3 _ e⟩
/-- what a contract gives, as a function of its values -/
def FuOf (fn : Fn) (n : Nat) (r : List D → Option (D × Prop)) : Prop := ∀ ds p, ds.length = n → r ds = some p → p.2 → ∀ Q E, Q p.1 [] → fn.run (ds.map .fz) Q E
theorem fuOf_fu {n : Nat} {r : List D → Option (D × Prop)} : FuOf (Fn.fu n r) n r := fun ds p hn h hc Q E q => fu_run hn h hc q
theorem fuOf_rl {α : Type} {arg : α → List D} {Pr : α → Prop} {R : α → D ⊕ Str → Prop} {n : Nat} {r : List D → Option (D × Prop)} (h : ∀ ds p, ds.length = n → r ds = some p → p.2 → ∃ a, ds = arg a ∧ Pr a ∧ ∀ o, R a o → o = .inl p.1) : FuOf (Fn.rl arg Pr R) n r := fun ds p hn hr hc Q E q => by
  obtain ⟨a, h1, h2, h3⟩ := h ds p hn hr hc
  refine ⟨a, by rw [h1], h2, fun d hd => ?_, fun c hc => ?_⟩
  · have e := h3 _ hd
    cases e; exact q
  · have e := h3 _ hc
    cases e
/-- table of functions, constants, constructors, methods -/
structure Fts where
  fn : List Fe
  cst : List (Str × D)
  mks : List Fe
  mth : List Fe
  fld : List (Str × Str)
def lkF (l : List Fe) (f : Str) : Option (List D → Option (D × Prop)) := (l.lookup f).map fun e ds => if ds.length = e.1 then e.2 ds else none
def Ft.ofs (l : Fts) : Ft := { fn := lkF l.fn, cst := fun x => l.cst.lookup x, mks := lkF l.mks, mth := lkF l.mth, fld := fun C f => l.fld.contains (C, f) }
theorem lkF_by {l : List Fe} {f : Str} {r : List D → Option (D × Prop)} {ds : List D} {p : D × Prop} (h1 : lkF l f = some r) (h2 : r ds = some p) : ∃ e, (f, e) ∈ l ∧ ds.length = e.1 ∧ e.2 ds = some p := by
  unfold lkF at h1
  rw [Option.map_eq_some_iff] at h1
  obtain ⟨e, h4, h5⟩ := h1
  subst h5
  have h2' : (if ds.length = e.1 then e.2 ds else none) = some p := h2
  split at h2'
  · rename_i hn
    exact ⟨e, mem_of_lookup_some h4, hn, h2'⟩
  · cases h2'
theorem ftOk_ofs {G : Tb} {l : Fts} (h : ∀ e ∈ l.fn, ∃ fn, G.fns e.1 = some (List.replicate e.2.1 false, fn) ∧ FuOf fn e.2.1 e.2.2) (hc : ∀ e ∈ l.cst, G.cst e.1 = some e.2) (hk : ∀ e ∈ l.mks, ∃ fn, G.mks e.1 = some (e.2.1, fn) ∧ FuOf fn e.2.1 e.2.2 ∧ 0 < e.2.1) (hf : ∀ e ∈ l.fld, G.fld e.1 e.2 = true)
    (hm : ∀ e ∈ l.mth, ∃ C fn, G.mth e.1 = some (C, e.2.1, fn) ∧ FuOf fn e.2.1 e.2.2 ∧ ∀ ds p, e.2.2 ds = some p → ∃ fs tl, ds = .obj C fs :: tl ∧ fs.lookup e.1 = none) : FtOk G (Ft.ofs l) where
  fn := fun f r ds p h1 h2 h3 => by
    obtain ⟨e, hm, hn, h2'⟩ := lkF_by h1 h2
    obtain ⟨fn, g1, g2⟩ := h _ hm
    exact ⟨fn, by rw [hn]; exact g1, fun Q E q => g2 ds p hn h2' h3 Q E q⟩
  cst := fun x d e => hc (x, d) (mem_of_lookup_some e)
  mks := fun f r ds p h1 h2 h3 => by
    obtain ⟨e, hm, hn, h2'⟩ := lkF_by h1 h2
    obtain ⟨fn, g1, g2, g3⟩ := hk _ hm
    refine ⟨fn, by rw [hn]; exact g1, fun z => ?_, fun Q E q => g2 ds p hn h2' h3 Q E q⟩
    subst z
    rw [← hn] at g3
    exact absurd g3 (Nat.lt_irrefl _)
  mth := fun m r ds p h1 h2 h3 => by
    obtain ⟨e, hmm, hn, h2'⟩ := lkF_by h1 h2
    obtain ⟨C, fn, g1, g2, g3⟩ := hm _ hmm
    obtain ⟨fs, tl, e1, e2⟩ := g3 ds p h2'
    exact ⟨C, fs, tl, fn, e1, e2, by rw [hn]; exact g1, fun Q E q => g2 ds p hn h2' h3 Q E q⟩
  fld := fun C f e => hf (C, f) (by have e' : l.fld.contains (C, f) = true := e; simpa using e')
/-- name = C(..) -/
theorem x_asgI {G : Tb} {T : Ft} {env : En} {P : Po} (F : FtOk G T) {α : Type} {arg : α → List D} {Pr : α → Prop} {R : α → D ⊕ Str → Prop} {C : Str} {i : Nat} {l : EL} {n : Nat} {p : List D × Prop} (hf : G.mks C = some (n, Fn.rl arg Pr R)) (h : evPM T l env = some p) (hc : p.2) (a : α) (ha : p.1 = arg a) (hn : (arg a).length = n) (h0 : arg a ≠ []) (hP : Pr a)
    (q : ∀ d, R a (.inl d) → P.nx (env.set i (.fz d))) (qe : ∀ c, R a (.inr c) → P.er c env) : evS G (.asg i (.mk C l)) env P := by
  refine ⟨n, _, hf, (psLs F l).M env p h hc _ _ ?_⟩
  rw [ha]
  exact ⟨hn, h0, a, rfl, hP, q, qe⟩
theorem x_retI {G : Tb} {T : Ft} {env : En} {P : Po} (F : FtOk G T) {α : Type} {arg : α → List D} {Pr : α → Prop} {R : α → D ⊕ Str → Prop} {C : Str} {l : EL} {n : Nat} {p : List D × Prop} (hf : G.mks C = some (n, Fn.rl arg Pr R)) (h : evPM T l env = some p) (hc : p.2) (a : α) (ha : p.1 = arg a) (hn : (arg a).length = n) (h0 : arg a ≠ []) (hP : Pr a)
    (q : ∀ d, R a (.inl d) → P.rt d env) (qe : ∀ c, R a (.inr c) → P.er c env) : evS G (.ret (.mk C l)) env P := by
  refine ⟨n, _, hf, (psLs F l).M env p h hc _ _ ?_⟩
  rw [ha]
  exact ⟨hn, h0, a, rfl, hP, q, qe⟩
theorem meth_rl {G : Tb} {T : Ft} {env : En} (F : FtOk G T) {α : Type} {arg : α → List D} {Pr : α → Prop} {R : α → D ⊕ Str → Prop} {C m : Str} {o : E} {l : EL} {n : Nat} {vo : Ev} {co : Prop} {fs : List (Str × D)} {p : List D × Prop} {Q : Ev → En → Prop} {Er : KE0} (hf : G.mth m = some (C, n, Fn.rl arg Pr R)) (ho : evP T o env = some (vo, co)) (hco : co) (hd : setD vo = some (.obj C fs)) (hl : fs.lookup m = none) (h : evPM T l env = some p) (hc : p.2) (a : α) (ha : .obj C fs :: p.1 = arg a) (hn : (arg a).length = n) (hP : Pr a)
    (q : ∀ d, R a (.inl d) → Q (.d d) env) (qe : ∀ c, R a (.inr c) → Er c env) : (ev G (.meth m o l)).1 env Q Er := by
  refine ⟨C, n, _, hf, (ps F o).v env _ ho hco _ _ (setD_ok hd ⟨⟨fs, rfl, hl⟩, (psLs F l).M env p h hc _ _ ⟨?_, ?_⟩⟩)⟩
  · rw [← hn, ← ha]; simp
  · exact ⟨a, by rw [← ha]; rfl, hP, q, qe⟩
theorem x_setA {G : Tb} {T : Ft} {env : En} {P : Po} (F : FtOk G T) {f C : Str} {e : E} {p : Ev × Prop} {d : D} {fs : List (Str × D)} (h : evP T e env = some p) (hc : p.2) (hd : setD p.1 = some d) (h0 : env[0]? = some (.ob C fs)) (h1 : G.fld C f = true) (hl : fs.length < 1000) (q : P.nx (env.set 0 (.ob C (putD f d fs)))) : evS G (.setA f e) env P :=
  (ps F e).v env p h hc _ _ (setD_ok hd ⟨C, fs, h0, h1, hl, q⟩)
end PF

set_option Elab.async false
set_option linter.all false
set_option maxRecDepth 100000
set_option maxHeartbeats 4000000

namespace PF
open PySem PySem.Spec PyProof.Rows L2
/-! ## parts of expressions, one by one -/
section
variable {T : Ft} {env : En}
theorem evP_isi {a : E} {ty : Str} {v : Ev} {c : Prop} {x : D} {b : Bool} (h : evP T a env = some (v, c)) (hx : peekD env v = some x) (hb : isiB x ty = some b) : evP T (.isi a ty) env = some (.d (.bl b), c) := by
  show ((evQ T a).1 env).bind _ = _
  rw [show (evQ T a).1 env = some (v, c) from h]
  show (peekD env v).bind _ = _
  rw [hx]
  show (isiB x ty).map _ = _
  rw [hb]; rfl
theorem evP_bnot {a : E} {b : Bool} {c : Prop} (h : evP T a env = some (.d (.bl b), c)) : evP T (.bnot a) env = some (.d (.bl (!b)), c) := by
  show ((evQ T a).1 env).bind _ = _
  rw [show (evQ T a).1 env = some (.d (.bl b), c) from h]; rfl
theorem evPAV_1 {a : E} {b : Bool} {c : Prop} (h : evP T a env = some (.d (.bl b), c)) : evPAV T (.cons a .nil) env = some (b, c) := by
  show ((evQ T a).1 env).bind _ = _
  rw [show (evQ T a).1 env = some (.d (.bl b), c) from h]; rfl
theorem evPAV_c {a a' : E} {l : EL} {b r : Bool} {c cr : Prop} (h : evP T a env = some (.d (.bl b), c)) (h2 : evPAV T (.cons a' l) env = some (r, cr)) : evPAV T (.cons a (.cons a' l)) env = some (b && r, c ∧ (b = true → cr)) := by
  show ((evQ T a).1 env).bind _ = _
  rw [show (evQ T a).1 env = some (.d (.bl b), c) from h]
  show (evPAV T (.cons a' l) env).map _ = _
  rw [h2]; rfl
theorem evP_band {l : EL} {b : Bool} {c : Prop} (h : evPAV T l env = some (b, c)) : evP T (.band l) env = some (.d (.bl b), c) := by
  show (evPAV T l env).map _ = _
  rw [h]; rfl
theorem evPA_1 {a : E} {b : Bool} {c : Prop} (h : evPT T a env = some (b, c)) : evPA T (.cons a .nil) env = some (b, c) := h
theorem evPA_c {a a' : E} {l : EL} {b r : Bool} {c cr : Prop} (h : evPT T a env = some (b, c)) (h2 : evPA T (.cons a' l) env = some (r, cr)) : evPA T (.cons a (.cons a' l)) env = some (b && r, c ∧ (b = true → cr)) := by
  show ((evQ T a).2 env).bind _ = _
  rw [show (evQ T a).2 env = some (b, c) from h]
  show (evPA T (.cons a' l) env).map _ = _
  rw [h2]; rfl
theorem evPT_band {l : EL} {b : Bool} {c : Prop} (h : evPA T l env = some (b, c)) : evPT T (.band l) env = some (b, c) := h
theorem evPOr_1 {a : E} {b : Bool} {c : Prop} (h : evPT T a env = some (b, c)) : evPOr T (.cons a .nil) env = some (b, c) := h
theorem evPOr_c {a a' : E} {l : EL} {b r : Bool} {c cr : Prop} (h : evPT T a env = some (b, c)) (h2 : evPOr T (.cons a' l) env = some (r, cr)) : evPOr T (.cons a (.cons a' l)) env = some (b || r, c ∧ (b = false → cr)) := by
  show ((evQ T a).2 env).bind _ = _
  rw [show (evQ T a).2 env = some (b, c) from h]
  show (evPOr T (.cons a' l) env).map _ = _
  rw [h2]; rfl
theorem evPT_bor {l : EL} {b : Bool} {c : Prop} (h : evPOr T l env = some (b, c)) : evPT T (.bor l) env = some (b, c) := h
theorem evPT_bnot {a : E} {b : Bool} {c : Prop} (h : evPT T a env = some (b, c)) : evPT T (.bnot a) env = some (!b, c) := by
  show ((evQ T a).2 env).map _ = _
  rw [show (evQ T a).2 env = some (b, c) from h]; rfl
theorem evP_cmp {op : Cop} {a b : E} {va vb : Ev} {ca cb : Prop} {x y : D} {r : Bool} {c : Prop} (ha : evP T a env = some (va, ca)) (hb : evP T b env = some (vb, cb)) (hx : peekD env va = some x) (hy : peekD env vb = some y) (h : cmpF op x y = some (r, c)) : evP T (.cmp op a b) env = some (.d (.bl r), ca ∧ cb ∧ c) := by
  show ((evQ T a).1 env).bind _ = _
  rw [show (evQ T a).1 env = some (va, ca) from ha]
  show ((evQ T b).1 env).bind _ = _
  rw [show (evQ T b).1 env = some (vb, cb) from hb]
  show (peekD env va).bind _ = _
  rw [hx]
  show (peekD env vb).bind _ = _
  rw [hy]
  show (cmpF op x y).map _ = _
  rw [h]; rfl
theorem evPT_of {e : E} {v : Ev} {c : Prop} {x : D} {b : Bool} {cb : Prop} (hT : (evQ T e).2 = truP (evQ T e).1) (h : evP T e env = some (v, c)) (hx : peekD env v = some x) (hb : truF x = some (b, cb)) : evPT T e env = some (b, c ∧ cb) := by
  show (evQ T e).2 env = _
  rw [hT]
  show ((evQ T e).1 env).bind _ = _
  rw [show (evQ T e).1 env = some (v, c) from h]
  show (peekD env v).bind _ = _
  rw [hx]
  show (truF x).map _ = _
  rw [hb]; rfl
theorem evPT_cmp {op : Cop} {a b : E} {va vb : Ev} {ca cb : Prop} {x y : D} {r : Bool} {c : Prop} (ha : evP T a env = some (va, ca)) (hb : evP T b env = some (vb, cb)) (hx : peekD env va = some x) (hy : peekD env vb = some y) (h : cmpF op x y = some (r, c)) : evPT T (.cmp op a b) env = some (r, (ca ∧ cb ∧ c) ∧ True) :=
  evPT_of rfl (evP_cmp ha hb hx hy h) rfl rfl
theorem evP_meth {m : Str} {o : E} {l : EL} {r : List D → Option (D × Prop)} {vo : Ev} {co : Prop} {d0 : D} {ds : List D × Prop} {p : D × Prop} (h : T.mth m = some r) (ho : evP T o env = some (vo, co)) (hd : setD vo = some d0) (h2 : evPM T l env = some ds) (h3 : r (d0 :: ds.1) = some p) : evP T (.meth m o l) env = some (.d p.1, co ∧ ds.2 ∧ p.2) := by
  show (T.mth m).bind _ = _
  rw [h]
  show ((evQ T o).1 env).bind _ = _
  rw [show (evQ T o).1 env = some (vo, co) from ho]
  show (setD vo).bind _ = _
  rw [hd]
  show (evPM T l env).bind _ = _
  rw [h2]
  show (r (d0 :: ds.1)).map _ = _
  rw [h3]; rfl
theorem evP_bin {op : Bop} {a b : E} {va vb : Ev} {ca cb : Prop} {x y : D} {v : Ev} {c : Prop} (ha : evP T a env = some (va, ca)) (hb : evP T b env = some (vb, cb)) (hx : peekD env va = some x) (hy : peekD env vb = some y) (h : binF op x y = some (v, c)) : evP T (.bin op a b) env = some (v, ca ∧ cb ∧ c) := by
  show ((evQ T a).1 env).bind _ = _
  rw [show (evQ T a).1 env = some (va, ca) from ha]
  show ((evQ T b).1 env).bind _ = _
  rw [show (evQ T b).1 env = some (vb, cb) from hb]
  show (peekD env va).bind _ = _
  rw [hx]
  show (peekD env vb).bind _ = _
  rw [hy]
  show (binF op x y).map _ = _
  rw [h]; rfl
theorem evP_bi1 {f : Bi} {a : E} {v : Ev} {c : Prop} {x : D} {r : Ev} {cr : Prop} (h : evP T a env = some (v, c)) (hx : peekD env v = some x) (hb : biF f [x] = some (r, cr)) : evP T (.bi f (.cons a .nil)) env = some (r, (c ∧ True) ∧ cr) := by
  show (((evQ T a).1 env).bind _).bind _ = _
  rw [show (evQ T a).1 env = some (v, c) from h]
  show (([v].mapM (peekD env)).bind _) = _
  rw [List.mapM_cons, hx]
  show ((biF f [x]).map _) = _
  rw [hb]; rfl
theorem evP_attr {o : E} {f C : Str} {v : Ev} {c : Prop} {fs : List (Str × D)} {d : D} (h : evP T o env = some (v, c)) (hx : peekD env v = some (.obj C fs)) (hf : T.fld C f = true) (hl : fs.lookup f = some d) : evP T (.attr o f) env = some (.d d, c) := by
  show ((evQ T o).1 env).bind _ = _
  rw [show (evQ T o).1 env = some (v, c) from h]
  show (peekD env v).bind _ = _
  rw [hx]
  show (if T.fld C f = true then (fs.lookup f).map _ else none) = _
  rw [if_pos hf, hl]; rfl
theorem evP_glob {x : Str} {d : D} (h : T.cst x = some d) : evP T (.glob x) env = some (.d d, True) := by
  show (T.cst x).map _ = _
  rw [h]; rfl
theorem evP_fz {i : Nat} {d : D} (h : env[i]? = some (.fz d)) : evP T (.var i) env = some (.d d, True) := by
  show (match env[i]? with | some (.fz d) => some (Ev.d d, True) | some (.own _ _) => some (Ev.vw i, True) | some (.own2 _) => some (Ev.vw i, True) | _ => none) = _
  rw [h]
theorem evP_own {i k : Nat} {ds : List D} (h : env[i]? = some (.own k ds)) : evP T (.var i) env = some (.vw i, True) := by
  show (match env[i]? with | some (.fz d) => some (Ev.d d, True) | some (.own _ _) => some (Ev.vw i, True) | some (.own2 _) => some (Ev.vw i, True) | _ => none) = _
  rw [h]
end
end PF

set_option Elab.async false
set_option linter.all false
set_option maxRecDepth 100000
set_option maxHeartbeats 4000000
namespace CM
open PySem PySem.Spec PyProof.Rows L2 PF
-- k02 k03 k04 k05 k06 k07 k08 k09 k10 k11 k12 k13 k14 k15
def b_Form___init__ : SL := .cons (.ite (.bnot (.call "_is_table" (.cons (.var 1) .nil))) (.cons (.rai "BadForm") .nil) .nil) (.cons (.asg 2 (.call "determinant_of" (.cons (.var 1) .nil))) (.cons (.ite (.bnot (.chain .le .le (.neg (.glob "MOST_SIZE")) (.var 2) (.neg (.cst (.int 1))))) (.cons (.rai "BadForm") .nil) .nil) (.cons (.ite (.band (.cons (.cmp .lt (.ix (.ix (.var 1) (.cst (.int 0))) (.cst (.int 0))) (.cst (.int 0))) (.cons (.cmp .gt (.bin .mul (.ix (.ix (.var 1) (.cst (.int 0))) (.cst (.int 0))) (.ix (.ix (.var 1) (.cst (.int 1))) (.cst (.int 1)))) (.bin .mul (.ix (.ix (.var 1) (.cst (.int 0))) (.cst (.int 1))) (.ix (.ix (.var 1) (.cst (.int 0))) (.cst (.int 1))))) .nil))) (.cons (.rai "BadForm") .nil) .nil) (.cons (.asg 3 (.cst (.int 0))) (.cons (.forS (.name 4) (.of (.call "adjoint" (.cons (.var 1) .nil))) (.cons (.forS (.name 5) (.of (.var 4)) (.cons (.asg 3 (.bi .gcd (.cons (.var 3) (.cons (.var 5) .nil)))) .nil)) .nil)) (.cons (.setA "table" (.var 1)) (.cons (.setA "determinant" (.var 2)) (.cons (.setA "last" (.bin .fdiv (.neg (.var 2)) (.var 3))) .nil))))))))
-- k02 k03 k08 k14
def b_Form__taken_over : SL := .cons (.ret (.call "matrix_product" (.cons (.call "transposed" (.cons (.var 1) .nil)) (.cons (.call "matrix_product" (.cons (.attr (.var 0) "table") (.cons (.var 1) .nil))) .nil)))) .nil
-- k02 k08
def b_Form_is_keeper : SL := .cons (.ret (.cmp .eq (.meth "_taken_over" (.var 0) (.cons (.var 1) .nil)) (.attr (.var 0) "table"))) .nil
-- k03 k14
def b_Form_moved : SL := .cons (.ite (.cmp .nin (.call "determinant_of" (.cons (.var 1) .nil)) (.tup (.cons (.cst (.int 1)) (.cons (.neg (.cst (.int 1))) .nil)))) (.cons (.rai "BadMatrix") .nil) .nil) (.cons (.ret (.mk "Form" (.cons (.meth "_taken_over" (.var 0) (.cons (.var 1) .nil)) .nil))) .nil)
-- k02 k03 k04 k05 k06 k07 k08 k09 k10 k11 k12 k13 k14 k15
def b_Form_norm : SL := .cons (.ret (.meth "product" (.var 0) (.cons (.var 1) (.cons (.var 1) .nil)))) .nil
-- k02 k03 k04 k05 k06 k07 k08 k09 k10 k11 k12 k13 k14 k15
def b_Form_product : SL := .cons (.asg 3 (.call "image" (.cons (.attr (.var 0) "table") (.cons (.var 2) .nil)))) (.cons (.ret (.bin .add (.bin .add (.bin .mul (.ix (.var 1) (.cst (.int 0))) (.ix (.var 3) (.cst (.int 0)))) (.bin .mul (.ix (.var 1) (.cst (.int 1))) (.ix (.var 3) (.cst (.int 1))))) (.bin .mul (.ix (.var 1) (.cst (.int 2))) (.ix (.var 3) (.cst (.int 2)))))) .nil)
-- k05 k09 k12 k14
def b__added : SL := .cons (.ret (.tup (.cons (.bin .add (.ix (.var 0) (.cst (.int 0))) (.bin .mul (.var 1) (.ix (.var 2) (.cst (.int 0))))) (.cons (.bin .add (.ix (.var 0) (.cst (.int 1))) (.bin .mul (.var 1) (.ix (.var 2) (.cst (.int 1))))) (.cons (.bin .add (.ix (.var 0) (.cst (.int 2))) (.bin .mul (.var 1) (.ix (.var 2) (.cst (.int 2))))) .nil))))) .nil
-- k05 k09 k12 k14
def b__euclid : SL := .cons (.par2 2 3 (.tup (.cons (.var 0) (.cons (.cst (.int 1)) (.cons (.cst (.int 0)) .nil)))) (.tup (.cons (.var 1) (.cons (.cst (.int 0)) (.cons (.cst (.int 1)) .nil))))) (.cons (.whl (.cmp .ne (.ix (.var 3) (.cst (.int 0))) (.cst (.int 0))) (.cons (.asg 4 (.bin .fdiv (.ix (.var 2) (.cst (.int 0))) (.ix (.var 3) (.cst (.int 0))))) (.cons (.par2 2 3 (.var 3) (.tup (.cons (.bin .sub (.ix (.var 2) (.cst (.int 0))) (.bin .mul (.var 4) (.ix (.var 3) (.cst (.int 0))))) (.cons (.bin .sub (.ix (.var 2) (.cst (.int 1))) (.bin .mul (.var 4) (.ix (.var 3) (.cst (.int 1))))) (.cons (.bin .sub (.ix (.var 2) (.cst (.int 2))) (.bin .mul (.var 4) (.ix (.var 3) (.cst (.int 2))))) .nil))))) .nil))) (.cons (.ite (.cmp .lt (.ix (.var 2) (.cst (.int 0))) (.cst (.int 0))) (.cons (.ret (.tup (.cons (.neg (.ix (.var 2) (.cst (.int 0)))) (.cons (.neg (.ix (.var 2) (.cst (.int 1)))) (.cons (.neg (.ix (.var 2) (.cst (.int 2)))) .nil))))) .nil) .nil) (.cons (.ret (.var 2)) .nil)))
-- k07 k08 k09 k10 k11 k12 k13 k14 k15
def b__is_root : SL := .cons (.asg 2 (.meth "norm" (.var 0) (.cons (.var 1) .nil))) (.cons (.ite (.bor (.cons (.cmp .le (.var 2) (.cst (.int 0))) (.cons (.cmp .ne (.bi .gcd (.cons (.bi .gcd (.cons (.ix (.var 1) (.cst (.int 0))) (.cons (.ix (.var 1) (.cst (.int 1))) .nil))) (.cons (.ix (.var 1) (.cst (.int 2))) .nil))) (.cst (.int 1))) .nil))) (.cons (.ret (.cst (.bl false))) .nil) .nil) (.cons (.ret (.bi .all (.cons (.lc (.name 3) (.of (.call "image" (.cons (.attr (.var 0) "table") (.cons (.var 1) .nil)))) .nil (.cmp .eq (.bin .mod (.bin .mul (.cst (.int 2)) (.var 3)) (.var 2)) (.cst (.int 0)))) .nil))) .nil))
-- k02 k03 k04 k05 k06 k07 k08 k09 k10 k11 k12 k13 k14 k15
def b__is_table : SL := .cons (.forS (.name 1) (.rng1 (.cst (.int 3))) (.cons (.forS (.name 2) (.rng1 (.cst (.int 3))) (.cons (.ite (.bor (.cons (.bnot (.call "is_integer" (.cons (.ix (.ix (.var 0) (.var 1)) (.var 2)) .nil))) (.cons (.cmp .gt (.bi .abs (.cons (.ix (.ix (.var 0) (.var 1)) (.var 2)) .nil)) (.glob "MOST_ITEM")) (.cons (.cmp .ne (.ix (.ix (.var 0) (.var 1)) (.var 2)) (.ix (.ix (.var 0) (.var 2)) (.var 1))) .nil)))) (.cons (.ret (.cst (.bl false))) .nil) .nil) .nil)) .nil)) (.cons (.ret (.cst (.bl true))) .nil)
-- k05 k07 k09
def b__law_adjoint : SL := .cons (.asg 1 (.lst .nil)) (.cons (.forS (.name 2) (.rng1 (.cst (.int 3))) (.cons (.par2 3 4 (.bin .mod (.bin .add (.var 2) (.cst (.int 1))) (.cst (.int 3))) (.bin .mod (.bin .add (.var 2) (.cst (.int 2))) (.cst (.int 3)))) (.cons (.asg 5 (.lst .nil)) (.cons (.forS (.name 6) (.rng1 (.cst (.int 3))) (.cons (.par2 7 8 (.bin .mod (.bin .add (.var 6) (.cst (.int 1))) (.cst (.int 3))) (.bin .mod (.bin .add (.var 6) (.cst (.int 2))) (.cst (.int 3)))) (.cons (.app 5 (.bin .sub (.bin .mul (.ix (.ix (.var 0) (.var 7)) (.var 3)) (.ix (.ix (.var 0) (.var 8)) (.var 4))) (.bin .mul (.ix (.ix (.var 0) (.var 7)) (.var 4)) (.ix (.ix (.var 0) (.var 8)) (.var 3))))) .nil))) (.cons (.app 1 (.bi .tuple (.cons (.var 5) .nil))) .nil))))) (.cons (.ret (.bi .tuple (.cons (.var 1) .nil))) .nil))
-- k05 k09
def b__law_box : SL := .cons (.asgT [3, 4] (.tup (.cons (.call "_law_image" (.cons (.var 0) (.cons (.var 1) .nil))) (.cons (.call "_law_product" (.cons (.var 0) (.cons (.var 1) (.cons (.var 1) .nil)))) .nil)))) (.cons (.asg 5 (.lst .nil)) (.cons (.forS (.name 6) (.rng1 (.cst (.int 3))) (.cons (.app 5 (.bi .tuple (.cons (.lc (.name 12) (.rng1 (.cst (.int 3))) .nil (.bin .sub (.bin .mul (.bin .mul (.cst (.int 2)) (.ix (.var 3) (.var 6))) (.ix (.var 3) (.var 12))) (.bin .mul (.var 4) (.ix (.ix (.var 0) (.var 6)) (.var 12))))) .nil))) .nil)) (.cons (.par2 7 8 (.call "_law_det" (.cons (.var 5) .nil)) (.call "_law_adjoint" (.cons (.var 5) .nil))) (.cons (.asg 9 (.lst .nil)) (.cons (.forS (.name 6) (.rng1 (.cst (.int 3))) (.cons (.asg 10 (.cst (.int 0))) (.cons (.forS (.name 11) (.rng1 (.cst (.int 300))) (.cons (.ite (.cmp .le (.bin .mul (.bin .mul (.bin .add (.var 10) (.cst (.int 1))) (.bin .add (.var 10) (.cst (.int 1)))) (.var 7)) (.bin .mul (.var 2) (.ix (.ix (.var 8) (.var 6)) (.var 6)))) (.cons (.asg 10 (.bin .add (.var 10) (.cst (.int 1)))) .nil) .nil) .nil)) (.cons (.app 9 (.var 10)) .nil)))) (.cons (.ret (.var 9)) .nil))))))
-- k05 k07 k08 k09 k10 k11 k12 k13 k14 k15
def b__law_boxed : SL := .cons (.asg 1 (.lst .nil)) (.cons (.forS (.name 2) (.rng2 (.neg (.ix (.var 0) (.cst (.int 0)))) (.bin .add (.ix (.var 0) (.cst (.int 0))) (.cst (.int 1)))) (.cons (.forS (.name 3) (.rng2 (.neg (.ix (.var 0) (.cst (.int 1)))) (.bin .add (.ix (.var 0) (.cst (.int 1))) (.cst (.int 1)))) (.cons (.forS (.name 4) (.rng2 (.neg (.ix (.var 0) (.cst (.int 2)))) (.bin .add (.ix (.var 0) (.cst (.int 2))) (.cst (.int 1)))) (.cons (.app 1 (.tup (.cons (.var 2) (.cons (.var 3) (.cons (.var 4) .nil))))) .nil)) .nil)) .nil)) (.cons (.ret (.var 1)) .nil))
-- k02 k07 k08 k09 k10 k11 k12 k13 k15
def b__law_common : SL := .cons (.asg 1 (.cst (.int 0))) (.cons (.forS (.name 2) (.of (.var 0)) (.cons (.asg 2 (.bi .abs (.cons (.var 2) .nil))) (.cons (.forS (.name 3) (.rng1 (.cst (.int 400))) (.cons (.ite (.cmp .ne (.var 2) (.cst (.int 0))) (.cons (.par2 1 2 (.var 2) (.bin .mod (.var 1) (.var 2))) .nil) .nil) .nil)) .nil))) (.cons (.ret (.var 1)) .nil))
-- k00 k02 k03 k05 k06 k07 k08 k09
def b__law_det : SL := .cons (.asg 1 (.bin .mul (.ix (.ix (.var 0) (.cst (.int 0))) (.cst (.int 0))) (.bin .sub (.bin .mul (.ix (.ix (.var 0) (.cst (.int 1))) (.cst (.int 1))) (.ix (.ix (.var 0) (.cst (.int 2))) (.cst (.int 2)))) (.bin .mul (.ix (.ix (.var 0) (.cst (.int 1))) (.cst (.int 2))) (.ix (.ix (.var 0) (.cst (.int 2))) (.cst (.int 1))))))) (.cons (.asg 2 (.bin .mul (.ix (.ix (.var 0) (.cst (.int 0))) (.cst (.int 1))) (.bin .sub (.bin .mul (.ix (.ix (.var 0) (.cst (.int 1))) (.cst (.int 0))) (.ix (.ix (.var 0) (.cst (.int 2))) (.cst (.int 2)))) (.bin .mul (.ix (.ix (.var 0) (.cst (.int 1))) (.cst (.int 2))) (.ix (.ix (.var 0) (.cst (.int 2))) (.cst (.int 0))))))) (.cons (.ret (.bin .add (.bin .sub (.var 1) (.var 2)) (.bin .mul (.ix (.ix (.var 0) (.cst (.int 0))) (.cst (.int 2))) (.bin .sub (.bin .mul (.ix (.ix (.var 0) (.cst (.int 1))) (.cst (.int 0))) (.ix (.ix (.var 0) (.cst (.int 2))) (.cst (.int 1)))) (.bin .mul (.ix (.ix (.var 0) (.cst (.int 1))) (.cst (.int 1))) (.ix (.ix (.var 0) (.cst (.int 2))) (.cst (.int 0)))))))) .nil))
-- k00 k02 k03 k04 k05 k06 k07 k08 k09 k10 k11 k12 k13 k14 k15
def b__law_draws : SL := .cons (.asg 2 (.lst .nil)) (.cons (.asg 3 (.cst (.int 7))) (.cons (.forS (.name 4) (.of (.sl (.var 0) .none (.some (.cst (.int 63))))) (.cons (.asg 5 (.bi .abs (.cons (.var 4) .nil))) (.cons (.asg 3 (.bin .mod (.bi .int (.cons (.bin .add (.bin .add (.bin .mul (.var 3) (.cst (.int 48271))) (.var 5)) (.cst (.int 11))) .nil)) (.cst (.int 2147483647)))) (.cons (.ite (.cmp .ge (.var 5) (.bin .pow (.cst (.int 10)) (.cst (.int 18)))) (.cons (.forS (.name 6) (.rng1 (.cst (.int 60))) (.cons (.ite (.cmp .gt (.var 5) (.cst (.int 0))) (.cons (.app 2 (.bin .mod (.bi .int (.cons (.var 5) .nil)) (.cst (.int 1009)))) (.cons (.asg 5 (.bin .fdiv (.var 5) (.cst (.int 1009)))) .nil)) .nil) .nil)) .nil) (.cons (.app 2 (.bin .mod (.bin .fdiv (.bi .int (.cons (.bin .add (.bin .mul (.var 3) (.cst (.int 16807))) (.cst (.int 5))) .nil)) (.cst (.int 3))) (.cst (.int 65521)))) .nil)) .nil)))) (.cons (.forS (.name 6) (.rng1 (.var 1)) (.cons (.ite (.cmp .lt (.bi .len (.cons (.var 2) .nil)) (.var 1)) (.cons (.asg 3 (.bin .mod (.bi .int (.cons (.bin .add (.bin .add (.bin .mul (.var 3) (.cst (.int 69621))) (.var 6)) (.cst (.int 1))) .nil)) (.cst (.int 2147483647)))) (.cons (.app 2 (.bin .mod (.bin .fdiv (.bi .int (.cons (.var 3) .nil)) (.cst (.int 7))) (.cst (.int 65521)))) .nil)) .nil) .nil)) (.cons (.ret (.sl (.var 2) .none (.some (.var 1)))) .nil))))
-- k00 k02 k03 k04 k05 k07 k08 k09 k10 k11 k12 k13 k14 k15
def b__law_image : SL := .cons (.ret (.bi .tuple (.cons (.lc (.name 2) (.of (.var 0)) .nil (.bin .add (.bin .add (.bin .mul (.ix (.var 2) (.cst (.int 0))) (.ix (.var 1) (.cst (.int 0)))) (.bin .mul (.ix (.var 2) (.cst (.int 1))) (.ix (.var 1) (.cst (.int 1))))) (.bin .mul (.ix (.var 2) (.cst (.int 2))) (.ix (.var 1) (.cst (.int 2)))))) .nil))) .nil
-- k04 k05 k09 k10 k12 k14 k15
def b__law_inside : SL := .cons (.forS (.name 2) (.rng2 (.cst (.int 1)) (.bin .add (.var 1) (.cst (.int 1)))) (.cons (.forS (.name 3) (.rng1 (.bin .add (.var 2) (.cst (.int 1)))) (.cons (.forS (.name 4) (.rng2 (.neg (.var 2)) (.bin .add (.var 2) (.cst (.int 1)))) (.cons (.forS (.name 5) (.rng2 (.neg (.var 2)) (.bin .add (.var 2) (.cst (.int 1)))) (.cons (.ite (.band (.cons (.cmp .eq (.bi .max (.cons (.var 3) (.cons (.bi .abs (.cons (.var 4) .nil)) (.cons (.bi .abs (.cons (.var 5) .nil)) .nil)))) (.var 2)) (.cons (.cmp .gt (.tup (.cons (.var 3) (.cons (.var 4) (.cons (.var 5) .nil)))) (.tup (.cons (.cst (.int 0)) (.cons (.cst (.int 0)) (.cons (.cst (.int 0)) .nil))))) (.cons (.cmp .lt (.call "_law_product" (.cons (.var 0) (.cons (.tup (.cons (.var 3) (.cons (.var 4) (.cons (.var 5) .nil)))) (.cons (.tup (.cons (.var 3) (.cons (.var 4) (.cons (.var 5) .nil)))) .nil)))) (.cst (.int 0))) .nil)))) (.cons (.ret (.tup (.cons (.var 3) (.cons (.var 4) (.cons (.var 5) .nil))))) .nil) .nil) .nil)) .nil)) .nil)) .nil)) (.cons (.ret (.cst .non)) .nil)
-- k02 k07 k08 k09 k10 k11 k12 k13 k15
def b__law_is_root : SL := .cons (.asg 2 (.call "_law_product" (.cons (.var 0) (.cons (.var 1) (.cons (.var 1) .nil))))) (.cons (.ite (.bor (.cons (.cmp .le (.var 2) (.cst (.int 0))) (.cons (.cmp .ne (.call "_law_common" (.cons (.var 1) .nil)) (.cst (.int 1))) .nil))) (.cons (.ret (.cst (.bl false))) .nil) .nil) (.cons (.ret (.bi .all (.cons (.lc (.name 3) (.of (.call "_law_image" (.cons (.var 0) (.cons (.var 1) .nil)))) .nil (.cmp .eq (.bin .mod (.bin .mul (.cst (.int 2)) (.var 3)) (.var 2)) (.cst (.int 0)))) .nil))) .nil))
-- k07 k09
def b__law_last : SL := .cons (.asgT [1, 2] (.tup (.cons (.call "_law_det" (.cons (.var 0) .nil)) (.cons (.call "_law_adjoint" (.cons (.var 0) .nil)) .nil)))) (.cons (.forS (.name 3) (.rng2 (.cst (.int 1)) (.cst (.int 501))) (.cons (.ite (.bi .all (.cons (.lc (.name 4) (.rng1 (.cst (.int 9))) .nil (.cmp .eq (.bin .mod (.bin .mul (.var 3) (.ix (.ix (.var 2) (.bin .fdiv (.var 4) (.cst (.int 3)))) (.bin .mod (.bi .int (.cons (.var 4) .nil)) (.cst (.int 3))))) (.var 1)) (.cst (.int 0)))) .nil)) (.cons (.ret (.var 3)) .nil) .nil) .nil)) (.cons (.ret (.cst (.int 0))) .nil))
-- k02 k03 k04 k05 k06 k07 k08 k09 k10 k11 k12 k13 k15
def b__law_menu : SL := .cons (.asg 0 (.lst (.cons (.tup (.cons (.cst (.int 1)) (.cons (.cst (.int 0)) (.cons (.cst (.int 0)) (.cons (.cst (.int 1)) (.cons (.cst (.int 0)) (.cons (.neg (.cst (.int 1))) .nil))))))) (.cons (.tup (.cons (.cst (.int 1)) (.cons (.cst (.int 0)) (.cons (.cst (.int 0)) (.cons (.cst (.int 1)) (.cons (.cst (.int 0)) (.cons (.neg (.cst (.int 2))) .nil))))))) (.cons (.tup (.cons (.cst (.int 1)) (.cons (.cst (.int 0)) (.cons (.cst (.int 0)) (.cons (.cst (.int 1)) (.cons (.cst (.int 0)) (.cons (.neg (.cst (.int 3))) .nil))))))) (.cons (.tup (.cons (.cst (.int 1)) (.cons (.cst (.int 0)) (.cons (.cst (.int 0)) (.cons (.cst (.int 2)) (.cons (.cst (.int 0)) (.cons (.neg (.cst (.int 1))) .nil))))))) (.cons (.tup (.cons (.cst (.int 1)) (.cons (.cst (.int 0)) (.cons (.cst (.int 0)) (.cons (.cst (.int 1)) (.cons (.cst (.int 0)) (.cons (.neg (.cst (.int 5))) .nil))))))) (.cons (.tup (.cons (.cst (.int 1)) (.cons (.cst (.int 0)) (.cons (.cst (.int 0)) (.cons (.cst (.int 3)) (.cons (.cst (.int 0)) (.cons (.neg (.cst (.int 1))) .nil))))))) .nil)))))))) (.cons (.asg 0 (.bin .add (.var 0) (.lst (.cons (.tup (.cons (.cst (.int 2)) (.cons (.cst (.int 0)) (.cons (.cst (.int 0)) (.cons (.cst (.int 3)) (.cons (.cst (.int 0)) (.cons (.neg (.cst (.int 1))) .nil))))))) (.cons (.tup (.cons (.cst (.int 2)) (.cons (.cst (.int 1)) (.cons (.cst (.int 0)) (.cons (.cst (.int 2)) (.cons (.cst (.int 0)) (.cons (.neg (.cst (.int 1))) .nil))))))) (.cons (.tup (.cons (.cst (.int 2)) (.cons (.cst (.int 1)) (.cons (.cst (.int 0)) (.cons (.cst (.int 2)) (.cons (.cst (.int 0)) (.cons (.neg (.cst (.int 3))) .nil))))))) (.cons (.tup (.cons (.cst (.int 0)) (.cons (.cst (.int 1)) (.cons (.cst (.int 0)) (.cons (.cst (.int 0)) (.cons (.cst (.int 0)) (.cons (.cst (.int 1)) .nil))))))) (.cons (.tup (.cons (.cst (.int 0)) (.cons (.cst (.int 1)) (.cons (.cst (.int 0)) (.cons (.cst (.int 0)) (.cons (.cst (.int 0)) (.cons (.cst (.int 2)) .nil))))))) (.cons (.tup (.cons (.cst (.int 1)) (.cons (.cst (.int 0)) (.cons (.cst (.int 0)) (.cons (.cst (.int 6)) (.cons (.cst (.int 0)) (.cons (.neg (.cst (.int 7))) .nil))))))) .nil))))))))) (.cons (.asg 0 (.bin .add (.var 0) (.lst (.cons (.tup (.cons (.cst (.int 2)) (.cons (.cst (.int 1)) (.cons (.cst (.int 0)) (.cons (.cst (.int 4)) (.cons (.cst (.int 0)) (.cons (.neg (.cst (.int 1))) .nil))))))) (.cons (.tup (.cons (.cst (.int 2)) (.cons (.cst (.int 1)) (.cons (.cst (.int 1)) (.cons (.neg (.cst (.int 3))) (.cons (.cst (.int 0)) (.cons (.cst (.int 2)) .nil))))))) (.cons (.tup (.cons (.cst (.int 3)) (.cons (.cst (.int 1)) (.cons (.neg (.cst (.int 1))) (.cons (.cst (.int 5)) (.cons (.cst (.int 2)) (.cons (.neg (.cst (.int 23))) .nil))))))) (.cons (.tup (.cons (.cst (.int 1)) (.cons (.cst (.int 0)) (.cons (.cst (.int 0)) (.cons (.cst (.int 10)) (.cons (.cst (.int 0)) (.cons (.neg (.cst (.int 10))) .nil))))))) (.cons (.tup (.cons (.cst (.int 4)) (.cons (.cst (.int 2)) (.cons (.cst (.int 0)) (.cons (.cst (.int 4)) (.cons (.cst (.int 0)) (.cons (.neg (.cst (.int 6))) .nil))))))) (.cons (.tup (.cons (.cst (.int 0)) (.cons (.cst (.int 0)) (.cons (.cst (.int 3)) (.cons (.cst (.int 5)) (.cons (.cst (.int 0)) (.cons (.cst (.int 0)) .nil))))))) .nil))))))))) (.cons (.asg 1 (.lst .nil)) (.cons (.forS (.tup [2, 3, 4, 5, 6, 7]) (.of (.var 0)) (.cons (.app 1 (.tup (.cons (.tup (.cons (.var 2) (.cons (.var 3) (.cons (.var 4) .nil)))) (.cons (.tup (.cons (.var 3) (.cons (.var 5) (.cons (.var 6) .nil)))) (.cons (.tup (.cons (.var 4) (.cons (.var 6) (.cons (.var 7) .nil)))) .nil))))) .nil)) (.cons (.ret (.var 1)) .nil)))))
-- k02 k03 k04 k05 k07 k08 k09 k10 k11 k12 k13 k14 k15
def b__law_product : SL := .cons (.asg 3 (.call "_law_image" (.cons (.var 0) (.cons (.var 2) .nil)))) (.cons (.ret (.bin .add (.bin .add (.bin .mul (.ix (.var 1) (.cst (.int 0))) (.ix (.var 3) (.cst (.int 0)))) (.bin .mul (.ix (.var 1) (.cst (.int 1))) (.ix (.var 3) (.cst (.int 1))))) (.bin .mul (.ix (.var 1) (.cst (.int 2))) (.ix (.var 3) (.cst (.int 2)))))) .nil)
-- k00 k02 k03 k05 k08 k09 k10 k12 k15
def b__law_row : SL := .cons (.ret (.bi .tuple (.cons (.lc (.name 2) (.rng1 (.cst (.int 3))) .nil (.bin .sub (.bin .mod (.bi .int (.cons (.ix (.var 0) (.var 2)) .nil)) (.bin .add (.bin .mul (.cst (.int 2)) (.var 1)) (.cst (.int 1)))) (.var 1))) .nil))) .nil
-- k00 k02 k03 k04 k05 k06 k07 k08 k09 k10 k11 k12 k13 k14 k15
def b__law_steps : SL := .cons (.asg 2 (.tup (.cons (.tup (.cons (.cst (.int 1)) (.cons (.cst (.int 0)) (.cons (.cst (.int 0)) .nil)))) (.cons (.tup (.cons (.cst (.int 0)) (.cons (.cst (.int 1)) (.cons (.cst (.int 0)) .nil)))) (.cons (.tup (.cons (.cst (.int 0)) (.cons (.cst (.int 0)) (.cons (.cst (.int 1)) .nil)))) .nil))))) (.cons (.forS (.name 3) (.rng1 (.var 1)) (.cons (.asgT [4, 5] (.ix (.lst (.cons (.tup (.cons (.cst (.int 0)) (.cons (.cst (.int 1)) .nil))) (.cons (.tup (.cons (.cst (.int 0)) (.cons (.cst (.int 2)) .nil))) (.cons (.tup (.cons (.cst (.int 1)) (.cons (.cst (.int 0)) .nil))) (.cons (.tup (.cons (.cst (.int 1)) (.cons (.cst (.int 2)) .nil))) (.cons (.tup (.cons (.cst (.int 2)) (.cons (.cst (.int 0)) .nil))) (.cons (.tup (.cons (.cst (.int 2)) (.cons (.cst (.int 1)) .nil))) .nil))))))) (.bin .mod (.bi .int (.cons (.ix (.var 0) (.var 3)) .nil)) (.cst (.int 6))))) (.cons (.asg 6 (.lst2 (.cons (.lst (.cons (.cst (.int 1)) (.cons (.cst (.int 0)) (.cons (.cst (.int 0)) .nil)))) (.cons (.lst (.cons (.cst (.int 0)) (.cons (.cst (.int 1)) (.cons (.cst (.int 0)) .nil)))) (.cons (.lst (.cons (.cst (.int 0)) (.cons (.cst (.int 0)) (.cons (.cst (.int 1)) .nil)))) .nil))))) (.cons (.setIx2 6 (.var 4) (.var 5) (.ix (.lst (.cons (.cst (.int 1)) (.cons (.neg (.cst (.int 1))) (.cons (.cst (.int 2)) (.cons (.neg (.cst (.int 1))) .nil))))) (.bin .mod (.bi .int (.cons (.bin .fdiv (.ix (.var 0) (.var 3)) (.cst (.int 6))) .nil)) (.cst (.int 4))))) (.cons (.asg 2 (.call "_law_times" (.cons (.var 2) (.cons (.bi .tuple (.cons (.lc (.name 7) (.of (.var 6)) .nil (.bi .tuple (.cons (.var 7) .nil))) .nil)) .nil)))) .nil))))) (.cons (.ret (.var 2)) .nil))
-- k02 k03 k04 k05 k06 k07 k08 k09 k10 k11 k12 k13 k15
def b__law_table : SL := .cons (.asg 1 (.call "_law_menu" .nil)) (.cons (.asg 2 (.ix (.var 1) (.bin .mod (.bi .int (.cons (.ix (.var 0) (.cst (.int 0))) .nil)) (.bi .len (.cons (.var 1) .nil))))) (.cons (.asg 3 (.call "_law_steps" (.cons (.sl (.var 0) (.some (.cst (.int 1))) .none) (.cons (.bin .mod (.bi .int (.cons (.bin .fdiv (.ix (.var 0) (.cst (.int 0))) (.cst (.int 20))) .nil)) (.cst (.int 4))) .nil)))) (.cons (.asg 4 (.call "_law_times" (.cons (.call "_law_turned" (.cons (.var 3) .nil)) (.cons (.call "_law_times" (.cons (.var 2) (.cons (.var 3) .nil))) .nil)))) (.cons (.ite (.cmp .gt (.bi .max (.cons (.lc (.name 5) (.of (.var 4)) .nil (.bi .max (.cons (.lc (.name 6) (.of (.var 5)) .nil (.bi .abs (.cons (.var 6) .nil))) .nil))) .nil)) (.cst (.int 1000))) (.cons (.ret (.var 2)) .nil) .nil) (.cons (.ret (.var 4)) .nil)))))
-- k00 k02 k03 k04 k05 k06 k07 k08 k09 k10 k11 k12 k13 k14 k15
def b__law_times : SL := .cons (.asg 2 (.lst .nil)) (.cons (.forS (.name 3) (.rng1 (.cst (.int 3))) (.cons (.app 2 (.bi .tuple (.cons (.lc (.name 4) (.rng1 (.cst (.int 3))) .nil (.bin .add (.bin .add (.bin .mul (.ix (.ix (.var 0) (.var 3)) (.cst (.int 0))) (.ix (.ix (.var 1) (.cst (.int 0))) (.var 4))) (.bin .mul (.ix (.ix (.var 0) (.var 3)) (.cst (.int 1))) (.ix (.ix (.var 1) (.cst (.int 1))) (.var 4)))) (.bin .mul (.ix (.ix (.var 0) (.var 3)) (.cst (.int 2))) (.ix (.ix (.var 1) (.cst (.int 2))) (.var 4))))) .nil))) .nil)) (.cons (.ret (.bi .tuple (.cons (.var 2) .nil))) .nil))
-- k02 k03 k04 k05 k06 k07 k08 k09 k10 k11 k12 k13 k14 k15
def b__law_turned : SL := .cons (.ret (.bi .tuple (.cons (.lc (.name 1) (.rng1 (.cst (.int 3))) .nil (.tup (.cons (.ix (.ix (.var 0) (.cst (.int 0))) (.var 1)) (.cons (.ix (.ix (.var 0) (.cst (.int 1))) (.var 1)) (.cons (.ix (.ix (.var 0) (.cst (.int 2))) (.var 1)) .nil))))) .nil))) .nil
-- k08 k10 k11 k13 k15
def b__look_at : SL := .cons (.ite (.bnot (.call "is_root" (.cons (.var 0) (.cons (.var 1) .nil)))) (.cons (.rai "BadRoot") .nil) .nil) .nil
-- k05 k09 k12 k14
def b__shorter : SL := .cons (.ite (.cmp .gt (.meth "norm" (.var 0) (.cons (.var 1) .nil)) (.meth "norm" (.var 0) (.cons (.var 2) .nil))) (.cons (.par2 1 2 (.var 2) (.var 1)) .nil) .nil) (.cons (.whl (.cst (.bl true)) (.cons (.asg 3 (.meth "norm" (.var 0) (.cons (.var 1) .nil))) (.cons (.asg 2 (.call "_added" (.cons (.var 2) (.cons (.neg (.bin .fdiv (.bin .add (.bin .mul (.cst (.int 2)) (.meth "product" (.var 0) (.cons (.var 1) (.cons (.var 2) .nil)))) (.var 3)) (.bin .mul (.cst (.int 2)) (.var 3)))) (.cons (.var 1) .nil))))) (.cons (.ite (.cmp .ge (.meth "norm" (.var 0) (.cons (.var 2) .nil)) (.var 3)) (.cons (.ret (.tup (.cons (.var 1) (.cons (.var 2) .nil)))) .nil) .nil) (.cons (.par2 1 2 (.var 2) (.var 1)) .nil))))) .nil)
-- k05 k09 k12 k14
def b__solved : SL := .cons (.ite (.band (.cons (.cmp .eq (.ix (.var 0) (.cst (.int 0))) (.cst (.int 0))) (.cons (.cmp .eq (.ix (.var 0) (.cst (.int 1))) (.cst (.int 0))) .nil))) (.cons (.ret (.ife (.cmp .ne (.bin .mod (.var 1) (.ix (.var 0) (.cst (.int 2)))) (.cst (.int 0))) (.cst .non) (.tup (.cons (.tup (.cons (.cst (.int 0)) (.cons (.cst (.int 0)) (.cons (.bin .fdiv (.var 1) (.ix (.var 0) (.cst (.int 2)))) .nil)))) (.cons (.tup (.cons (.cst (.int 1)) (.cons (.cst (.int 0)) (.cons (.cst (.int 0)) .nil)))) (.cons (.tup (.cons (.cst (.int 0)) (.cons (.cst (.int 1)) (.cons (.cst (.int 0)) .nil)))) .nil)))))) .nil) .nil) (.cons (.asgT [2, 3, 4] (.call "_euclid" (.cons (.ix (.var 0) (.cst (.int 0))) (.cons (.ix (.var 0) (.cst (.int 1))) .nil)))) (.cons (.asgT [5, 6, 7] (.call "_euclid" (.cons (.var 2) (.cons (.ix (.var 0) (.cst (.int 2))) .nil)))) (.cons (.ite (.cmp .ne (.bin .mod (.var 1) (.var 5)) (.cst (.int 0))) (.cons (.ret (.cst .non)) .nil) .nil) (.cons (.asg 8 (.bin .fdiv (.var 1) (.var 5))) (.cons (.asg 9 (.tup (.cons (.bin .fdiv (.ix (.var 0) (.cst (.int 1))) (.var 2)) (.cons (.bin .fdiv (.neg (.ix (.var 0) (.cst (.int 0)))) (.var 2)) (.cons (.cst (.int 0)) .nil))))) (.cons (.asg 10 (.tup (.cons (.bin .mul (.neg (.var 3)) (.bin .fdiv (.ix (.var 0) (.cst (.int 2))) (.var 5))) (.cons (.bin .mul (.neg (.var 4)) (.bin .fdiv (.ix (.var 0) (.cst (.int 2))) (.var 5))) (.cons (.bin .fdiv (.var 2) (.var 5)) .nil))))) (.cons (.ret (.tup (.cons (.tup (.cons (.bin .mul (.bin .mul (.var 6) (.var 3)) (.var 8)) (.cons (.bin .mul (.bin .mul (.var 6) (.var 4)) (.var 8)) (.cons (.bin .mul (.var 7) (.var 8)) .nil)))) (.cons (.var 9) (.cons (.var 10) .nil))))) .nil)))))))
-- k05 k09 k12 k14
def b__square_root : SL := .cons (.ite (.cmp .lt (.var 0) (.cst (.int 0))) (.cons (.ret (.cst .non)) .nil) .nil) (.cons (.asg 1 (.bi .isqrt (.cons (.var 0) .nil))) (.cons (.ret (.ife (.cmp .eq (.bin .mul (.var 1) (.var 1)) (.var 0)) (.var 1) (.cst .non))) .nil))
-- k00 k02 k03 k04 k05 k06 k07 k08 k09 k10 k11 k12 k13 k14 k15
def b_adjoint : SL := .cons (.ret (.call "transposed" (.cons (.tup (.cons (.call "cross" (.cons (.ix (.var 0) (.cst (.int 1))) (.cons (.ix (.var 0) (.cst (.int 2))) .nil))) (.cons (.call "cross" (.cons (.ix (.var 0) (.cst (.int 2))) (.cons (.ix (.var 0) (.cst (.int 0))) .nil))) (.cons (.call "cross" (.cons (.ix (.var 0) (.cst (.int 0))) (.cons (.ix (.var 0) (.cst (.int 1))) .nil))) .nil)))) .nil))) .nil
-- k00 k02 k03 k04 k05 k06 k07 k08 k09 k10 k11 k12 k13 k14 k15
def b_cross : SL := .cons (.ret (.tup (.cons (.bin .sub (.bin .mul (.ix (.var 0) (.cst (.int 1))) (.ix (.var 1) (.cst (.int 2)))) (.bin .mul (.ix (.var 0) (.cst (.int 2))) (.ix (.var 1) (.cst (.int 1))))) (.cons (.bin .sub (.bin .mul (.ix (.var 0) (.cst (.int 2))) (.ix (.var 1) (.cst (.int 0)))) (.bin .mul (.ix (.var 0) (.cst (.int 0))) (.ix (.var 1) (.cst (.int 2))))) (.cons (.bin .sub (.bin .mul (.ix (.var 0) (.cst (.int 0))) (.ix (.var 1) (.cst (.int 1)))) (.bin .mul (.ix (.var 0) (.cst (.int 1))) (.ix (.var 1) (.cst (.int 0))))) .nil))))) .nil
-- k00 k02 k03 k04 k05 k06 k07 k08 k09 k10 k11 k12 k13 k14 k15
def b_determinant_of : SL := .cons (.asg 1 (.call "cross" (.cons (.ix (.var 0) (.cst (.int 1))) (.cons (.ix (.var 0) (.cst (.int 2))) .nil)))) (.cons (.ret (.bin .add (.bin .add (.bin .mul (.ix (.ix (.var 0) (.cst (.int 0))) (.cst (.int 0))) (.ix (.var 1) (.cst (.int 0)))) (.bin .mul (.ix (.ix (.var 0) (.cst (.int 0))) (.cst (.int 1))) (.ix (.var 1) (.cst (.int 1))))) (.bin .mul (.ix (.ix (.var 0) (.cst (.int 0))) (.cst (.int 2))) (.ix (.var 1) (.cst (.int 2)))))) .nil)
-- k00 k02 k03 k04 k05 k06 k07 k08 k09 k10 k11 k12 k13 k14 k15
def b_image : SL := .cons (.ret (.bi .tuple (.cons (.lc (.name 2) (.of (.var 0)) .nil (.bin .add (.bin .add (.bin .mul (.ix (.var 2) (.cst (.int 0))) (.ix (.var 1) (.cst (.int 0)))) (.bin .mul (.ix (.var 2) (.cst (.int 1))) (.ix (.var 1) (.cst (.int 1))))) (.bin .mul (.ix (.var 2) (.cst (.int 2))) (.ix (.var 1) (.cst (.int 2)))))) .nil))) .nil
-- k00 k03
def b_inverse_of : SL := .cons (.asg 1 (.call "determinant_of" (.cons (.var 0) .nil))) (.cons (.ite (.cmp .nin (.var 1) (.tup (.cons (.cst (.int 1)) (.cons (.neg (.cst (.int 1))) .nil)))) (.cons (.rai "BadMatrix") .nil) .nil) (.cons (.ret (.bi .tuple (.cons (.lc (.name 2) (.of (.call "adjoint" (.cons (.var 0) .nil))) .nil (.bi .tuple (.cons (.lc (.name 3) (.of (.var 2)) .nil (.bin .mul (.var 1) (.var 3))) .nil))) .nil))) .nil))
-- k04 k05 k09 k10 k12 k14
def b_is_inside : SL := .cons (.ret (.cmp .lt (.meth "norm" (.var 0) (.cons (.var 1) .nil)) (.cst (.int 0)))) .nil
-- k02 k03 k04 k05 k06 k07 k08 k09 k10 k11 k12 k13 k14 k15
def b_is_integer : SL := .cons (.ret (.band (.cons (.isi (.var 0) "int") (.cons (.bnot (.isi (.var 0) "bool")) .nil)))) .nil
-- k07 k08 k10 k11 k13 k14 k15
def b_is_root : SL := .cons (.ite (.bor (.cons (.bnot (.isi (.var 1) "tuple")) (.cons (.cmp .ne (.bi .len (.cons (.var 1) .nil)) (.cst (.int 3))) (.cons (.bnot (.bi .all (.cons (.lc (.name 2) (.of (.var 1)) .nil (.call "is_integer" (.cons (.var 2) .nil))) .nil))) .nil)))) (.cons (.ret (.cst (.bl false))) .nil) .nil) (.cons (.ret (.call "_is_root" (.cons (.var 0) (.cons (.var 1) .nil)))) .nil)
-- k07 k09 k12 k14
def b_kinds : SL := .cons (.ret (.lc (.name 1) (.rng2 (.cst (.int 1)) (.bin .add (.bin .mul (.cst (.int 2)) (.attr (.var 0) "last")) (.cst (.int 1)))) (.cons (.cmp .eq (.bin .mod (.bin .mul (.cst (.int 2)) (.attr (.var 0) "last")) (.var 1)) (.cst (.int 0))) .nil) (.var 1))) .nil
-- k05 k09 k10 k12 k14
def b_look_at_base : SL := .cons (.ite (.bnot (.call "is_inside" (.cons (.var 0) (.cons (.var 1) .nil)))) (.cons (.rai "BadBase") .nil) .nil) .nil
-- k00 k02 k03 k08 k13 k14
def b_matrix_product : SL := .cons (.asg 2 (.call "transposed" (.cons (.var 1) .nil))) (.cons (.ret (.bi .tuple (.cons (.lc (.name 3) (.of (.var 0)) .nil (.bi .tuple (.cons (.lc (.name 4) (.of (.var 2)) .nil (.bin .add (.bin .add (.bin .mul (.ix (.var 3) (.cst (.int 0))) (.ix (.var 4) (.cst (.int 0)))) (.bin .mul (.ix (.var 3) (.cst (.int 1))) (.ix (.var 4) (.cst (.int 1))))) (.bin .mul (.ix (.var 3) (.cst (.int 2))) (.ix (.var 4) (.cst (.int 2)))))) .nil))) .nil))) .nil)
-- k11 k13
def b_meet : SL := .cons (.expr (.call "_look_at" (.cons (.var 0) (.cons (.var 1) .nil)))) (.cons (.expr (.call "_look_at" (.cons (.var 0) (.cons (.var 2) .nil)))) (.cons (.ite (.bor (.cons (.cmp .eq (.var 1) (.var 2)) (.cons (.cmp .eq (.var 1) (.tup (.cons (.neg (.ix (.var 2) (.cst (.int 0)))) (.cons (.neg (.ix (.var 2) (.cst (.int 1)))) (.cons (.neg (.ix (.var 2) (.cst (.int 2)))) .nil))))) .nil))) (.cons (.rai "BadRoot") .nil) .nil) (.cons (.asg 3 (.meth "product" (.var 0) (.cons (.var 1) (.cons (.var 2) .nil)))) (.cons (.asg 4 (.bin .fdiv (.bin .mul (.bin .mul (.cst (.int 4)) (.var 3)) (.var 3)) (.bin .mul (.meth "norm" (.var 0) (.cons (.var 1) .nil)) (.meth "norm" (.var 0) (.cons (.var 2) .nil))))) (.cons (.ret (.ife (.cmp .lt (.var 4) (.bi .len (.cons (.glob "ANGLES") .nil))) (.ix (.glob "ANGLES") (.var 4)) (.cst .non))) .nil)))))
-- k08 k11 k13 k15
def b_reflected : SL := .cons (.expr (.call "_look_at" (.cons (.var 0) (.cons (.var 1) .nil)))) (.cons (.asg 3 (.bin .fdiv (.bin .mul (.cst (.int 2)) (.meth "product" (.var 0) (.cons (.var 1) (.cons (.var 2) .nil)))) (.meth "norm" (.var 0) (.cons (.var 1) .nil)))) (.cons (.ret (.tup (.cons (.bin .sub (.ix (.var 2) (.cst (.int 0))) (.bin .mul (.var 3) (.ix (.var 1) (.cst (.int 0))))) (.cons (.bin .sub (.ix (.var 2) (.cst (.int 1))) (.bin .mul (.var 3) (.ix (.var 1) (.cst (.int 1))))) (.cons (.bin .sub (.ix (.var 2) (.cst (.int 2))) (.bin .mul (.var 3) (.ix (.var 1) (.cst (.int 2))))) .nil))))) .nil))
-- k08 k13
def b_reflection : SL := .cons (.expr (.call "_look_at" (.cons (.var 0) (.cons (.var 1) .nil)))) (.cons (.asg 2 (.lc (.name 3) (.of (.glob "UNITS")) .nil (.call "reflected" (.cons (.var 0) (.cons (.var 1) (.cons (.var 3) .nil)))))) (.cons (.ret (.bi .tuple (.cons (.lc (.name 4) (.rng1 (.cst (.int 3))) .nil (.bi .tuple (.cons (.lc (.name 5) (.of (.var 2)) .nil (.ix (.var 5) (.var 4))) .nil))) .nil))) .nil))
-- k09 k12 k14
def b_roots_at : SL := .cons (.expr (.call "look_at_base" (.cons (.var 0) (.cons (.var 1) .nil)))) (.cons (.ite (.bor (.cons (.bnot (.call "is_integer" (.cons (.var 2) .nil))) (.cons (.cmp .lt (.var 2) (.cst (.int 0))) .nil))) (.cons (.rai "BadNumber") .nil) .nil) (.cons (.asg 3 (.lst .nil)) (.cons (.forS (.name 4) (.of (.call "kinds" (.cons (.var 0) .nil))) (.cons (.ext 3 (.lc (.name 5) (.of (.call "rows_at" (.cons (.var 0) (.cons (.var 1) (.cons (.neg (.var 2)) (.cons (.var 4) .nil)))))) (.cons (.call "_is_root" (.cons (.var 0) (.cons (.var 5) .nil))) .nil) (.var 5))) .nil)) (.cons (.ret (.bi .sorted (.cons (.var 3) .nil))) .nil))))
-- k05 k09 k12 k14
def b_rows_at : SL := .cons (.expr (.call "look_at_base" (.cons (.var 0) (.cons (.var 1) .nil)))) (.cons (.asg 4 (.call "_solved" (.cons (.call "image" (.cons (.attr (.var 0) "table") (.cons (.var 1) .nil))) (.cons (.var 2) .nil)))) (.cons (.ite (.cmp .isN (.var 4) (.cst .non)) (.cons (.ret (.lst .nil)) .nil) .nil) (.cons (.asgT [5, 6, 7] (.var 4)) (.cons (.asgT [6, 7] (.call "_shorter" (.cons (.var 0) (.cons (.var 6) (.cons (.var 7) .nil))))) (.cons (.par3 8 9 10 (.meth "norm" (.var 0) (.cons (.var 6) .nil)) (.meth "product" (.var 0) (.cons (.var 6) (.cons (.var 7) .nil))) (.meth "norm" (.var 0) (.cons (.var 7) .nil))) (.cons (.par3 11 12 13 (.meth "product" (.var 0) (.cons (.var 5) (.cons (.var 6) .nil))) (.meth "product" (.var 0) (.cons (.var 5) (.cons (.var 7) .nil))) (.bin .sub (.meth "norm" (.var 0) (.cons (.var 5) .nil)) (.var 3))) (.cons (.par2 14 15 (.bin .sub (.bin .mul (.var 8) (.var 10)) (.bin .mul (.var 9) (.var 9))) (.bin .sub (.bin .mul (.var 12) (.var 9)) (.bin .mul (.var 10) (.var 11)))) (.cons (.asg 16 (.bin .add (.bin .mul (.var 15) (.var 15)) (.bin .mul (.var 14) (.bin .sub (.bin .mul (.var 12) (.var 12)) (.bin .mul (.var 10) (.var 13)))))) (.cons (.ite (.cmp .lt (.var 16) (.cst (.int 0))) (.cons (.ret (.lst .nil)) .nil) .nil) (.cons (.asg 17 (.lst .nil)) (.cons (.asg 18 (.bi .isqrt (.cons (.var 16) .nil))) (.cons (.forS (.name 19) (.rng2 (.neg (.bin .fdiv (.bin .sub (.var 18) (.var 15)) (.var 14))) (.bin .add (.bin .fdiv (.bin .add (.var 15) (.var 18)) (.var 14)) (.cst (.int 1)))) (.cons (.asg 20 (.bin .add (.var 12) (.bin .mul (.var 9) (.var 19)))) (.cons (.asg 21 (.call "_square_root" (.cons (.bin .sub (.bin .mul (.var 20) (.var 20)) (.bin .mul (.var 10) (.bin .add (.bin .add (.var 13) (.bin .mul (.bin .mul (.cst (.int 2)) (.var 11)) (.var 19))) (.bin .mul (.bin .mul (.var 8) (.var 19)) (.var 19))))) .nil))) (.cons (.ite (.cmp .notN (.var 21) (.cst .non)) (.cons (.forS (.name 22) (.of (.ife (.cmp .eq (.var 21) (.cst (.int 0))) (.lst (.cons (.neg (.var 20)) .nil)) (.lst (.cons (.bin .sub (.var 21) (.var 20)) (.cons (.bin .sub (.neg (.var 21)) (.var 20)) .nil))))) (.cons (.ite (.cmp .eq (.bin .mod (.var 22) (.var 10)) (.cst (.int 0))) (.cons (.app 17 (.call "_added" (.cons (.call "_added" (.cons (.var 5) (.cons (.var 19) (.cons (.var 6) .nil)))) (.cons (.bin .fdiv (.var 22) (.var 10)) (.cons (.var 7) .nil))))) .nil) .nil) .nil)) .nil) .nil) .nil)))) (.cons (.ret (.bi .sorted (.cons (.var 17) .nil))) .nil)))))))))))))
-- k00 k02 k03 k04 k05 k06 k07 k08 k09 k10 k11 k12 k13 k14 k15
def b_transposed : SL := .cons (.ret (.bi .tuple (.cons (.lc (.name 1) (.rng1 (.cst (.int 3))) .nil (.bi .tuple (.cons (.lc (.name 2) (.of (.var 0)) .nil (.ix (.var 2) (.var 1))) .nil))) .nil))) .nil
end CM

set_option Elab.async false
set_option linter.all false
set_option maxRecDepth 100000
set_option maxHeartbeats 4000000
namespace CM
open PySem PySem.Spec PyProof.Rows L2 PF
variable {G : Tb} {T : Ft}
theorem o_image (F : FtOk G T) : ∀ ds p, ds.length = 2 → cImage ds = some p → p.2 → ∀ P : Po, (∀ env, P.rt p.1 env) → evSs G b_image (ds.map Sl.fz ++ List.replicate 1 .no) P := by
  intro ds p hn h hp P q
  obtain ⟨a, b, m, r, rfl, h1, h2, rfl⟩ := c2_by (k := fun m r => (dR (im m r), SmM 400000 m ∧ SmR 400000 r)) (fun _ _ => rfl) hn h
  rw [rdM_ok h1, rdR_ok h2]
  obtain ⟨⟨⟨m1, m2, m3⟩, ⟨m4, m5, m6⟩, ⟨m7, m8, m9⟩⟩, ⟨r1, r2, r3⟩⟩ := hp
  refine x_one (x_ret F rfl ?_ rfl (q _))
  simp only [true_and, and_true]
  and_intros <;> first | exact Sm.cm (by assumption) (by assumption) (by omega) | exact (show 3 ≤ sizeLine by decide)
theorem o__law_image (F : FtOk G T) : ∀ ds p, ds.length = 2 → cImage ds = some p → p.2 → ∀ P : Po, (∀ env, P.rt p.1 env) → evSs G b__law_image (ds.map Sl.fz ++ List.replicate 1 .no) P := o_image F
theorem o_cross (F : FtOk G T) : ∀ ds p, ds.length = 2 → cCr ds = some p → p.2 → ∀ P : Po, (∀ env, P.rt p.1 env) → evSs G b_cross (ds.map Sl.fz ++ List.replicate 0 .no) P := by
  intro ds p hn h hp P q
  obtain ⟨a, b, v, w, rfl, h1, h2, rfl⟩ := c2_by (k := fun m r => (dR (cr m r), SmR 400000 m ∧ SmR 400000 r)) (fun _ _ => rfl) hn h
  rw [rdR_ok h1, rdR_ok h2]
  obtain ⟨⟨m1, m2, m3⟩, ⟨r1, r2, r3⟩⟩ := hp
  refine x_one (x_ret F rfl ?_ rfl (q _))
  simp only [true_and, and_true]
  and_intros <;> first | exact Sm.cm (by assumption) (by assumption) (by omega) | exact (show 3 ≤ sizeLine by decide)
theorem o_transposed (F : FtOk G T) : ∀ ds p, ds.length = 1 → cTp ds = some p → p.2 → ∀ P : Po, (∀ env, P.rt p.1 env) → evSs G b_transposed (ds.map Sl.fz ++ List.replicate 2 .no) P := by
  intro ds p hn h hp P q
  obtain ⟨a, m, rfl, h1, rfl⟩ := c1_by (k := fun m => (dM (tp m), True)) (fun _ => rfl) hn h
  rw [rdM_ok h1]
  refine x_one (x_ret F rfl ?_ rfl (q _))
  simp only [true_and, and_true]
  and_intros <;> first | omega | exact (show 3 ≤ sizeLine by decide)
theorem o_matrix_product (F : FtOk G T) (ht : T.fn "transposed" = some (fun ds => if ds.length = 1 then cTp ds else none)) : ∀ ds p, ds.length = 2 → cMm ds = some p → p.2 → ∀ P : Po, (∀ env, P.rt p.1 env) → evSs G b_matrix_product (ds.map Sl.fz ++ List.replicate 3 .no) P := by
  intro ds p hn h hp P q
  obtain ⟨a, b, m, r, rfl, h1, h2, rfl⟩ := c2_by (k := fun m r => (dM (mm m r), SmM 400000 m ∧ SmM 400000 r)) (fun _ _ => rfl) hn h
  rw [rdM_ok h1, rdM_ok h2]
  obtain ⟨⟨⟨m1, m2, m3⟩, ⟨m4, m5, m6⟩, ⟨m7, m8, m9⟩⟩, ⟨⟨r1, r2, r3⟩, ⟨r4, r5, r6⟩, ⟨r7, r8, r9⟩⟩⟩ := hp
  have hcall : evP T (.call "transposed" (.cons (.var 1) .nil)) [.fz (dM m), .fz (dM r), .no, .no, .no] = some (.d (dM (tp r)), (True ∧ True) ∧ True) := by
    simp only [evP, evQ, ht]; rfl
  refine x_seq (x_asg F hcall ⟨⟨trivial, trivial⟩, trivial⟩ ?_)
  refine x_one (x_ret F rfl ?_ rfl (q _))
  simp only [true_and, and_true]
  and_intros <;> first | exact Sm.cm (by assumption) (by assumption) (by omega) | exact (show 3 ≤ sizeLine by decide)
theorem o_determinant_of (F : FtOk G T) (ht : T.fn "cross" = some (fun ds => if ds.length = 2 then cCr ds else none)) : ∀ ds p, ds.length = 1 → cDet ds = some p → p.2 → ∀ P : Po, (∀ env, P.rt p.1 env) → evSs G b_determinant_of (ds.map Sl.fz ++ List.replicate 1 .no) P := by
  intro ds p hn h hp P q
  obtain ⟨a, m, rfl, h1, rfl⟩ := c1_by (k := fun m => (.int (det3 m), SmM 190000 m)) (fun _ => rfl) hn h
  rw [rdM_ok h1]
  have hp' := hp
  obtain ⟨⟨m1, m2, m3⟩, ⟨m4, m5, m6⟩, ⟨m7, m8, m9⟩⟩ := hp'
  obtain ⟨k1, k2, k3⟩ := sm_cr hp.2.1 hp.2.2
  have hcall : evP T (.call "cross" (.cons (.ix (.var 0) (.cst (.int 1))) (.cons (.ix (.var 0) (.cst (.int 2))) .nil))) [.fz (dM m), .no] = some (.d (dR (cr m.2.1 m.2.2)), ((True ∧ True) ∧ (True ∧ True) ∧ True) ∧ (SmR 400000 m.2.1 ∧ SmR 400000 m.2.2)) := by
    simp only [evP, evQ, ht]; rfl
  refine x_seq (x_asg F hcall ⟨⟨⟨trivial, trivial⟩, ⟨trivial, trivial⟩, trivial⟩, hp.2.1.up (by omega), hp.2.2.up (by omega)⟩ ?_)
  refine x_one (x_ret F rfl ?_ rfl (q _))
  simp only [true_and, and_true]
  and_intros <;> exact Sm.cm (by assumption) (by assumption) (by omega)
theorem o__law_det (F : FtOk G T) : ∀ ds p, ds.length = 1 → cDet ds = some p → p.2 → ∀ P : Po, (∀ env, P.rt p.1 env) → evSs G b__law_det (ds.map Sl.fz ++ List.replicate 2 .no) P := by
  intro ds p hn h hp P q
  obtain ⟨a, m, rfl, h1, rfl⟩ := c1_by (k := fun m => (.int (det3 m), SmM 190000 m)) (fun _ => rfl) hn h
  rw [rdM_ok h1]
  obtain ⟨⟨m1, m2, m3⟩, ⟨m4, m5, m6⟩, ⟨m7, m8, m9⟩⟩ := hp
  have cm : ∀ {i j k l : Int}, Sm 190000 i → Sm 190000 j → Sm 190000 k → Sm 190000 l → Sm 380001 (i * j - k * l) := fun a b c d => ((a.mul b).sub (c.mul d)).up (by omega)
  have e1 := cm m5 m9 m6 m8
  have e2 := cm m4 m9 m6 m7
  have e3 := cm m4 m8 m5 m7
  refine x_seq (x_asg F rfl ?_ ?_)
  · simp only [true_and, and_true]
    and_intros <;> exact Sm.cm (by assumption) (by assumption) (by omega)
  refine x_seq (x_asg F rfl ?_ ?_)
  · simp only [true_and, and_true]
    and_intros <;> exact Sm.cm (by assumption) (by assumption) (by omega)
  have hd : det3 m = m.1.1 * (m.2.1.2.1 * m.2.2.2.2 - m.2.1.2.2 * m.2.2.2.1) - m.1.2.1 * (m.2.1.1 * m.2.2.2.2 - m.2.1.2.2 * m.2.2.1) + m.1.2.2 * (m.2.1.1 * m.2.2.2.1 - m.2.1.2.1 * m.2.2.1) := by
    unfold det3 dot cr; grind
  rw [hd] at q
  refine x_one (x_ret F rfl ?_ rfl (q _))
  simp only [true_and, and_true]
  and_intros <;> exact Sm.cm (by assumption) (by assumption) (by omega)
theorem o_adjoint (F : FtOk G T) (hc : T.fn "cross" = some (fun ds => if ds.length = 2 then cCr ds else none)) (ht : T.fn "transposed" = some (fun ds => if ds.length = 1 then cTp ds else none)) : ∀ ds p, ds.length = 1 → cAdj ds = some p → p.2 → ∀ P : Po, (∀ env, P.rt p.1 env) → evSs G b_adjoint (ds.map Sl.fz ++ List.replicate 0 .no) P := by
  intro ds p hn h hp P q
  obtain ⟨a, m, rfl, h1, rfl⟩ := c1_by (k := fun m => (dM (adj m), SmM 400000 m)) (fun _ => rfl) hn h
  rw [rdM_ok h1]
  have e : ∃ c, evP T (match b_adjoint with | .cons (.ret e) _ => e | _ => .cst .non) [.fz (dM m)] = some (.d (dM (adj m)), c) ∧ c := by
    refine ⟨_, by simp only [b_adjoint, evP, evQ, evPM, hc, ht]; rfl, ?_⟩
    simp only [true_and, and_true]
    obtain ⟨⟨m1, m2, m3⟩, ⟨m4, m5, m6⟩, ⟨m7, m8, m9⟩⟩ := hp
    and_intros <;> first | assumption | exact (show 3 ≤ sizeLine by decide)
  obtain ⟨c, e1, e2⟩ := e
  exact x_one (x_ret F e1 e2 rfl (q _))
theorem o__law_times (F : FtOk G T) : ∀ ds p, ds.length = 2 → cMm ds = some p → p.2 → ∀ P : Po, (∀ env, P.rt p.1 env) → evSs G b__law_times (ds.map Sl.fz ++ List.replicate 3 .no) P := by
  intro ds p hn h hp P q
  obtain ⟨a, b, m, r, rfl, h1, h2, rfl⟩ := c2_by (k := fun m r => (dM (mm m r), SmM 400000 m ∧ SmM 400000 r)) (fun _ _ => rfl) hn h
  rw [rdM_ok h1, rdM_ok h2]
  obtain ⟨⟨⟨m1, m2, m3⟩, ⟨m4, m5, m6⟩, ⟨m7, m8, m9⟩⟩, ⟨⟨r1, r2, r3⟩, ⟨r4, r5, r6⟩, ⟨r7, r8, r9⟩⟩⟩ := hp
  refine x_seq (x_asg F rfl ⟨trivial, Nat.zero_le _⟩ ?_)
  refine x_seq (x_for F rfl ⟨trivial, by omega, by omega⟩ ?_)
  have hl : ∀ k : Nat, k ≤ 3 → k < sizeLine := fun k hk => Nat.lt_of_le_of_lt hk (by decide)
  refine ⟨_, rfl, x_one (x_app F rfl rfl ?_ rfl (hl 0 (by omega)) ?_)⟩
  · simp only [true_and, and_true]
    and_intros <;> first | exact Sm.cm (by assumption) (by assumption) (by omega) | exact (show 3 ≤ sizeLine by decide) | omega
  refine ⟨_, rfl, x_one (x_app F rfl rfl ?_ rfl (hl 1 (by omega)) ?_)⟩
  · simp only [true_and, and_true]
    and_intros <;> first | exact Sm.cm (by assumption) (by assumption) (by omega) | exact (show 3 ≤ sizeLine by decide) | omega
  refine ⟨_, rfl, x_one (x_app F rfl rfl ?_ rfl (hl 2 (by omega)) ?_)⟩
  · simp only [true_and, and_true]
    and_intros <;> first | exact Sm.cm (by assumption) (by assumption) (by omega) | exact (show 3 ≤ sizeLine by decide) | omega
  exact x_one (x_ret F rfl ⟨⟨trivial, trivial⟩, trivial⟩ rfl (q _))
def inv3 (m : M3) : M3 := ((det3 m * (adj m).1.1, det3 m * (adj m).1.2.1, det3 m * (adj m).1.2.2), (det3 m * (adj m).2.1.1, det3 m * (adj m).2.1.2.1, det3 m * (adj m).2.1.2.2), (det3 m * (adj m).2.2.1, det3 m * (adj m).2.2.2.1, det3 m * (adj m).2.2.2.2))
def cInv : List D → Option ((D ⊕ Str) × Prop)
  | [a] => (rdM a).map fun m => (if det3 m = 1 ∨ det3 m = -1 then .inl (dM (inv3 m)) else .inr "BadMatrix", SmM 100000 m)
  | _ => none
theorem sm_adj {n : Nat} {m : M3} (h : SmM n m) : SmM (n + n + 1) (adj m) := sm_tp ⟨sm_cr h.2.1 h.2.2, sm_cr h.2.2 h.1, sm_cr h.1 h.2.1⟩
theorem o_inverse_of (F : FtOk G T) (he : G.exc "BadMatrix" = true) (hd : T.fn "determinant_of" = some (fun ds => if ds.length = 1 then cDet ds else none)) (ha : T.fn "adjoint" = some (fun ds => if ds.length = 1 then cAdj ds else none)) :
    ∀ ds o c, ds.length = 1 → cInv ds = some (o, c) → c → ∀ P : Po, (∀ d env, o = .inl d → P.rt d env) → (∀ e env, o = .inr e → P.er e env) → evSs G b_inverse_of (ds.map Sl.fz ++ List.replicate 3 .no) P := by
  intro ds o c hn h hp P q qe
  match ds, hn with
  | [a], _ =>
    have h' : (rdM a).map (fun m => ((if det3 m = 1 ∨ det3 m = -1 then .inl (dM (inv3 m)) else .inr "BadMatrix" : D ⊕ Str), SmM 100000 m)) = some (o, c) := h
    simp only [Option.map_eq_some_iff] at h'
    obtain ⟨m, h1, h2⟩ := h'
    cases h2
    rw [rdM_ok h1]
    have e1 : evP T (.call "determinant_of" (.cons (.var 0) .nil)) [.fz (dM m), .no, .no, .no] = some (.d (.int (det3 m)), (True ∧ True) ∧ SmM 190000 m) := by
      simp only [evP, evQ, hd]; rfl
    refine x_seq (x_asg F e1 ⟨⟨trivial, trivial⟩, hp.up (by omega)⟩ ?_)
    refine x_seq (x_ite F rfl (by simp only [true_and, and_true]; exact (show 2 ≤ sizeLine by decide)) (fun hb => ?_) (fun hb => ?_))
    · refine x_one (x_rai he (qe _ _ ?_))
      rw [if_neg]
      simp at hb
      omega
    · refine x_done ?_
      have hu : det3 m = 1 ∨ det3 m = -1 := by simp at hb; omega
      have sd : Sm 1 (det3 m) := by unfold Sm; rcases hu with z | z <;> rw [z] <;> decide
      have hq : (if det3 m = 1 ∨ det3 m = -1 then .inl (dM (inv3 m)) else .inr "BadMatrix" : D ⊕ Str) = .inl (dM (inv3 m)) := if_pos hu
      have e2 : ∃ c, evP T (match b_inverse_of with | .cons _ (.cons _ (.cons (.ret e) _)) => e | _ => .cst .non) [.fz (dM m), .fz (.int (det3 m)), .no, .no] = some (.d (dM (inv3 m)), c) ∧ c := by
        refine ⟨_, by simp only [b_inverse_of, evP, evQ, evPL, evPI, evPM, ha]; rfl, ?_⟩
        obtain ⟨⟨m1, m2, m3⟩, ⟨m4, m5, m6⟩, ⟨m7, m8, m9⟩⟩ := sm_adj hp
        have hp4 : SmM 400000 m := hp.up (by omega)
        simp only [true_and, and_true]
        and_intros <;> first | exact Sm.cm sd (by assumption) (by omega) | exact (show 3 ≤ sizeLine by decide) | exact hp4.1.1 | exact hp4.1.2.1 | exact hp4.1.2.2 | exact hp4.2.1.1 | exact hp4.2.1.2.1 | exact hp4.2.1.2.2 | exact hp4.2.2.1 | exact hp4.2.2.2.1 | exact hp4.2.2.2.2
      obtain ⟨c, e2, e3⟩ := e2
      exact x_one (x_ret F e2 e3 rfl (q _ _ hq))
end CM

set_option Elab.async false
set_option linter.all false
set_option maxRecDepth 100000
set_option maxHeartbeats 4000000
namespace CM
open PySem PySem.Spec PyProof.Rows L2 PF
variable {G : Tb} {T : Ft}
theorem cutD_mem {xs : List D} {lo hi : Option Int} {d : D} (h : d ∈ cutD xs lo hi) : d ∈ xs := List.mem_of_mem_drop (List.mem_of_mem_take h)
theorem cutD_len {xs : List D} {lo hi : Option Int} : (cutD xs lo hi).length ≤ xs.length := by
  unfold PF.cutD
  rw [List.length_take, List.length_drop]; omega
theorem cutD_front {xs : List D} {n : Nat} (h : n ≤ xs.length) : cutD xs none (some (n : Int)) = xs.take n := by
  unfold PF.cutD
  have e1 : HT.sIx xs.length 0 none = 0 := rfl
  have e2 : HT.sIx xs.length xs.length (some (n : Int)) = n := by
    unfold HT.sIx
    simp only [show ¬ ((n : Int) < 0) by omega, if_false]
    omega
  rw [e1, e2]; rfl
theorem sm_nat {n : Nat} {x : Int} (h : x.natAbs < 2 ^ n) : Sm n x := h
theorem intsFrom_at : ∀ {n : Nat} {lo : Int} {j : Nat} {d : D}, (intsFrom lo n)[j]? = some d → d = .int (lo + j) ∧ j < n
  | 0, _, _, _, h => by simp [PF.intsFrom] at h
  | n + 1, lo, 0, _, h => by simp [PF.intsFrom] at h; subst h; exact ⟨by simp, by omega⟩
  | n + 1, lo, j + 1, _, h => by
    simp only [PF.intsFrom, List.getElem?_cons_succ] at h
    obtain ⟨h1, h2⟩ := intsFrom_at h
    subst h1
    exact ⟨by congr 1; push_cast; omega, by omega⟩
theorem intsFrom_len : ∀ {n : Nat} {lo : Int}, (intsFrom lo n).length = n
  | 0, _ => rfl
  | n + 1, lo => by simp [PF.intsFrom, intsFrom_len]
def aDraws (a : List Int × Nat) : List D := [.klst (a.1.map D.int), .int a.2]
def rDraws (a : List Int × Nat) (o : D ⊕ Str) : Prop := ∃ f, Dr f ∧ o = .inl (.lst (dsF a.2 f))
theorem o__law_draws (F : FtOk G T) : ∀ a : List Int × Nat, (a.1.length ≤ 63 ∧ a.2 ≤ 1000) → evSs G b__law_draws ((aDraws a).map Sl.fz ++ List.replicate 5 .no) (valPo (fun d => rDraws a (.inl d)) (fun c => rDraws a (.inr c))) := by
  rintro ⟨ns, many⟩ ⟨h1, h2⟩
  dsimp only at h1 h2
  have hz : ∀ n : Nat, n ≤ 5000 → n < sizeLine := fun n h => Nat.lt_of_le_of_lt h (by decide)
  refine x_seq (x_asg F rfl ⟨trivial, Nat.zero_le _⟩ ?_)
  refine x_seq (x_asg F rfl trivial ?_)
  refine x_seq (x_forI F rfl (by simp only [and_self]) (fun k env => ∃ (ds : List D) (s : Int) (x4 x5 x6 : Sl), env = [.fz (.klst (ns.map D.int)), .fz (.int many), .own 0 ds, .fz (.int s), x4, x5, x6] ∧ (∀ d ∈ ds, isDr d) ∧ ds.length ≤ 60 * k ∧ 0 ≤ s ∧ s < 2147483647) ⟨[], 7, .no, .no, .no, rfl, (fun _ m => nomatch m), Nat.le_refl _, by omega, by omega⟩ ?_ ?_)
  · rintro k d env hk ⟨ds, s, x4, x5, x6, rfl, i1, i2, i3, i4⟩
    dsimp only at hk
    have hm := cutD_mem (List.mem_of_getElem? hk)
    rw [List.mem_map] at hm
    obtain ⟨c, -, rfl⟩ := hm
    have hk63 : k < 63 := by
      have a := (List.getElem?_eq_some_iff.mp hk).1
      have b := cutD_len (xs := ns.map D.int) (lo := none) (hi := some 63)
      rw [List.length_map] at b
      exact Nat.lt_of_lt_of_le a (Nat.le_trans b h1)
    clear hk
    refine ⟨_, rfl, x_seq (x_asg F rfl (by simp only [and_self]) ?_)⟩
    have hn : 0 ≤ (if c < 0 then -c else c) := by split <;> omega
    dsimp only [storeE, List.set]
    revert hn
    generalize (if c < 0 then -c else c) = num
    intro hn
    have hs1 : CMulW s 48271 := Sm.cm (a := 31) (b := 16) (sm_nat (by omega)) (sm_nat (by decide)) (by decide)
    refine x_seq (x_asg F rfl (by simp only [true_and, and_true]; exact ⟨hs1, by decide⟩) ?_)
    dsimp only [storeE, List.set]
    have hs2 : 0 ≤ (s * 48271 + num + 11) % 2147483647 ∧ (s * 48271 + num + 11) % 2147483647 < 2147483647 := ⟨Int.emod_nonneg _ (by decide), Int.emod_lt_of_pos _ (by decide)⟩
    revert hs2
    generalize (s * 48271 + num + 11) % 2147483647 = s'
    rintro ⟨t1, t2⟩
    refine x_one (x_ite F rfl (by simp only [true_and, and_true]; exact (by decide : (0 : Int) ≤ 18 ∧ (18 : Int) ≤ 1000000 ∧ (10 : Int).natAbs < 2 ^ 64)) (fun _ => ?_) (fun _ => ?_))
    · refine x_one (x_forI F rfl (by simp only [true_and]; exact ⟨by decide, by decide⟩) (fun j env => ∃ (ds : List D) (num : Int) (x6 : Sl), env = [.fz (.klst (ns.map D.int)), .fz (.int many), .own 0 ds, .fz (.int s'), .fz (.int c), .fz (.int num), x6] ∧ (∀ d ∈ ds, isDr d) ∧ ds.length ≤ 60 * k + j ∧ 0 ≤ num) ⟨ds, num, x6, rfl, i1, by omega, hn⟩ ?_ ?_)
      · rintro j d env hj ⟨ds, num, x6, rfl, j1, j2, j3⟩
        obtain ⟨rfl, hj60⟩ := intsFrom_at hj
        have hj60' : j < 60 := hj60
        refine ⟨_, rfl, x_one (x_ite F rfl (by simp only [and_self]) (fun hb => ?_) (fun _ => ?_))⟩
        · refine x_seq (x_app F rfl rfl (by simp only [true_and, and_true]; decide) rfl (hz _ (by omega)) ?_)
          refine x_one (x_asg F rfl (by simp only [true_and]; decide) ?_)
          refine ⟨_, _, _, rfl, fun d m => ?_, by simp; omega, Int.ediv_nonneg j3 (by decide)⟩
          rcases List.mem_append.mp m with m | m
          · exact j1 d m
          · simp only [List.mem_singleton] at m
            exact ⟨_, m, Int.emod_nonneg _ (by decide), Int.lt_trans (Int.emod_lt_of_pos _ (by decide)) (by decide)⟩
        · exact x_done ⟨_, _, _, rfl, j1, by omega, j3⟩
      · rintro env ⟨ds, num, x6, rfl, j1, j2, j3⟩
        exact ⟨_, _, _, _, _, rfl, j1, by simp only [intsFrom_len] at j2; have : (60 : Int).toNat = 60 := rfl; omega, t1, t2⟩
    · refine x_one (x_app F rfl rfl (by simp only [true_and, and_true]; exact ⟨⟨Sm.cm (a := 31) (b := 16) (sm_nat (by omega)) (sm_nat (by decide)) (by decide), by decide, by decide⟩, by decide⟩) rfl (hz _ (by omega)) ?_)
      refine ⟨_, _, _, _, _, rfl, fun d m => ?_, by simp; omega, t1, t2⟩
      rcases List.mem_append.mp m with m | m
      · exact i1 d m
      · simp only [List.mem_singleton] at m
        exact ⟨_, m, Int.emod_nonneg _ (by decide), Int.emod_lt_of_pos _ (by decide)⟩
  · rintro env ⟨ds, s, x4, x5, x6, rfl, i1, i2, i3, i4⟩
    have hlen : ds.length ≤ 3780 := by
      have b := cutD_len (xs := ns.map D.int) (lo := none) (hi := some 63)
      rw [List.length_map] at b
      have i2' : ds.length ≤ 60 * (cutD (ns.map D.int) none (some 63)).length := i2
      omega
    refine x_seq (x_forI F rfl (by simp only [true_and]; omega) (fun k env => ∃ (ds : List D) (s : Int) (x4 x5 x6 : Sl), env = [.fz (.klst (ns.map D.int)), .fz (.int many), .own 0 ds, .fz (.int s), x4, x5, x6] ∧ (∀ d ∈ ds, isDr d) ∧ ds.length ≤ 3780 + k ∧ (0 ≤ s ∧ s < 2147483647) ∧ (k ≤ ds.length ∨ many ≤ ds.length)) ⟨ds, s, x4, x5, x6, rfl, i1, by omega, ⟨i3, i4⟩, .inl (Nat.zero_le _)⟩ ?_ ?_)
    · rintro k d env hk ⟨ds, s, x4, x5, x6, rfl, i1, i2, ⟨i3, i4⟩, i5⟩
      obtain ⟨rfl, hkm⟩ := intsFrom_at hk
      have hkm' : k < many := by simpa using hkm
      refine ⟨_, rfl, x_one (x_ite F rfl (by simp only [and_self]) (fun hb => ?_) (fun hb => ?_))⟩
      · refine x_seq (x_asg F rfl (by simp only [true_and, and_true]; exact ⟨Sm.cm (a := 31) (b := 17) (sm_nat (by omega)) (sm_nat (by decide)) (by decide), by decide⟩) ?_)
        have hs2 : 0 ≤ (s * 69621 + (0 + (k : Int)) + 1) % 2147483647 ∧ (s * 69621 + (0 + (k : Int)) + 1) % 2147483647 < 2147483647 := ⟨Int.emod_nonneg _ (by decide), Int.emod_lt_of_pos _ (by decide)⟩
        dsimp only [storeE, List.set]
        revert hs2
        generalize (s * 69621 + (0 + (k : Int)) + 1) % 2147483647 = s'
        intro hs2
        refine x_one (x_app F rfl rfl (by simp only [true_and, and_true]; exact ⟨by decide, by decide⟩) rfl (hz _ (by omega)) ?_)
        refine ⟨_, _, _, _, _, rfl, fun d m => ?_, by simp; omega, hs2, ?_⟩
        · rcases List.mem_append.mp m with m | m
          · exact i1 d m
          · simp only [List.mem_singleton] at m
            exact ⟨_, m, Int.emod_nonneg _ (by decide), Int.emod_lt_of_pos _ (by decide)⟩
        · simp; omega
      · refine x_done ⟨_, _, _, _, _, rfl, i1, by omega, ⟨i3, i4⟩, .inr ?_⟩
        have hb' : decide ((ds.length : Int) < many) = false := hb
        rw [decide_eq_false_iff_not] at hb'
        omega
    · rintro env ⟨ds, s, x4, x5, x6, rfl, i1, i2, i3, i5⟩
      have hm : many ≤ ds.length := by
        simp only [intsFrom_len] at i5
        have : (many : Int).toNat = many := by simp
        omega
      refine x_one (x_ret F rfl (by simp only [and_self]) rfl ?_)
      have e : cutD ds none (some (many : Int)) = ds.take many := cutD_front hm
      obtain ⟨f, f1, f2⟩ := dsF_of (n := many) (ds := ds.take many) (fun d m => i1 d (List.mem_of_mem_take m)) (by rw [List.length_take]; omega)
      exact ⟨f, f1, by show Sum.inl (D.lst (cutD ds none (some (many : Int)))) = _; rw [e, f2]⟩
end CM

set_option Elab.async false
set_option linter.all false
set_option maxRecDepth 100000
set_option maxHeartbeats 4000000
namespace CM
open PySem PySem.Spec PyProof.Rows L2 PF
variable {G : Tb} {T : Ft}
/-! ### rules for parts of expressions -/
theorem evP_ix {a b : E} {env : En} {va vb : Ev} {ca cb : Prop} {x y d : D} (ha : evP T a env = some (va, ca)) (hb : evP T b env = some (vb, cb)) (hx : peekD env va = some x) (hy : peekD env vb = some y) (h : ixF x y = some d) : evP T (.ix a b) env = some (.d d, ca ∧ cb) := by
  show ((evQ T a).1 env).bind _ = _
  rw [show (evQ T a).1 env = some (va, ca) from ha]
  show ((evQ T b).1 env).bind _ = _
  rw [show (evQ T b).1 env = some (vb, cb) from hb]
  show (peekD env va).bind _ = _
  rw [hx]
  show (peekD env vb).bind _ = _
  rw [hy]
  show (ixF x y).map _ = _
  rw [h]; rfl
theorem evP_call {f : Str} {l : EL} {env : En} {r : List D → Option (D × Prop)} {ds : List D × Prop} {p : D × Prop} (h : T.fn f = some r) (h2 : evPM T l env = some ds) (h3 : r ds.1 = some p) : evP T (.call f l) env = some (.d p.1, ds.2 ∧ p.2) := by
  show (T.fn f).bind _ = _
  rw [h]
  show (evPM T l env).bind _ = _
  rw [h2]
  show (r ds.1).map _ = _
  rw [h3]; rfl
theorem x_setIx2 (F : FtOk G T) {env : En} {P : Po} {i : Nat} {a b e : E} {p : Ev × Prop} {d : D} {dss : List (List D)} {n : Int} {j : Nat} {row : List D} {m : Int} {l : Nat} (h : evP T e env = some p) (hc : p.2) (hd : setD p.1 = some d)
    (h1 : env[i]? = some (.own2 dss)) (h2 : pureIx env a = some n) (h3 : ixN dss.length n = some j) (h4 : dss[j]? = some row) (h5 : pureIx env b = some m) (h6 : ixN row.length m = some l) (q : P.nx (env.set i (.own2 (dss.set j (row.set l d))))) : evS G (.setIx2 i a b e) env P :=
  (ps F e).v env p h hc _ _ (setD_ok hd ⟨dss, n, j, row, m, l, h1, h2, h3, h4, h5, h6, q⟩)

/-! ### steps -/
def one3 : M3 := ((1, 0, 0), (0, 1, 0), (0, 0, 1))
def el (p : Nat) (c : Int) : M3 := match p with
  | 0 => ((1, c, 0), (0, 1, 0), (0, 0, 1))
  | 1 => ((1, 0, c), (0, 1, 0), (0, 0, 1))
  | 2 => ((1, 0, 0), (c, 1, 0), (0, 0, 1))
  | 3 => ((1, 0, 0), (0, 1, c), (0, 0, 1))
  | 4 => ((1, 0, 0), (0, 1, 0), (c, 0, 1))
  | _ => ((1, 0, 0), (0, 1, 0), (0, c, 1))
inductive Stp : Nat → M3 → Prop
  | zero : Stp 0 one3
  | step {k : Nat} {m : M3} (p : Nat) (c : Int) : Stp k m → p < 6 → (c = 1 ∨ c = -1 ∨ c = 2) → Stp (k + 1) (mm m (el p c))
def BdR (n : Int) (r : R3) : Prop := (-n ≤ r.1 ∧ r.1 ≤ n) ∧ (-n ≤ r.2.1 ∧ r.2.1 ≤ n) ∧ (-n ≤ r.2.2 ∧ r.2.2 ≤ n)
def BdM (n : Int) (m : M3) : Prop := BdR n m.1 ∧ BdR n m.2.1 ∧ BdR n m.2.2
theorem BdR.sm {n : Int} {r : R3} {k : Nat} (h : BdR n r) (hn : n < 2 ^ k) : SmR k r := by
  obtain ⟨⟨a1, a2⟩, ⟨b1, b2⟩, c1, c2⟩ := h
  have e : (((2 : Nat) ^ k : Nat) : Int) = 2 ^ k := by push_cast; rfl
  refine ⟨?_, ?_, ?_⟩ <;> (unfold Sm; omega)
theorem BdM.sm {n : Int} {m : M3} {k : Nat} (h : BdM n m) (hn : n < 2 ^ k) : SmM k m := ⟨h.1.sm hn, h.2.1.sm hn, h.2.2.sm hn⟩
theorem rm_el {n : Int} {r : R3} {p : Nat} {c : Int} (h : BdR n r) (hc : c = 1 ∨ c = -1 ∨ c = 2) : BdR (n * 3) (rm r (tp (el p c))) := by
  obtain ⟨a, b, d⟩ := r
  obtain ⟨⟨a1, a2⟩, ⟨b1, b2⟩, c1, c2⟩ := h
  dsimp only at a1 a2 b1 b2 c1 c2
  unfold el
  split <;> rcases hc with rfl | rfl | rfl <;> simp only [rm, tp, dot, BdR] <;> omega
theorem Stp.bd {k : Nat} {m : M3} (h : Stp k m) : BdM (3 ^ k) m := by
  induction h with
  | zero => exact ⟨⟨by decide, by decide, by decide⟩, ⟨by decide, by decide, by decide⟩, ⟨by decide, by decide, by decide⟩⟩
  | step p c _ hp hc ih =>
    rw [Int.pow_succ]
    exact ⟨rm_el ih.1 hc, rm_el ih.2.1 hc, rm_el ih.2.2 hc⟩
theorem det_mm (a b : M3) : det3 (mm a b) = det3 a * det3 b := by
  obtain ⟨⟨a1, a2, a3⟩, ⟨a4, a5, a6⟩, a7, a8, a9⟩ := a
  obtain ⟨⟨b1, b2, b3⟩, ⟨b4, b5, b6⟩, b7, b8, b9⟩ := b
  simp only [det3, mm, rm, tp, dot, cr]
  grind
theorem det_el (p : Nat) (c : Int) : det3 (el p c) = 1 := by
  unfold el
  split <;> simp [det3, dot, cr]
theorem Stp.det {k : Nat} {m : M3} (h : Stp k m) : det3 m = 1 := by
  induction h with
  | zero => decide
  | step p c _ hp hc ih => rw [det_mm, ih, det_el]; rfl
def aSteps (a : List D × Nat) : List D := [.lst a.1, .int a.2]
def pSteps (a : List D × Nat) : Prop := (∀ d ∈ a.1, isDr d) ∧ a.2 ≤ a.1.length ∧ a.2 ≤ 20
def rSteps (a : List D × Nat) (o : D ⊕ Str) : Prop := ∃ m, Stp a.2 m ∧ o = .inl (dM m)
theorem mod6 (x : Int) : x % 6 = 0 ∨ x % 6 = 1 ∨ x % 6 = 2 ∨ x % 6 = 3 ∨ x % 6 = 4 ∨ x % 6 = 5 := by omega
theorem mod4 (x : Int) : x % 4 = 0 ∨ x % 4 = 1 ∨ x % 4 = 2 ∨ x % 4 = 3 := by omega
theorem atF_nat {xs : List D} {k : Nat} {d : D} (h : xs[k]? = some d) : atF xs (0 + (k : Int)) = some d := by
  rw [Int.zero_add]; exact h
theorem o__law_steps (F : FtOk G T) (ht : T.fn "_law_times" = some (fun ds => if ds.length = 2 then cMm ds else none)) : ∀ a : List D × Nat, pSteps a → evSs G b__law_steps ((aSteps a).map Sl.fz ++ List.replicate 6 .no) (valPo (fun d => rSteps a (.inl d)) (fun c => rSteps a (.inr c))) := by
  rintro ⟨ds, many⟩ ⟨h1, h2, h3⟩
  dsimp only at h1 h2 h3
  refine x_seq (x_asg F rfl (by simp only [true_and, and_true]; and_intros <;> exact (show 3 ≤ sizeLine by decide)) ?_)
  refine x_seq (x_forI F rfl (by simp only [true_and]; omega) (fun k env => ∃ (m : M3) (x3 x4 x5 x6 : Sl), env = [.fz (.lst ds), .fz (.int many), .fz (dM m), x3, x4, x5, x6, .no] ∧ Stp k m) ⟨one3, .no, .no, .no, .no, rfl, .zero⟩ ?_ ?_)
  · rintro k d env hk ⟨m, x3, x4, x5, x6, rfl, hm⟩
    obtain ⟨rfl, hkm⟩ := intsFrom_at hk
    have hkm' : k < many := by simpa using hkm
    have hkl : k < ds.length := by omega
    obtain ⟨x, hx, hx1, hx2⟩ := h1 ds[k] (List.getElem_mem hkl)
    have hd : ds[k]? = some (.int x) := by rw [List.getElem?_eq_getElem hkl, hx]
    refine ⟨_, rfl, ?_⟩
    dsimp only [List.set]
    -- the place
    have hdr : ∀ env : En, env[0]? = some (.fz (.lst ds)) → env[3]? = some (.fz (.int (0 + (k : Int)))) → evP T (.ix (.var 0) (.var 3)) env = some (.d (.int x), True ∧ True) := fun env e0 e3 => by
      have v0 : evP T (.var 0) env = some (.d (.lst ds), True) := by
        show (match env[0]? with | some (.fz d) => some (Ev.d d, True) | some (.own _ _) => some (Ev.vw 0, True) | some (.own2 _) => some (Ev.vw 0, True) | _ => none) = _
        rw [e0]
      have v3 : evP T (.var 3) env = some (.d (.int (0 + (k : Int))), True) := by
        show (match env[3]? with | some (.fz d) => some (Ev.d d, True) | some (.own _ _) => some (Ev.vw 3, True) | some (.own2 _) => some (Ev.vw 3, True) | _ => none) = _
        rw [e3]
      exact evP_ix v0 v3 rfl rfl (atF_nat hd)
    have hmod : ∀ (env : En), env[0]? = some (.fz (.lst ds)) → env[3]? = some (.fz (.int (0 + (k : Int)))) → evP T (.bin .mod (.bi .int (.cons (.ix (.var 0) (.var 3)) .nil)) (.cst (.int 6))) env = some (.d (.int (x % 6)), (((True ∧ True) ∧ True) ∧ True) ∧ True ∧ (0 : Int) < 6) := fun env e0 e3 => by
      have := hdr env e0 e3
      simp only [evP] at this
      simp only [evP, evQ, evPL] at this ⊢
      rw [this]; rfl
    have hdiv : ∀ (env : En), env[0]? = some (.fz (.lst ds)) → env[3]? = some (.fz (.int (0 + (k : Int)))) → ∃ c, evP T (.bin .mod (.bi .int (.cons (.bin .fdiv (.ix (.var 0) (.var 3)) (.cst (.int 6))) .nil)) (.cst (.int 4))) env = some (.d (.int (x / 6 % 4)), c) ∧ c := fun env e0 e3 => by
      have := hdr env e0 e3
      simp only [evP] at this
      simp only [evP, evQ, evPL] at this ⊢
      rw [this]
      exact ⟨_, rfl, by simp only [true_and, and_true]; decide⟩
    have hij : ∃ p, p < 6 ∧ ∃ i j : Int, evP T (.ix (.lst (.cons (.tup (.cons (.cst (.int 0)) (.cons (.cst (.int 1)) .nil))) (.cons (.tup (.cons (.cst (.int 0)) (.cons (.cst (.int 2)) .nil))) (.cons (.tup (.cons (.cst (.int 1)) (.cons (.cst (.int 0)) .nil))) (.cons (.tup (.cons (.cst (.int 1)) (.cons (.cst (.int 2)) .nil))) (.cons (.tup (.cons (.cst (.int 2)) (.cons (.cst (.int 0)) .nil))) (.cons (.tup (.cons (.cst (.int 2)) (.cons (.cst (.int 1)) .nil))) .nil))))))) (.bin .mod (.bi .int (.cons (.ix (.var 0) (.var 3)) .nil)) (.cst (.int 6)))) [.fz (.lst ds), .fz (.int many), .fz (dM m), .fz (.int (0 + (k : Int))), x4, x5, x6, .no] = some (.d (.tup [.int i, .int j]), True) ∧
        ((p = 0 ∧ i = 0 ∧ j = 1) ∨ (p = 1 ∧ i = 0 ∧ j = 2) ∨ (p = 2 ∧ i = 1 ∧ j = 0) ∨ (p = 3 ∧ i = 1 ∧ j = 2) ∨ (p = 4 ∧ i = 2 ∧ j = 0) ∨ (p = 5 ∧ i = 2 ∧ j = 1)) := by
      have tr : ∀ {v : Ev} {c : Prop} {o : PV}, o = some (v, c) → c → o = some (v, True) := fun h hc => by rw [h, eq_true hc]
      rcases mod6 x with h | h | h | h | h | h
      · exact ⟨0, by omega, 0, 1, tr (evP_ix rfl (hmod _ rfl rfl) rfl rfl (by rw [h]; rfl)) (by simp only [true_and, and_true]; and_intros <;> first | exact (show 2 ≤ sizeLine by decide) | exact (show 6 ≤ sizeLine by decide) | decide), .inl ⟨rfl, rfl, rfl⟩⟩
      · exact ⟨1, by omega, 0, 2, tr (evP_ix rfl (hmod _ rfl rfl) rfl rfl (by rw [h]; rfl)) (by simp only [true_and, and_true]; and_intros <;> first | exact (show 2 ≤ sizeLine by decide) | exact (show 6 ≤ sizeLine by decide) | decide), .inr (.inl ⟨rfl, rfl, rfl⟩)⟩
      · exact ⟨2, by omega, 1, 0, tr (evP_ix rfl (hmod _ rfl rfl) rfl rfl (by rw [h]; rfl)) (by simp only [true_and, and_true]; and_intros <;> first | exact (show 2 ≤ sizeLine by decide) | exact (show 6 ≤ sizeLine by decide) | decide), .inr (.inr (.inl ⟨rfl, rfl, rfl⟩))⟩
      · exact ⟨3, by omega, 1, 2, tr (evP_ix rfl (hmod _ rfl rfl) rfl rfl (by rw [h]; rfl)) (by simp only [true_and, and_true]; and_intros <;> first | exact (show 2 ≤ sizeLine by decide) | exact (show 6 ≤ sizeLine by decide) | decide), .inr (.inr (.inr (.inl ⟨rfl, rfl, rfl⟩)))⟩
      · exact ⟨4, by omega, 2, 0, tr (evP_ix rfl (hmod _ rfl rfl) rfl rfl (by rw [h]; rfl)) (by simp only [true_and, and_true]; and_intros <;> first | exact (show 2 ≤ sizeLine by decide) | exact (show 6 ≤ sizeLine by decide) | decide), .inr (.inr (.inr (.inr (.inl ⟨rfl, rfl, rfl⟩))))⟩
      · exact ⟨5, by omega, 2, 1, tr (evP_ix rfl (hmod _ rfl rfl) rfl rfl (by rw [h]; rfl)) (by simp only [true_and, and_true]; and_intros <;> first | exact (show 2 ≤ sizeLine by decide) | exact (show 6 ≤ sizeLine by decide) | decide), .inr (.inr (.inr (.inr (.inr ⟨rfl, rfl, rfl⟩))))⟩
    obtain ⟨p, hp, i, j, e1, hpij⟩ := hij
    refine x_seq (x_asgT F e1 trivial rfl rfl ?_)
    refine x_seq (x_asg F rfl (by simp only [true_and, and_true]; and_intros <;> exact (show 3 ≤ sizeLine by decide)) ?_)
    dsimp only [storeE, List.set]
    have hcv : ∃ c : Int, (c = 1 ∨ c = -1 ∨ c = 2) ∧ ∃ cc, evP T (.ix (.lst (.cons (.cst (.int 1)) (.cons (.neg (.cst (.int 1))) (.cons (.cst (.int 2)) (.cons (.neg (.cst (.int 1))) .nil))))) (.bin .mod (.bi .int (.cons (.bin .fdiv (.ix (.var 0) (.var 3)) (.cst (.int 6))) .nil)) (.cst (.int 4)))) [.fz (.lst ds), .fz (.int many), .fz (dM m), .fz (.int (0 + (k : Int))), .fz (.int i), .fz (.int j), .own2 [[.int 1, .int 0, .int 0], [.int 0, .int 1, .int 0], [.int 0, .int 0, .int 1]], .no] = some (.d (.int c), cc) ∧ cc := by
      obtain ⟨c0, q1, q2⟩ := hdiv [.fz (.lst ds), .fz (.int many), .fz (dM m), .fz (.int (0 + (k : Int))), .fz (.int i), .fz (.int j), .own2 [[.int 1, .int 0, .int 0], [.int 0, .int 1, .int 0], [.int 0, .int 0, .int 1]], .no] rfl rfl
      have lc : ((True ∧ True ∧ True ∧ True ∧ True) ∧ 4 ≤ sizeLine) ∧ c0 := ⟨⟨by simp only [and_self], by decide⟩, q2⟩
      rcases mod4 (x / 6) with h | h | h | h
      · exact ⟨1, .inl rfl, _, evP_ix rfl q1 rfl rfl (by rw [h]; rfl), lc⟩
      · exact ⟨-1, .inr (.inl rfl), _, evP_ix rfl q1 rfl rfl (by rw [h]; rfl), lc⟩
      · exact ⟨2, .inr (.inr rfl), _, evP_ix rfl q1 rfl rfl (by rw [h]; rfl), lc⟩
      · exact ⟨-1, .inr (.inl rfl), _, evP_ix rfl q1 rfl rfl (by rw [h]; rfl), lc⟩
    obtain ⟨c, hc, cc, e2, hcc⟩ := hcv
    have sm : SmM 400000 m := hm.bd.sm (by
      have : (3 : Int) ^ k ≤ 3 ^ 20 := by
        have := Nat.pow_le_pow_right (show 0 < 3 by decide) (show k ≤ 20 by omega)
        exact_mod_cast this
      have e : (3 : Int) ^ 20 < 2 ^ 400000 := by decide +kernel
      omega)
    have se : SmM 400000 (el p c) := by
      have : BdM 3 (el p c) := by
        unfold el
        split <;> rcases hc with rfl | rfl | rfl <;> exact ⟨⟨by decide, by decide, by decide⟩, ⟨by decide, by decide, by decide⟩, ⟨by decide, by decide, by decide⟩⟩
      exact this.sm (by decide +kernel)
    have z2 : ∀ {a b : M3} {x y : Prop}, x → y → SmM 400000 a → SmM 400000 b → x ∧ SmM 400000 a ∧ SmM 400000 b := fun a _ c d => ⟨a, c, d⟩
    have h33 : 3 ≤ sizeLine := by decide
    rcases hpij with ⟨rfl, rfl, rfl⟩ | ⟨rfl, rfl, rfl⟩ | ⟨rfl, rfl, rfl⟩ | ⟨rfl, rfl, rfl⟩ | ⟨rfl, rfl, rfl⟩ | ⟨rfl, rfl, rfl⟩
    · refine x_seq (x_setIx2 F e2 hcc rfl rfl rfl rfl rfl rfl rfl ?_)
      refine x_fz [6] (x_asg F (evP_call ht rfl rfl) ⟨by simp only [true_and, and_true]; and_intros <;> exact h33, sm, se⟩ ?_)
      exact x_done (G := G) ⟨mm m (el 0 c), _, _, _, _, rfl, Stp.step 0 c hm (by omega) hc⟩
    · refine x_seq (x_setIx2 F e2 hcc rfl rfl rfl rfl rfl rfl rfl ?_)
      refine x_fz [6] (x_asg F (evP_call ht rfl rfl) ⟨by simp only [true_and, and_true]; and_intros <;> exact h33, sm, se⟩ ?_)
      exact x_done (G := G) ⟨mm m (el 1 c), _, _, _, _, rfl, Stp.step 1 c hm (by omega) hc⟩
    · refine x_seq (x_setIx2 F e2 hcc rfl rfl rfl rfl rfl rfl rfl ?_)
      refine x_fz [6] (x_asg F (evP_call ht rfl rfl) ⟨by simp only [true_and, and_true]; and_intros <;> exact h33, sm, se⟩ ?_)
      exact x_done (G := G) ⟨mm m (el 2 c), _, _, _, _, rfl, Stp.step 2 c hm (by omega) hc⟩
    · refine x_seq (x_setIx2 F e2 hcc rfl rfl rfl rfl rfl rfl rfl ?_)
      refine x_fz [6] (x_asg F (evP_call ht rfl rfl) ⟨by simp only [true_and, and_true]; and_intros <;> exact h33, sm, se⟩ ?_)
      exact x_done (G := G) ⟨mm m (el 3 c), _, _, _, _, rfl, Stp.step 3 c hm (by omega) hc⟩
    · refine x_seq (x_setIx2 F e2 hcc rfl rfl rfl rfl rfl rfl rfl ?_)
      refine x_fz [6] (x_asg F (evP_call ht rfl rfl) ⟨by simp only [true_and, and_true]; and_intros <;> exact h33, sm, se⟩ ?_)
      exact x_done (G := G) ⟨mm m (el 4 c), _, _, _, _, rfl, Stp.step 4 c hm (by omega) hc⟩
    · refine x_seq (x_setIx2 F e2 hcc rfl rfl rfl rfl rfl rfl rfl ?_)
      refine x_fz [6] (x_asg F (evP_call ht rfl rfl) ⟨by simp only [true_and, and_true]; and_intros <;> exact h33, sm, se⟩ ?_)
      exact x_done (G := G) ⟨mm m (el 5 c), _, _, _, _, rfl, Stp.step 5 c hm (by omega) hc⟩
  · rintro env ⟨m, x3, x4, x5, x6, rfl, hm⟩
    refine x_one (x_ret F rfl trivial rfl ⟨m, ?_, rfl⟩)
    have : (PF.intsFrom 0 (many : Int).toNat).length = many := by rw [intsFrom_len]; simp
    rwa [this] at hm
end CM

set_option Elab.async false
set_option linter.all false
set_option maxRecDepth 100000
set_option maxHeartbeats 4000000
namespace CM
open PySem PySem.Spec PyProof.Rows L2 PF
variable {G : Tb} {T : Ft}
theorem law_ok {m : Nat} {bd : SL} {ns : List Int} (h : evSs G bd (.fz (.klst (ns.map D.int)) :: List.replicate m .no) (valPo (fun d => d = .bl true) (fun _ => False))) : (Fn.ofBody G m bd).run [.fz (.klst (ns.map D.int))] (fun d _ => d = .bl true) (fun _ _ => False) := by
  show evSs G bd (.fz (.klst (ns.map D.int)) :: List.replicate m .no) (bodyPo [.fz (.klst (ns.map D.int))] (fun d _ => d = .bl true) (fun _ _ => False))
  exact evSs_mono bd _ _ _ h ⟨fun env e => ⟨[], rfl, e⟩, fun d env e => ⟨[], rfl, e⟩, fun _ z => z, fun _ z => z, fun c env e => ⟨[], rfl, e⟩⟩
/-! ### equality of data -/
theorem eqD_int (i j : Int) : eqD (.int i) (.int j) = decide (i = j) := by
  show (i == j) = _
  rfl
theorem eqD_R (a b : R3) : eqD (dR a) (dR b) = decide (a = b) := by
  obtain ⟨a1, a2, a3⟩ := a
  obtain ⟨b1, b2, b3⟩ := b
  show (a1 == b1 && (a2 == b2 && (a3 == b3 && true))) = _
  rw [Bool.eq_iff_iff]
  simp
theorem eqD_M (a b : M3) : eqD (dM a) (dM b) = decide (a = b) := by
  obtain ⟨a1, a2, a3⟩ := a
  obtain ⟨b1, b2, b3⟩ := b
  show (eqD (dR a1) (dR b1) && (eqD (dR a2) (dR b2) && (eqD (dR a3) (dR b3) && true))) = _
  rw [eqD_R, eqD_R, eqD_R, Bool.eq_iff_iff]
  simp
theorem shp_R (a : R3) : shp (dR a) = true := rfl
theorem shp_M (a : M3) : shp (dM a) = true := rfl
/-! ### a menu read at a place that is not written -/
theorem ix_menu {ds : List D} {i : Int} (h0 : 0 ≤ i) (h1 : i < ds.length) : ∃ d ∈ ds, ixF (.lst ds) (.int i) = some d := by
  obtain ⟨k, rfl⟩ := Int.eq_ofNat_of_zero_le h0
  have hk : k < ds.length := by omega
  exact ⟨ds[k], List.getElem_mem hk, by show ds[k]? = _; exact List.getElem?_eq_getElem hk⟩
theorem evPL_cons {e : E} {l : EL} {env : En} {p : Ev × Prop} {r : List Ev × Prop} (h : evP T e env = some p) (h2 : evPL T l env = some r) : evPL T (.cons e l) env = some (p.1 :: r.1, p.2 ∧ r.2) := by
  show ((evQ T e).1 env).bind _ = _
  rw [show (evQ T e).1 env = some p from h]
  show (evPL T l env).map _ = _
  rw [h2]; rfl
theorem evPL_nil {env : En} : evPL T .nil env = some ([], True) := rfl
theorem evPM_cons {e : E} {l : EL} {env : En} {p : Ev × Prop} {d : D} {r : List D × Prop} (h : evP T e env = some p) (hd : setD p.1 = some d) (h2 : evPM T l env = some r) : evPM T (.cons e l) env = some (d :: r.1, p.2 ∧ r.2) := by
  show ((evQ T e).1 env).bind _ = _
  rw [show (evQ T e).1 env = some p from h]
  show (setD p.1).bind _ = _
  rw [hd]
  show (evPM T l env).map _ = _
  rw [h2]; rfl
theorem evPM_nil {env : En} : evPM T .nil env = some ([], True) := rfl
/-- a conjunction of what must hold, out of the way -/
theorem pv_true {α : Type} {v : α} {c : Prop} {o : Option (α × Prop)} (h : o = some (v, c)) (hc : c) : o = some (v, True) := by rw [h, eq_true hc]
theorem pv_of {α : Type} {v : α} {c : Prop} {o : Option (α × Prop)} (h : o = some (v, c)) (hc : c) : o = some (v, True) := pv_true h hc
/-! ### rows that are drawn -/
def cRow : List D → Option (D × Prop)
  | [.lst (.int a :: .int b :: .int c :: _), .int m] => some (dR (a % (2 * m + 1) - m, b % (2 * m + 1) - m, c % (2 * m + 1) - m), Sm 1000 m ∧ 0 < 2 * m + 1)
  | _ => none
theorem o__law_row (F : FtOk G T) : ∀ ds p, ds.length = 2 → cRow ds = some p → p.2 → ∀ P : Po, (∀ env, P.rt p.1 env) → evSs G b__law_row (ds.map Sl.fz ++ List.replicate 1 .no) P := by
  intro ds p hn h hp P q
  unfold cRow at h
  split at h
  · cases h
    have sm : CMulW 2 _ := Sm.cm (a := 2) (sm_nat (by decide)) hp.1 (by decide)
    refine x_one (x_ret F rfl ?_ rfl (q _))
    simp only [true_and, and_true]
    and_intros <;> first | exact sm | exact hp.2 | decide | exact (show 3 ≤ sizeLine by decide)
  · cases h
theorem row_of {ds : List D} (h : ∀ d ∈ ds, isDr d) (hl : 3 ≤ ds.length) {m : Int} (hm : 0 ≤ m) (hm2 : m ≤ 1000000) : ∃ r c, cRow [.lst ds, .int m] = some (dR r, c) ∧ c ∧ BdR m r := by
  match ds, hl with
  | a :: b :: c :: r, _ =>
    obtain ⟨x, rfl, _⟩ := h a (by simp)
    obtain ⟨y, rfl, _⟩ := h b (by simp)
    obtain ⟨z, rfl, _⟩ := h c (by simp)
    refine ⟨_, _, rfl, ⟨sm_nat (by have : (2 : Nat) ^ 20 ≤ 2 ^ 1000 := Nat.pow_le_pow_right (by decide) (by decide); omega), by omega⟩, ?_⟩
    have e : ∀ x : Int, -m ≤ x % (2 * m + 1) - m ∧ x % (2 * m + 1) - m ≤ m := fun x => by
      have a := Int.emod_nonneg x (show 2 * m + 1 ≠ 0 by omega)
      have b := Int.emod_lt_of_pos x (show 0 < 2 * m + 1 by omega)
      omega
    exact ⟨e x, e y, e z⟩
/-! ### the inverse, with its error -/
def aM (m : M3) : List D := [dM m]
def rInv (m : M3) (o : D ⊕ Str) : Prop := o = if det3 m = 1 ∨ det3 m = -1 then .inl (dM (inv3 m)) else .inr "BadMatrix"
theorem o_inverse (F : FtOk G T) (he : G.exc "BadMatrix" = true) (hd : T.fn "determinant_of" = some (fun ds => if ds.length = 1 then cDet ds else none)) (ha : T.fn "adjoint" = some (fun ds => if ds.length = 1 then cAdj ds else none)) :
    ∀ m, SmM 100000 m → evSs G b_inverse_of ((aM m).map Sl.fz ++ List.replicate 3 .no) (valPo (fun d => rInv m (.inl d)) (fun c => rInv m (.inr c))) := fun m hm =>
  o_inverse_of F he hd ha [dM m] _ _ rfl rfl hm _ (fun d env e => e.symm) fun e env h => h.symm
theorem dsF_dr {n : Nat} {f : Nat → Int} (h : Dr f) : ∀ d ∈ dsF n f, isDr d := fun d m => by
  unfold dsF at m
  rw [List.mem_map] at m
  obtain ⟨k, _, rfl⟩ := m
  exact ⟨f k, rfl, h k⟩
theorem cut_dr {n : Nat} {f : Nat → Int} {lo hi : Option Int} (h : Dr f) : ∀ d ∈ PF.cutD (dsF n f) lo hi, isDr d := fun d m => dsF_dr h d (cutD_mem m)
theorem cut_from {n : Nat} {f : Nat → Int} {k : Nat} (h : k ≤ n) : (PF.cutD (dsF n f) (some (k : Int)) none).length = n - k := by
  unfold PF.cutD
  have e1 : HT.sIx (dsF n f).length 0 (some (k : Int)) = k := by
    unfold HT.sIx
    simp only [show ¬ ((k : Int) < 0) by omega, if_false, dsF_len]
    omega
  have e2 : HT.sIx (dsF n f).length (dsF n f).length none = (dsF n f).length := rfl
  rw [e1, e2, List.length_take, List.length_drop, dsF_len]; omega
theorem evX_isE {c C : Str} (he : G.exc C = true) (hn : (decide (C = "ValueError")) = false) : evX G c (.isE C) (.bl (G.sub c C)) := by
  unfold evX
  rw [if_neg (by simpa using hn)]
  exact ⟨he, rfl⟩
theorem evX_ve {c : Str} : evX G c (.isE "ValueError") (.bl true) := by
  unfold evX
  rw [if_pos rfl]
/-- isinstance(e, C) and isinstance(e, ValueError) and not isinstance(e, C') -/
theorem evX_3 {c C C' : Str} (he : G.exc C = true) (hn : (decide (C = "ValueError")) = false) (he' : G.exc C' = true) (hn' : (decide (C' = "ValueError")) = false) : evX G c (.band (.isE C) (.band (.isE "ValueError") (.bnot (.isE C')))) (.bl (G.sub c C && (true && !G.sub c C'))) :=
  ⟨_, _, evX_isE he hn, ⟨_, _, evX_ve, ⟨_, evX_isE he' hn', rfl⟩, rfl⟩, rfl⟩
theorem cut_ge {n : Nat} {f : Nat → Int} (k a : Nat) (h : k + a ≤ n) : a ≤ (PF.cutD (dsF n f) (some (k : Int)) none).length := by
  rw [cut_from (by omega)]; omega
theorem sm_det {n : Nat} {m : M3} (h : SmM n m) : Sm (3 * n + 3) (det3 m) := by
  have k := sm_cr h.2.1 h.2.2
  have := ((h.1.1.mul k.1).add (h.1.2.1.mul k.2.1)).add (h.1.2.2.mul k.2.2)
  exact this.up (by omega)
end CM

set_option Elab.async false
set_option linter.all false
set_option maxRecDepth 100000
set_option maxHeartbeats 4000000
namespace CM
open PySem PySem.Spec PyProof.Rows L2 PF
variable {G : Tb} {T : Ft}
/-! ### forms -/
abbrev FD := M3 × Int × Int
def fD (x : FD) : D := .obj "Form" [("table", dM x.1), ("determinant", .int x.2.1), ("last", .int x.2.2)]
def rdF : D → Option FD
  | .obj C [(t, a), (u, .int e), (w, .int l)] => if (decide (C = "Form") && decide (t = "table") && decide (u = "determinant") && decide (w = "last")) = true then (rdM a).map fun m => (m, e, l) else none
  | _ => none
theorem rdF_ok {d : D} {x : FD} (h : rdF d = some x) : d = fD x := by
  unfold rdF at h
  split at h
  · split at h
    · rename_i hc
      simp only [Bool.and_eq_true, decide_eq_true_eq] at hc
      obtain ⟨⟨⟨rfl, rfl⟩, rfl⟩, rfl⟩ := hc
      simp only [Option.map_eq_some_iff] at h
      obtain ⟨m, h1, h2⟩ := h
      subst h2
      rw [rdM_ok h1]; rfl
    · cases h
  · cases h
theorem rdF_fD (x : FD) : rdF (fD x) = some x := rfl
def gI (a b : Int) : Int := ((Nat.gcd a.natAbs b.natAbs : Nat) : Int)
def comF (a : M3) : Int := gI (gI (gI (gI (gI (gI (gI (gI (gI 0 a.1.1) a.1.2.1) a.1.2.2) a.2.1.1) a.2.1.2.1) a.2.1.2.2) a.2.2.1) a.2.2.2.1) a.2.2.2.2
def lastF (m : M3) : Int := -det3 m / comF (adj m)
def objF (m : M3) : FD := (m, det3 m, lastF m)
def pr (m : M3) (v w : R3) : Int := dot v (im m w)
/-- symmetric, with items to 1000 -/
def symM (m : M3) : Prop := m.1.2.1 = m.2.1.1 ∧ m.1.2.2 = m.2.2.1 ∧ m.2.1.2.2 = m.2.2.2.1
instance (m : M3) : Decidable (symM m) := by unfold symM; exact inferInstance
instance (n : Int) (r : R3) : Decidable (BdR n r) := by unfold BdR; exact inferInstance
instance (n : Int) (m : M3) : Decidable (BdM n m) := by unfold BdM; exact inferInstance
def tabB (m : M3) : Bool := decide (BdM 1000 m ∧ symM m)
def formP (m : M3) : Prop := (BdM 1000 m ∧ symM m) ∧ (-500 ≤ det3 m ∧ det3 m ≤ -1) ∧ ¬(m.1.1 < 0 ∧ m.1.2.1 * m.1.2.1 < m.1.1 * m.2.1.2.1)
instance (m : M3) : Decidable (formP m) := by unfold formP; exact inferInstance
/-! is_integer -/
def cInt : List D → Option (D × Prop)
  | [d] => (isiB d "int").bind fun a => (isiB d "bool").map fun b => (.bl (a && !b), True)
  | _ => none
theorem o_is_integer (F : FtOk G T) : ∀ ds p, ds.length = 1 → cInt ds = some p → p.2 → ∀ P : Po, (∀ env, P.rt p.1 env) → evSs G b_is_integer (ds.map Sl.fz ++ List.replicate 0 .no) P := by
  intro ds p hn h hp P q
  match ds, hn with
  | [d], _ =>
    have h' : ((isiB d "int").bind fun a => (isiB d "bool").map fun b => ((.bl (a && !b) : D), True)) = some p := h
    simp only [Option.bind_eq_some_iff, Option.map_eq_some_iff] at h'
    obtain ⟨a, h1, b, h2, h3⟩ := h'
    subst h3
    have e := evP_band (evPAV_c (evP_isi (T := T) (env := [.fz d]) (a := .var 0) rfl rfl h1) (evPAV_1 (evP_bnot (evP_isi (a := .var 0) rfl rfl h2))))
    exact x_one (x_ret F e ⟨trivial, fun _ => trivial⟩ rfl (q _))
end CM

set_option Elab.async false
set_option linter.all false
set_option maxRecDepth 100000
set_option maxHeartbeats 4000000
namespace CM
open PySem PySem.Spec PyProof.Rows L2 PF
variable {G : Tb} {T : Ft}
def eR (r : R3) : Nat → Int | 0 => r.1 | 1 => r.2.1 | _ => r.2.2
def rM (m : M3) : Nat → R3 | 0 => m.1 | 1 => m.2.1 | _ => m.2.2
theorem ix_R (r : R3) {j : Nat} (h : j < 3) : ixF (dR r) (.int (0 + (j : Int))) = some (.int (eR r j)) := by
  match j, h with
  | 0, _ => rfl
  | 1, _ => rfl
  | 2, _ => rfl
theorem ix_M (m : M3) {j : Nat} (h : j < 3) : ixF (dM m) (.int (0 + (j : Int))) = some (dR (rM m j)) := by
  match j, h with
  | 0, _ => rfl
  | 1, _ => rfl
  | 2, _ => rfl
theorem rng3_at {j : Nat} {d : D} (h : (PF.intsFrom 0 3)[j]? = some d) : d = .int (0 + (j : Int)) ∧ j < 3 := intsFrom_at h
def cnd (m : M3) (i j : Nat) : Prop := (if eR (rM m i) j < 0 then -eR (rM m i) j else eR (rM m i) j) ≤ 1000 ∧ eR (rM m i) j = eR (rM m j) i
theorem tabB_iff (m : M3) : tabB m = true ↔ ∀ i, i < 3 → ∀ j, j < 3 → cnd m i j := by
  unfold tabB
  rw [decide_eq_true_iff]
  constructor
  · rintro ⟨⟨⟨⟨a1, a2⟩, ⟨a3, a4⟩, a5, a6⟩, ⟨⟨b1, b2⟩, ⟨b3, b4⟩, b5, b6⟩, ⟨c1, c2⟩, ⟨c3, c4⟩, c5, c6⟩, s1, s2, s3⟩ i hi j hj
    match i, j, hi, hj with
    | 0, 0, _, _ => exact ⟨by simp only [eR, rM]; split <;> omega, rfl⟩
    | 0, 1, _, _ => exact ⟨by simp only [eR, rM]; split <;> omega, s1⟩
    | 0, 2, _, _ => exact ⟨by simp only [eR, rM]; split <;> omega, s2⟩
    | 1, 0, _, _ => exact ⟨by simp only [eR, rM]; split <;> omega, s1.symm⟩
    | 1, 1, _, _ => exact ⟨by simp only [eR, rM]; split <;> omega, rfl⟩
    | 1, 2, _, _ => exact ⟨by simp only [eR, rM]; split <;> omega, s3⟩
    | 2, 0, _, _ => exact ⟨by simp only [eR, rM]; split <;> omega, s2.symm⟩
    | 2, 1, _, _ => exact ⟨by simp only [eR, rM]; split <;> omega, s3.symm⟩
    | 2, 2, _, _ => exact ⟨by simp only [eR, rM]; split <;> omega, rfl⟩
  · intro h
    have b : ∀ i, i < 3 → ∀ j, j < 3 → -1000 ≤ eR (rM m i) j ∧ eR (rM m i) j ≤ 1000 := fun i hi j hj => by
      have := (h i hi j hj).1
      split at this <;> omega
    exact ⟨⟨⟨b 0 (by decide) 0 (by decide), b 0 (by decide) 1 (by decide), b 0 (by decide) 2 (by decide)⟩, ⟨b 1 (by decide) 0 (by decide), b 1 (by decide) 1 (by decide), b 1 (by decide) 2 (by decide)⟩, ⟨b 2 (by decide) 0 (by decide), b 2 (by decide) 1 (by decide), b 2 (by decide) 2 (by decide)⟩⟩,
      (h 0 (by decide) 1 (by decide)).2, (h 0 (by decide) 2 (by decide)).2, (h 1 (by decide) 2 (by decide)).2⟩
def cTabl : List D → Option (D × Prop)
  | [a] => (rdM a).map fun m => (.bl (tabB m), True)
  | _ => none
theorem o__is_table (F : FtOk G T) (hI : T.fn "is_integer" = some (fun ds => if ds.length = 1 then cInt ds else none)) (hc : T.cst "MOST_ITEM" = some (.int 1000)) : ∀ ds p, ds.length = 1 → cTabl ds = some p → p.2 → ∀ P : Po, (∀ env, P.rt p.1 env) → evSs G b__is_table (ds.map Sl.fz ++ List.replicate 2 .no) P := by
  intro ds p hn h hp P q
  obtain ⟨a, m, rfl, h1, rfl⟩ := c1_by (k := fun m => (.bl (tabB m), True)) (fun _ => rfl) hn h
  rw [rdM_ok h1]
  clear h h1 hp hn
  have qf : ∀ env, tabB m = false → P.rt (.bl false) env := fun env e => by have := q env; dsimp only at this; rwa [e] at this
  refine x_seq (x_forI F rfl (by simp only [true_and]; exact ⟨by decide, by decide⟩) (fun k env => (∃ x1 x2 : Sl, env = [.fz (dM m), x1, x2]) ∧ ∀ i, i < k → ∀ j, j < 3 → cnd m i j) ⟨⟨_, _, rfl⟩, fun i hi => by omega⟩ ?_ ?_)
  · rintro i d env hi ⟨⟨x1, x2, rfl⟩, hI'⟩
    obtain ⟨rfl, hi3⟩ := rng3_at hi
    refine ⟨_, rfl, x_one (x_forI F rfl (by simp only [true_and]; exact ⟨by decide, by decide⟩) (fun k env => (∃ x2 : Sl, env = [.fz (dM m), .fz (.int (0 + (i : Int))), x2]) ∧ ∀ j, j < k → cnd m i j) ⟨⟨_, rfl⟩, fun j hj => by omega⟩ ?_ ?_)⟩
    · rintro j d env hj ⟨⟨x2, rfl⟩, hJ⟩
      obtain ⟨rfl, hj3⟩ := rng3_at hj
      refine ⟨_, rfl, ?_⟩
      dsimp only [List.set]
      have eX := evP_ix (T := T) (a := .ix (.var 0) (.var 1)) (b := .var 2) (env := [.fz (dM m), .fz (.int (0 + (i : Int))), .fz (.int (0 + (j : Int)))]) (evP_ix (a := .var 0) (b := .var 1) rfl rfl rfl rfl (ix_M m hi3)) rfl rfl rfl (ix_R _ hj3)
      have eY := evP_ix (T := T) (a := .ix (.var 0) (.var 2)) (b := .var 1) (env := [.fz (dM m), .fz (.int (0 + (i : Int))), .fz (.int (0 + (j : Int)))]) (evP_ix (a := .var 0) (b := .var 2) rfl rfl rfl rfl (ix_M m hj3)) rfl rfl rfl (ix_R _ hi3)
      have c1 := evPT_bnot (evPT_of (T := T) (e := .call "is_integer" (.cons (.ix (.ix (.var 0) (.var 1)) (.var 2)) .nil)) rfl (evP_call hI (evPM_cons eX rfl evPM_nil) rfl) rfl rfl)
      have c2 := evPT_cmp (op := .gt) (evP_bi1 (f := .abs) eX rfl rfl) (evP_glob (env := [.fz (dM m), .fz (.int (0 + (i : Int))), .fz (.int (0 + (j : Int)))]) hc) rfl rfl rfl
      have c3 := evPT_cmp (op := .ne) eX eY rfl rfl rfl
      refine x_one (x_ite F (evPT_bor (evPOr_c c1 (evPOr_c c2 (evPOr_1 c3)))) (by simp) (fun hb => x_one (x_ret F rfl trivial rfl (qf _ ?_))) (fun hb => x_done ?_))
      · rw [← Bool.not_eq_true, tabB_iff]
        intro hall
        obtain ⟨k1, k2⟩ := hall i hi3 j hj3
        have hb' : (!(true && !false) || (decide (1000 < (if eR (rM m i) j < 0 then -eR (rM m i) j else eR (rM m i) j)) || !decide (eR (rM m i) j = eR (rM m j) i))) = true := hb
        rw [decide_eq_false (by omega), decide_eq_true k2] at hb'
        cases hb'
      · refine ⟨⟨_, rfl⟩, fun l hl => ?_⟩
        rcases Nat.lt_or_eq_of_le (Nat.le_of_lt_succ hl) with hl | hl
        · exact hJ l hl
        · subst hl
          simp at hb
          exact hb.2
    · rintro env ⟨⟨x2, rfl⟩, hJ⟩
      refine ⟨⟨_, _, rfl⟩, fun l hl => ?_⟩
      rcases Nat.lt_or_eq_of_le (Nat.le_of_lt_succ hl) with hl | hl
      · exact hI' l hl
      · subst hl; exact hJ
  · rintro env ⟨⟨x1, x2, rfl⟩, hI'⟩
    have e : tabB m = true := (tabB_iff m).mpr hI'
    refine x_one (x_ret F rfl trivial rfl ?_)
    have := q [.fz (dM m), x1, x2]
    dsimp only at this
    rwa [e] at this
end CM

set_option Elab.async false
set_option linter.all false
set_option maxRecDepth 100000
set_option maxHeartbeats 400000
namespace CM
open PySem PySem.Spec PyProof.Rows L2 PF
variable {G : Tb} {T : Ft}
theorem gI_l (a b : Int) : gI a b ∣ a := Int.natAbs_dvd_natAbs.mp (by unfold gI; rw [Int.natAbs_natCast]; exact Nat.gcd_dvd_left _ _)
theorem gI_r (a b : Int) : gI a b ∣ b := Int.natAbs_dvd_natAbs.mp (by unfold gI; rw [Int.natAbs_natCast]; exact Nat.gcd_dvd_right _ _)
theorem gI_nn (a b : Int) : 0 ≤ gI a b := Int.natCast_nonneg _
theorem comF_dvd (a : M3) : (comF a ∣ a.1.1 ∧ comF a ∣ a.1.2.1 ∧ comF a ∣ a.1.2.2) ∧ (comF a ∣ a.2.1.1 ∧ comF a ∣ a.2.1.2.1 ∧ comF a ∣ a.2.1.2.2) ∧ (comF a ∣ a.2.2.1 ∧ comF a ∣ a.2.2.2.1 ∧ comF a ∣ a.2.2.2.2) := by
  unfold comF
  generalize a.1.1 = x1
  generalize a.1.2.1 = x2
  generalize a.1.2.2 = x3
  generalize a.2.1.1 = x4
  generalize a.2.1.2.1 = x5
  generalize a.2.1.2.2 = x6
  generalize a.2.2.1 = x7
  generalize a.2.2.2.1 = x8
  generalize a.2.2.2.2 = x9
  have r := gI_r
  have l := gI_l
  refine ⟨⟨?_, ?_, ?_⟩, ⟨?_, ?_, ?_⟩, ?_, ?_, ?_⟩
  · exact (Int.dvd_trans (l _ _) (Int.dvd_trans (l _ _) (Int.dvd_trans (l _ _) (Int.dvd_trans (l _ _) (Int.dvd_trans (l _ _) (Int.dvd_trans (l _ _) (Int.dvd_trans (l _ _) (Int.dvd_trans (l _ _) (r _ _)))))))))
  · exact (Int.dvd_trans (l _ _) (Int.dvd_trans (l _ _) (Int.dvd_trans (l _ _) (Int.dvd_trans (l _ _) (Int.dvd_trans (l _ _) (Int.dvd_trans (l _ _) (Int.dvd_trans (l _ _) (r _ _))))))))
  · exact (Int.dvd_trans (l _ _) (Int.dvd_trans (l _ _) (Int.dvd_trans (l _ _) (Int.dvd_trans (l _ _) (Int.dvd_trans (l _ _) (Int.dvd_trans (l _ _) (r _ _)))))))
  · exact (Int.dvd_trans (l _ _) (Int.dvd_trans (l _ _) (Int.dvd_trans (l _ _) (Int.dvd_trans (l _ _) (Int.dvd_trans (l _ _) (r _ _))))))
  · exact (Int.dvd_trans (l _ _) (Int.dvd_trans (l _ _) (Int.dvd_trans (l _ _) (Int.dvd_trans (l _ _) (r _ _)))))
  · exact (Int.dvd_trans (l _ _) (Int.dvd_trans (l _ _) (Int.dvd_trans (l _ _) (r _ _))))
  · exact (Int.dvd_trans (l _ _) (Int.dvd_trans (l _ _) (r _ _)))
  · exact (Int.dvd_trans (l _ _) (r _ _))
  · exact (r _ _)
theorem com_ok {m : M3} {n : Nat} (hd : det3 m ≠ 0) (hs : SmM n m) (hn : n ≤ 4000) : 0 < comF (adj m) ∧ (comF (adj m)).natAbs.log2 < 9000 := by
  obtain ⟨⟨d1, d2, d3⟩, ⟨d4, d5, d6⟩, d7, d8, d9⟩ := comF_dvd (adj m)
  have s := sm_adj hs
  have nn : 0 ≤ comF (adj m) := gI_nn _ _
  have key : ∀ x : Int, comF (adj m) ∣ x → Sm (n + n + 1) x → x ≠ 0 → 0 < comF (adj m) ∧ (comF (adj m)).natAbs.log2 < 9000 := fun x hx hsx h0 => by
    have p : 0 < comF (adj m) := by
      rcases Int.lt_or_eq_of_le nn with h | h
      · exact h
      · rw [← h] at hx; exact absurd (Int.zero_dvd.mp hx) h0
    refine ⟨p, ?_⟩
    have hle : (comF (adj m)).natAbs ≤ x.natAbs := Nat.le_of_dvd (by omega) (Int.natAbs_dvd_natAbs.mpr hx)
    have hlt : (comF (adj m)).natAbs < 2 ^ 9000 := Nat.lt_of_le_of_lt hle (Nat.lt_of_lt_of_le hsx (Nat.pow_le_pow_right (by decide) (by omega)))
    exact PySem.Flt.log2_lt_of (by decide) hlt
  by_cases z1 : (adj m).1.1 = 0
  · by_cases z2 : (adj m).2.1.1 = 0
    · by_cases z3 : (adj m).2.2.1 = 0
      · exfalso
        apply hd
        have a1 : (cr m.2.1 m.2.2).1 = 0 := z1
        have a2 : (cr m.2.1 m.2.2).2.1 = 0 := z2
        have a3 : (cr m.2.1 m.2.2).2.2 = 0 := z3
        unfold det3 dot
        rw [a1, a2, a3]; simp
      · exact key _ d7 s.2.2.1 z3
    · exact key _ d4 s.2.1.1 z2
  · exact key _ d1 s.1.1 z1
def rowL (r : R3) : List Int := [r.1, r.2.1, r.2.2]
def rForm (m : M3) (o : D ⊕ Str) : Prop := o = if formP m then .inl (fD (objF m)) else .inr "BadForm"
theorem o_init (F : FtOk G T) (hT : T.fn "_is_table" = some (fun ds => if ds.length = 1 then cTabl ds else none)) (hd : T.fn "determinant_of" = some (fun ds => if ds.length = 1 then cDet ds else none)) (ha : T.fn "adjoint" = some (fun ds => if ds.length = 1 then cAdj ds else none))
    (hs : T.cst "MOST_SIZE" = some (.int 500)) (he : G.exc "BadForm" = true) (f1 : G.fld "Form" "table" = true) (f2 : G.fld "Form" "determinant" = true) (f3 : G.fld "Form" "last" = true) :
    ∀ m, SmM 4000 m → evSs G b_Form___init__ (.ob "Form" [] :: (aM m).map Sl.fz ++ List.replicate 4 .no) (bodyPoI "Form" (fun d _ => rForm m (.inl d)) (fun c _ => rForm m (.inr c))) := by
  intro m hm
  show evSs G b_Form___init__ [.ob "Form" [], .fz (dM m), .no, .no, .no, .no] _
  have bad : ¬ formP m → rForm m (.inr "BadForm") := fun h => by unfold rForm; rw [if_neg h]
  refine x_seq (x_ite F (evPT_bnot (evPT_of (T := T) (e := .call "_is_table" (.cons (.var 1) .nil)) rfl (evP_call hT (evPM_cons (evP_fz (d := dM m) rfl) rfl evPM_nil) rfl) rfl rfl)) (by simp only [and_self]) (fun hb => x_one (x_rai he (bad fun h => ?_))) (fun hb => x_done ?_))
  · have hb' : (!tabB m) = true := hb
    rw [show tabB m = true from decide_eq_true h.1] at hb'
    cases hb'
  have h1 : BdM 1000 m ∧ symM m := by
    have hb' : (!tabB m) = false := hb
    rw [Bool.not_eq_false'] at hb'
    exact of_decide_eq_true hb'
  refine x_seq (x_asg F (evP_call hd (evPM_cons (evP_fz (d := dM m) rfl) rfl evPM_nil) rfl) ⟨⟨trivial, trivial⟩, hm.up (by omega)⟩ ?_)
  refine x_seq (x_ite F (p := (!(decide (-500 ≤ det3 m) && decide (det3 m ≤ -1)), _)) (by simp only [evPT, evQ, truP, hs]; rfl) (by simp only [true_and, and_true, implies_true]) (fun hb => x_one (x_rai he (bad fun h => ?_))) (fun hb => x_done ?_))
  · have hb' : (!(decide (-500 ≤ det3 m) && decide (det3 m ≤ -1))) = true := hb
    rw [decide_eq_true h.2.1.1, decide_eq_true h.2.1.2] at hb'
    cases hb'
  have h2 : -500 ≤ det3 m ∧ det3 m ≤ -1 := by
    have hb' : (!(decide (-500 ≤ det3 m) && decide (det3 m ≤ -1))) = false := hb
    simpa using hb'
  have cm : ∀ i j : Int, Sm 4000 i → Sm 4000 j → CMulW i j := fun i j a b => Sm.cm a b (by omega)
  refine x_seq (x_ite F (p := (decide (m.1.1 < 0) && decide (m.1.2.1 * m.1.2.1 < m.1.1 * m.2.1.2.1), _)) rfl ?_ (fun hb => x_one (x_rai he (bad fun h => ?_))) (fun hb => x_done ?_))
  · simp only [true_and, and_true]
    repeat' (first | exact cm _ _ hm.1.1 hm.2.1.2.1 | exact cm _ _ hm.1.2.1 hm.1.2.1 | apply And.intro | intro _)
  · have hb' : (decide (m.1.1 < 0) && decide (m.1.2.1 * m.1.2.1 < m.1.1 * m.2.1.2.1)) = true := hb
    exact h.2.2 (by simpa using hb')
  have h3 : ¬(m.1.1 < 0 ∧ m.1.2.1 * m.1.2.1 < m.1.1 * m.2.1.2.1) := by
    have hb' : (decide (m.1.1 < 0) && decide (m.1.2.1 * m.1.2.1 < m.1.1 * m.2.1.2.1)) = false := hb
    simpa using hb'
  have good : rForm m (.inl (fD (objF m))) := by unfold rForm; rw [if_pos ⟨h1, h2, h3⟩]
  clear bad hb
  refine x_seq (x_asg F rfl trivial ?_)
  have hA : ∀ env : En, env[1]? = some (.fz (dM m)) → evPI T (.of (.call "adjoint" (.cons (.var 1) .nil))) env = some ([dR (adj m).1, dR (adj m).2.1, dR (adj m).2.2], (True ∧ True) ∧ SmM 400000 m) := fun env e => by
    show ((evQ T (.call "adjoint" (.cons (.var 1) .nil))).1 env).bind _ = _
    rw [show (evQ T (.call "adjoint" (.cons (.var 1) .nil))).1 env = some (.d (dM (adj m)), (True ∧ True) ∧ SmM 400000 m) from evP_call ha (evPM_cons (evP_fz e) rfl evPM_nil) rfl]
    rfl
  refine x_seq (x_forI F (hA _ rfl) ⟨⟨trivial, trivial⟩, hm.up (by omega)⟩ (fun k env => ∃ x4 x5 : Sl, env = [.ob "Form" [], .fz (dM m), .fz (.int (det3 m)), .fz (.int ((([(adj m).1, (adj m).2.1, (adj m).2.2].take k).flatMap rowL).foldl gI 0)), x4, x5]) ⟨_, _, rfl⟩ ?_ ?_)
  · rintro k d env hk ⟨x4, x5, rfl⟩
    obtain ⟨r, rfl, hr⟩ : ∃ r, d = dR r ∧ [(adj m).1, (adj m).2.1, (adj m).2.2][k]? = some r := by
      have hk' : ([(adj m).1, (adj m).2.1, (adj m).2.2].map dR)[k]? = some d := hk
      rw [List.getElem?_map, Option.map_eq_some_iff] at hk'
      obtain ⟨r, h1, h2⟩ := hk'
      exact ⟨r, h2.symm, h1⟩
    rw [List.take_add_one, hr]
    clear hr hk
    simp only [Option.toList_some, List.flatMap_append, List.flatMap_cons, List.flatMap_nil, List.append_nil, List.foldl_append]
    generalize (([(adj m).1, (adj m).2.1, (adj m).2.2].take k).flatMap rowL).foldl gI 0 = c
    refine ⟨_, rfl, x_one (x_forI F (p := ((rowL r).map D.int, True)) rfl trivial (fun j env => ∃ x5 : Sl, env = [.ob "Form" [], .fz (dM m), .fz (.int (det3 m)), .fz (.int (((rowL r).take j).foldl gI c)), .fz (dR r), x5]) ⟨_, rfl⟩ ?_ ?_)⟩
    · rintro j d env hj ⟨x5, rfl⟩
      rw [List.getElem?_map, Option.map_eq_some_iff] at hj
      obtain ⟨x, hx, rfl⟩ := hj
      rw [List.take_add_one, hx]
      simp only [Option.toList_some, List.foldl_append, List.foldl_cons, List.foldl_nil]
      generalize ((rowL r).take j).foldl gI c = e
      exact ⟨_, rfl, x_one (x_asg F (p := (.d (.int (gI e x)), _)) rfl (by simp only [and_self]) ⟨_, rfl⟩)⟩
    · rintro env ⟨x5, rfl⟩
      exact ⟨_, _, rfl⟩
  rintro env ⟨x4, x5, rfl⟩
  have go : evSs G (.cons (.setA "table" (.var 1)) (.cons (.setA "determinant" (.var 2)) (.cons (.setA "last" (.bin .fdiv (.neg (.var 2)) (.var 3))) .nil))) [.ob "Form" [], .fz (dM m), .fz (.int (det3 m)), .fz (.int (comF (adj m))), x4, x5] (bodyPoI "Form" (fun d _ => rForm m (.inl d)) (fun c _ => rForm m (.inr c))) := by
    refine x_seq (x_setA F rfl trivial rfl rfl f1 (by decide) ?_)
    refine x_seq (x_setA F rfl trivial rfl rfl f2 (show 1 < 1000 by decide) ?_)
    refine x_one (x_setA F rfl ?_ rfl rfl f3 (show 2 < 1000 by decide) ⟨_, rfl, good⟩)
    simp only [true_and]
    exact com_ok (by omega) hm (by omega)
  exact go
end CM

set_option Elab.async false
set_option linter.all false
set_option maxRecDepth 100000
set_option maxHeartbeats 1000000
namespace CM
open PySem PySem.Spec PyProof.Rows L2 PF
variable {G : Tb} {T : Ft}
theorem c3_by {α β γ : Type} {f : D → Option α} {g : D → Option β} {h : D → Option γ} {k : α → β → γ → D × Prop} {c : List D → Option (D × Prop)} (hc : ∀ a b e, c [a, b, e] = (f a).bind fun x => (g b).bind fun y => (h e).map fun z => k x y z) {ds : List D} {p : D × Prop} (hn : ds.length = 3) (hp : c ds = some p) : ∃ a b e x y z, ds = [a, b, e] ∧ f a = some x ∧ g b = some y ∧ h e = some z ∧ p = k x y z := by
  match ds, hn with
  | [a, b, e], _ =>
    rw [hc] at hp
    simp only [Option.bind_eq_some_iff, Option.map_eq_some_iff] at hp
    obtain ⟨x, h1, y, h2, z, h3, h4⟩ := hp
    exact ⟨a, b, e, x, y, z, rfl, h1, h2, h3, h4.symm⟩
/-! ### products -/
def cLP : List D → Option (D × Prop)
  | [a, b, c] => (rdM a).bind fun m => (rdR b).bind fun v => (rdR c).map fun w => (.int (pr m v w), SmM 190000 m ∧ SmR 190000 v ∧ SmR 190000 w)
  | _ => none
def cProd : List D → Option (D × Prop)
  | [a, b, c] => (rdF a).bind fun m => (rdR b).bind fun v => (rdR c).map fun w => (.int (pr m.1 v w), SmM 190000 m.1 ∧ SmR 190000 v ∧ SmR 190000 w)
  | _ => none
def cNorm : List D → Option (D × Prop)
  | [a, b] => (rdF a).bind fun m => (rdR b).map fun v => (.int (pr m.1 v v), SmM 190000 m.1 ∧ SmR 190000 v)
  | _ => none
def cTO : List D → Option (D × Prop)
  | [a, b] => (rdF a).bind fun m => (rdM b).map fun M => (dM (mm (tp M) (mm m.1 M)), SmM 100000 m.1 ∧ SmM 100000 M)
  | _ => none
def cKeep : List D → Option (D × Prop)
  | [a, b] => (rdF a).bind fun m => (rdM b).map fun M => (.bl (decide (mm (tp M) (mm m.1 M) = m.1)), SmM 100000 m.1 ∧ SmM 100000 M)
  | _ => none
theorem h_prod : ∀ ds p, cProd ds = some p → ∃ fs tl, ds = .obj "Form" fs :: tl ∧ fs.lookup ("product" : Str) = none := fun ds p h => by
  unfold cProd at h
  split at h
  · simp only [Option.bind_eq_some_iff] at h
    obtain ⟨x, h1, _⟩ := h
    rw [rdF_ok h1]
    exact ⟨_, _, rfl, rfl⟩
  · cases h
theorem h_norm : ∀ ds p, cNorm ds = some p → ∃ fs tl, ds = .obj "Form" fs :: tl ∧ fs.lookup ("norm" : Str) = none := fun ds p h => by
  unfold cNorm at h
  split at h
  · simp only [Option.bind_eq_some_iff] at h
    obtain ⟨x, h1, _⟩ := h
    rw [rdF_ok h1]
    exact ⟨_, _, rfl, rfl⟩
  · cases h
theorem h_to : ∀ ds p, cTO ds = some p → ∃ fs tl, ds = .obj "Form" fs :: tl ∧ fs.lookup ("_taken_over" : Str) = none := fun ds p h => by
  unfold cTO at h
  split at h
  · simp only [Option.bind_eq_some_iff] at h
    obtain ⟨x, h1, _⟩ := h
    rw [rdF_ok h1]
    exact ⟨_, _, rfl, rfl⟩
  · cases h
theorem h_keep : ∀ ds p, cKeep ds = some p → ∃ fs tl, ds = .obj "Form" fs :: tl ∧ fs.lookup ("is_keeper" : Str) = none := fun ds p h => by
  unfold cKeep at h
  split at h
  · simp only [Option.bind_eq_some_iff] at h
    obtain ⟨x, h1, _⟩ := h
    rw [rdF_ok h1]
    exact ⟨_, _, rfl, rfl⟩
  · cases h
theorem o__law_product (F : FtOk G T) (hi : T.fn "_law_image" = some (fun ds => if ds.length = 2 then cImage ds else none)) : ∀ ds p, ds.length = 3 → cLP ds = some p → p.2 → ∀ P : Po, (∀ env, P.rt p.1 env) → evSs G b__law_product (ds.map Sl.fz ++ List.replicate 1 .no) P := by
  intro ds p hn h hp P q
  obtain ⟨a, b, c, m, v, w, rfl, h1, h2, h3, rfl⟩ := c3_by (k := fun m v w => (.int (pr m v w), SmM 190000 m ∧ SmR 190000 v ∧ SmR 190000 w)) (fun _ _ _ => rfl) hn h
  rw [rdM_ok h1, rdR_ok h2, rdR_ok h3]
  obtain ⟨sm, sv, sw⟩ := hp
  have si := sm_im (by omega) sm sw
  refine x_seq (x_asg F (evP_call hi (evPM_cons (evP_fz (d := dM m) rfl) rfl (evPM_cons (evP_fz (d := dR w) rfl) rfl evPM_nil)) rfl) ⟨⟨trivial, trivial, trivial⟩, sm.up (by omega), sw.up (by omega)⟩ ?_)
  show evSs G _ [.fz (dM m), .fz (dR v), .fz (dR w), .fz (dR (im m w))] _
  refine x_one (x_ret F (p := (.d (.int (pr m v w)), _)) rfl ?_ rfl (q _))
  simp only [true_and, and_true]
  and_intros <;> first | exact Sm.cm sv.1 si.1 (by omega) | exact Sm.cm sv.2.1 si.2.1 (by omega) | exact Sm.cm sv.2.2 si.2.2 (by omega)
theorem o_product (F : FtOk G T) (hi : T.fn "image" = some (fun ds => if ds.length = 2 then cImage ds else none)) (hf : T.fld "Form" "table" = true) : ∀ ds p, ds.length = 3 → cProd ds = some p → p.2 → ∀ P : Po, (∀ env, P.rt p.1 env) → evSs G b_Form_product (ds.map Sl.fz ++ List.replicate 1 .no) P := by
  intro ds p hn h hp P q
  obtain ⟨a, b, c, x, v, w, rfl, h1, h2, h3, rfl⟩ := c3_by (k := fun (m : FD) v w => (.int (pr m.1 v w), SmM 190000 m.1 ∧ SmR 190000 v ∧ SmR 190000 w)) (fun _ _ _ => rfl) hn h
  rw [rdF_ok h1, rdR_ok h2, rdR_ok h3]
  obtain ⟨m, e, l⟩ := x
  obtain ⟨sm, sv, sw⟩ := hp
  have si := sm_im (by omega) sm sw
  refine x_seq (x_asg F (evP_call hi (evPM_cons (evP_attr (evP_fz (i := 0) (d := fD (m, e, l)) rfl) rfl hf rfl) rfl (evPM_cons (evP_fz (d := dR w) rfl) rfl evPM_nil)) rfl) ⟨⟨trivial, trivial, trivial⟩, sm.up (by omega), sw.up (by omega)⟩ ?_)
  show evSs G _ [.fz (fD (m, e, l)), .fz (dR v), .fz (dR w), .fz (dR (im m w))] _
  refine x_one (x_ret F (p := (.d (.int (pr m v w)), _)) rfl ?_ rfl (q _))
  simp only [true_and, and_true]
  and_intros <;> first | exact Sm.cm sv.1 si.1 (by omega) | exact Sm.cm sv.2.1 si.2.1 (by omega) | exact Sm.cm sv.2.2 si.2.2 (by omega)
theorem o_norm (F : FtOk G T) (hm : T.mth "product" = some (fun ds => if ds.length = 3 then cProd ds else none)) : ∀ ds p, ds.length = 2 → cNorm ds = some p → p.2 → ∀ P : Po, (∀ env, P.rt p.1 env) → evSs G b_Form_norm (ds.map Sl.fz ++ List.replicate 0 .no) P := by
  intro ds p hn h hp P q
  obtain ⟨a, b, x, v, rfl, h1, h2, rfl⟩ := c2_by (k := fun (m : FD) v => (.int (pr m.1 v v), SmM 190000 m.1 ∧ SmR 190000 v)) (fun _ _ => rfl) hn h
  rw [rdF_ok h1, rdR_ok h2]
  exact x_one (x_ret F (evP_meth (env := [.fz (fD x), .fz (dR v)]) hm (evP_fz (d := fD x) rfl) rfl (evPM_cons (evP_fz (d := dR v) rfl) rfl (evPM_cons (evP_fz (d := dR v) rfl) rfl evPM_nil)) rfl) ⟨trivial, ⟨trivial, trivial, trivial⟩, hp.1, hp.2, hp.2⟩ rfl (q _))
theorem o_taken (F : FtOk G T) (ht : T.fn "transposed" = some (fun ds => if ds.length = 1 then cTp ds else none)) (hm : T.fn "matrix_product" = some (fun ds => if ds.length = 2 then cMm ds else none)) (hf : T.fld "Form" "table" = true) : ∀ ds p, ds.length = 2 → cTO ds = some p → p.2 → ∀ P : Po, (∀ env, P.rt p.1 env) → evSs G b_Form__taken_over (ds.map Sl.fz ++ List.replicate 0 .no) P := by
  intro ds p hn h hp P q
  obtain ⟨a, b, x, M, rfl, h1, h2, rfl⟩ := c2_by (k := fun (m : FD) M => (dM (mm (tp M) (mm m.1 M)), SmM 100000 m.1 ∧ SmM 100000 M)) (fun _ _ => rfl) hn h
  rw [rdF_ok h1, rdM_ok h2]
  obtain ⟨m, e, l⟩ := x
  have e1 := evP_call (T := T) (f := "transposed") (env := [.fz (fD (m, e, l)), .fz (dM M)]) (l := .cons (.var 1) .nil) ht (evPM_cons (evP_fz (d := dM M) rfl) rfl evPM_nil) rfl
  have e2 := evP_call (T := T) (f := "matrix_product") (env := [.fz (fD (m, e, l)), .fz (dM M)]) (l := .cons (.attr (.var 0) "table") (.cons (.var 1) .nil)) hm (evPM_cons (evP_attr (evP_fz (d := fD (m, e, l)) rfl) rfl hf rfl) rfl (evPM_cons (evP_fz (d := dM M) rfl) rfl evPM_nil)) rfl
  exact x_one (x_ret F (evP_call hm (evPM_cons e1 rfl (evPM_cons e2 rfl evPM_nil)) rfl) ⟨⟨⟨⟨trivial, trivial⟩, trivial⟩, ⟨⟨trivial, trivial, trivial⟩, hp.1.up (by omega), hp.2.up (by omega)⟩, trivial⟩, (sm_tp hp.2).up (by omega), (sm_mm (by omega) hp.1 hp.2).up (by omega)⟩ rfl (q _))
theorem o_keeper (F : FtOk G T) (hm : T.mth "_taken_over" = some (fun ds => if ds.length = 2 then cTO ds else none)) (hf : T.fld "Form" "table" = true) : ∀ ds p, ds.length = 2 → cKeep ds = some p → p.2 → ∀ P : Po, (∀ env, P.rt p.1 env) → evSs G b_Form_is_keeper (ds.map Sl.fz ++ List.replicate 0 .no) P := by
  intro ds p hn h hp P q
  obtain ⟨a, b, x, M, rfl, h1, h2, rfl⟩ := c2_by (k := fun (m : FD) M => (.bl (decide (mm (tp M) (mm m.1 M) = m.1)), SmM 100000 m.1 ∧ SmM 100000 M)) (fun _ _ => rfl) hn h
  rw [rdF_ok h1, rdM_ok h2]
  obtain ⟨m, e, l⟩ := x
  have e1 := evP_meth (T := T) (m := "_taken_over") (env := [.fz (fD (m, e, l)), .fz (dM M)]) (o := .var 0) (l := .cons (.var 1) .nil) hm (evP_fz (d := fD (m, e, l)) rfl) rfl (evPM_cons (evP_fz (d := dM M) rfl) rfl evPM_nil) rfl
  refine x_one (x_ret F (evP_cmp (op := .eq) e1 (evP_attr (evP_fz (d := fD (m, e, l)) rfl) rfl hf rfl) rfl rfl rfl) ⟨⟨trivial, ⟨trivial, trivial⟩, hp⟩, trivial, rfl, rfl⟩ rfl ?_)
  have := q [.fz (fD (m, e, l)), .fz (dM M)]
  rwa [← eqD_M] at this
theorem o__law_turned (F : FtOk G T) : ∀ ds p, ds.length = 1 → cTp ds = some p → p.2 → ∀ P : Po, (∀ env, P.rt p.1 env) → evSs G b__law_turned (ds.map Sl.fz ++ List.replicate 1 .no) P := by
  intro ds p hn h hp P q
  obtain ⟨a, m, rfl, h1, rfl⟩ := c1_by (k := fun m => (dM (tp m), True)) (fun _ => rfl) hn h
  rw [rdM_ok h1]
  refine x_one (x_ret F rfl ?_ rfl (q _))
  simp only [true_and, and_true]
  and_intros <;> first | omega | exact (show 3 ≤ sizeLine by decide)
end CM

set_option Elab.async false
set_option linter.all false
set_option maxRecDepth 100000
set_option maxHeartbeats 1000000
namespace CM
open PySem PySem.Spec PyProof.Rows L2 PF
variable {G : Tb} {T : Ft}
/-! ### the menu of forms -/
abbrev I6 := Int × Int × Int × Int × Int × Int
def d6 (x : I6) : D := .tup [.int x.1, .int x.2.1, .int x.2.2.1, .int x.2.2.2.1, .int x.2.2.2.2.1, .int x.2.2.2.2.2]
def t6 (x : I6) : M3 := ((x.1, x.2.1, x.2.2.1), (x.2.1, x.2.2.2.1, x.2.2.2.2.1), (x.2.2.1, x.2.2.2.2.1, x.2.2.2.2.2))
def L6 : List I6 := [(1, 0, 0, 1, 0, -1), (1, 0, 0, 1, 0, -2), (1, 0, 0, 1, 0, -3), (1, 0, 0, 2, 0, -1), (1, 0, 0, 1, 0, -5), (1, 0, 0, 3, 0, -1), (2, 0, 0, 3, 0, -1), (2, 1, 0, 2, 0, -1), (2, 1, 0, 2, 0, -3), (0, 1, 0, 0, 0, 1), (0, 1, 0, 0, 0, 2), (1, 0, 0, 6, 0, -7), (2, 1, 0, 4, 0, -1), (2, 1, 1, -3, 0, 2), (3, 1, -1, 5, 2, -23), (1, 0, 0, 10, 0, -10), (4, 2, 0, 4, 0, -6), (0, 0, 3, 5, 0, 0)]
def menuT : List M3 := L6.map t6
def cMenu : List D → Option (D × Prop)
  | [] => some (.lst (menuT.map dM), True)
  | _ => none
theorem o__law_menu (F : FtOk G T) : ∀ ds p, ds.length = 0 → cMenu ds = some p → p.2 → ∀ P : Po, (∀ env, P.rt p.1 env) → evSs G b__law_menu (ds.map Sl.fz ++ List.replicate 8 .no) P := by
  intro ds p hn h hp P q
  match ds, hn with
  | [], _ =>
    cases h
    have s6 : 6 ≤ sizeLine := by decide
    have s12 : 12 ≤ sizeLine := by decide
    have s18 : 18 ≤ sizeLine := by decide
    refine x_seq (x_asg F (p := (.nw ((L6.take 6).map d6), _)) rfl (by simp only [true_and, and_true]; and_intros <;> exact s6) ?_)
    refine x_seq (x_asg F (p := (.nw ((L6.take 12).map d6), _)) rfl (by simp only [true_and, and_true]; and_intros <;> first | exact s6 | exact s12) ?_)
    refine x_seq (x_asg F (p := (.nw (L6.map d6), _)) rfl (by simp only [true_and, and_true]; and_intros <;> first | exact s6 | exact s18) ?_)
    refine x_seq (x_asg F rfl ⟨trivial, Nat.zero_le _⟩ ?_)
    show evSs G _ [.own 0 (L6.map d6), .own 0 [], .no, .no, .no, .no, .no, .no] _
    refine x_fz [0] (x_forI F (p := (L6.map d6, True)) rfl trivial (fun k env => ∃ x2 x3 x4 x5 x6 x7 : Sl, env = [.fz (.lst (L6.map d6)), .own 0 ((L6.take k).map fun x => dM (t6 x)), x2, x3, x4, x5, x6, x7]) ⟨_, _, _, _, _, _, rfl⟩ ?_ ?_)
    · rintro k d env hk ⟨x2, x3, x4, x5, x6, x7, rfl⟩
      rw [List.getElem?_map, Option.map_eq_some_iff] at hk
      obtain ⟨x, hx, rfl⟩ := hk
      have hl : k < 18 := (List.getElem?_eq_some_iff.mp hx).1
      rw [List.take_add_one, hx]
      simp only [Option.toList_some, List.map_append, List.map_cons, List.map_nil]
      refine ⟨_, rfl, x_one (x_app F (k := 0) (ds := (L6.take k).map fun x => dM (t6 x)) (p := (.d (dM (t6 x)), _)) rfl rfl (by simp only [true_and, and_true]; and_intros <;> exact (show 3 ≤ sizeLine by decide)) rfl (by rw [List.length_map, List.length_take]; exact Nat.lt_of_le_of_lt (Nat.min_le_left _ _) (Nat.lt_of_lt_of_le hl s18)) ⟨_, _, _, _, _, _, rfl⟩)⟩
    · rintro env ⟨x2, x3, x4, x5, x6, x7, rfl⟩
      refine x_fz [1] (x_ret F (p := (.d (.lst (menuT.map dM)), _)) ?_ trivial rfl (q _))
      show some (Ev.d (.lst ((L6.take 18).map fun x => dM (t6 x))), True) = _
      rfl
/-! ### the drawn table -/
def Tab (m : M3) : Prop := ∃ b ∈ menuT, ∃ k M, Stp k M ∧ k ≤ 3 ∧ m = mm (tp M) (mm b M) ∧ BdM 1000 m
theorem mm_one (m : M3) : mm (tp one3) (mm m one3) = m := by
  obtain ⟨⟨a1, a2, a3⟩, ⟨a4, a5, a6⟩, a7, a8, a9⟩ := m
  simp only [mm, rm, tp, dot, one3, Prod.mk.injEq]
  and_intros <;> grind
theorem menu_bd : ∀ b ∈ menuT, BdM 23 b := by decide
theorem BdR.up {a b : Int} {r : R3} (h : BdR a r) (hb : a ≤ b) : BdR b r := by
  obtain ⟨⟨a1, a2⟩, ⟨a3, a4⟩, a5, a6⟩ := h
  exact ⟨⟨by omega, by omega⟩, ⟨by omega, by omega⟩, by omega, by omega⟩
theorem BdM.up {a b : Int} {m : M3} (h : BdM a m) (hb : a ≤ b) : BdM b m := ⟨h.1.up hb, h.2.1.up hb, h.2.2.up hb⟩
def ab (i : Int) : Int := if i < 0 then -i else i
def mxR (r : R3) : Int := maxL [ab r.1, ab r.2.1, ab r.2.2]
def mxM (m : M3) : Int := maxL [mxR m.1, mxR m.2.1, mxR m.2.2]
theorem mxR_bd {r : R3} {n : Int} (h : mxR r ≤ n) : BdR n r := by
  have k := (maxL_mem (ns := [ab r.1, ab r.2.1, ab r.2.2]) (by simp)).2
  have a := k (ab r.1) (by simp)
  have b := k (ab r.2.1) (by simp)
  have c := k (ab r.2.2) (by simp)
  unfold mxR at h
  have go : ∀ y : Int, ab y ≤ n → -n ≤ y ∧ y ≤ n := fun y hy => by unfold ab at hy; split at hy <;> omega
  exact ⟨go _ (Int.le_trans a h), go _ (Int.le_trans b h), go _ (Int.le_trans c h)⟩
theorem mxM_bd {m : M3} {n : Int} (h : mxM m ≤ n) : BdM n m := by
  have k := (maxL_mem (ns := [mxR m.1, mxR m.2.1, mxR m.2.2]) (by simp)).2
  have a := k (mxR m.1) (by simp)
  have b := k (mxR m.2.1) (by simp)
  have c := k (mxR m.2.2) (by simp)
  unfold mxM at h
  exact ⟨mxR_bd (Int.le_trans a h), mxR_bd (Int.le_trans b h), mxR_bd (Int.le_trans c h)⟩
def aL (ds : List D) : List D := [.lst ds]
def pTab (ds : List D) : Prop := (∀ d ∈ ds, isDr d) ∧ 5 ≤ ds.length
def rTab (_ : List D) (o : D ⊕ Str) : Prop := ∃ m, Tab m ∧ o = .inl (dM m)
theorem pow3 {k n : Nat} (h : k ≤ n) : (3 : Int) ^ k ≤ 3 ^ n := by
  have := Nat.pow_le_pow_right (show 0 < 3 by decide) h
  exact_mod_cast this
theorem cut1 {a : D} {ds : List D} : PF.cutD (a :: ds) (some 1) none = ds := by
  unfold PF.cutD
  have e1 : HT.sIx (a :: ds).length 0 (some (1 : Int)) = 1 := by
    unfold HT.sIx
    simp only [show ¬ ((1 : Int) < 0) by omega, if_false, List.length_cons]
    omega
  have e2 : HT.sIx (a :: ds).length (a :: ds).length none = (a :: ds).length := rfl
  rw [e1, e2]
  show (ds.take ((a :: ds).length - 1)) = ds
  rw [List.length_cons, Nat.add_sub_cancel, List.take_length]
theorem o__law_table (F : FtOk G T) (hm : T.fn "_law_menu" = some (fun ds => if ds.length = 0 then cMenu ds else none)) (ht : T.fn "_law_times" = some (fun ds => if ds.length = 2 then cMm ds else none)) (htu : T.fn "_law_turned" = some (fun ds => if ds.length = 1 then cTp ds else none))
    (hs : G.fns "_law_steps" = some (List.replicate 2 false, Fn.rl aSteps pSteps rSteps)) : ∀ ds, pTab ds → evSs G b__law_table ((aL ds).map Sl.fz ++ List.replicate 6 .no) (valPo (fun d => rTab ds (.inl d)) (fun c => rTab ds (.inr c))) := by
  rintro ds ⟨h1, h2⟩
  match ds, h1, h2 with
  | d0 :: tl, h1, h2 =>
    obtain ⟨x, rfl, hx⟩ := h1 d0 (by simp)
    refine x_seq (x_asg F (evP_call hm evPM_nil rfl) ⟨trivial, trivial⟩ ?_)
    show evSs G _ [.fz (.lst (.int x :: tl)), .fz (.lst (menuT.map dM)), .no, .no, .no, .no, .no] _
    obtain ⟨d, hd, hix⟩ := ix_menu (ds := menuT.map dM) (i := x % ((menuT.map dM).length : Int)) (Int.emod_nonneg _ (by decide)) (Int.emod_lt_of_pos _ (by decide))
    rw [List.mem_map] at hd
    obtain ⟨b, hb, rfl⟩ := hd
    refine x_seq (x_asg F (evP_ix (evP_fz (d := .lst (menuT.map dM)) rfl) (b := .bin .mod (.bi .int (.cons (.ix (.var 0) (.cst (.int 0))) .nil)) (.bi .len (.cons (.var 1) .nil))) (vb := .d (.int (x % ((menuT.map dM).length : Int)))) rfl rfl rfl hix) ?_ ?_)
    · simp only [true_and, and_true]; decide
    show evSs G _ [.fz (.lst (.int x :: tl)), .fz (.lst (menuT.map dM)), .fz (dM b), .no, .no, .no, .no] _
    clear hix
    obtain ⟨k, hk, hk4⟩ : ∃ k : Nat, x / 20 % 4 = k ∧ k < 4 := ⟨(x / 20 % 4).toNat, by omega, by omega⟩
    refine x_seq (x_asgR F (α := List D × Nat) (n := 2) (p := ([.lst (PF.cutD (.int x :: tl) (some 1) none), .int (x / 20 % 4)], _)) hs rfl ?_ (tl, k) ?_ rfl ⟨fun d m => h1 d (List.mem_cons_of_mem _ m), by show k ≤ tl.length; simp at h2; omega, by show k ≤ 20; omega⟩ ?_ (fun c ⟨_, _, hc⟩ => by cases hc))
    · simp only [true_and, and_true]; decide
    · rw [cut1, hk]; rfl
    rintro d ⟨M, hM, hd⟩
    cases hd
    replace hM : Stp k M := hM
    show evSs G _ [.fz (.lst (.int x :: tl)), .fz (.lst (menuT.map dM)), .fz (dM b), .fz (dM M), .no, .no, .no] _
    have bM : BdM 27 M := hM.bd.up (pow3 (n := 3) (by omega))
    have bb : BdM 23 b := menu_bd b hb
    have sM : SmM 10 M := bM.sm (by decide)
    have sb : SmM 10 b := bb.sm (by decide)
    have e1 := evP_call (T := T) (f := "_law_turned") (env := [.fz (.lst (.int x :: tl)), .fz (.lst (menuT.map dM)), .fz (dM b), .fz (dM M), .no, .no, .no]) (l := .cons (.var 3) .nil) htu (evPM_cons (evP_fz (d := dM M) rfl) rfl evPM_nil) rfl
    have e2 := evP_call (T := T) (f := "_law_times") (env := [.fz (.lst (.int x :: tl)), .fz (.lst (menuT.map dM)), .fz (dM b), .fz (dM M), .no, .no, .no]) (l := .cons (.var 2) (.cons (.var 3) .nil)) ht (evPM_cons (evP_fz (d := dM b) rfl) rfl (evPM_cons (evP_fz (d := dM M) rfl) rfl evPM_nil)) rfl
    refine x_seq (x_asg F (evP_call ht (evPM_cons e1 rfl (evPM_cons e2 rfl evPM_nil)) rfl) ⟨⟨⟨⟨trivial, trivial⟩, trivial⟩, ⟨⟨trivial, trivial, trivial⟩, sb.up (by omega), sM.up (by omega)⟩, trivial⟩, (sm_tp sM).up (by omega), (sm_mm (by omega) sb sM).up (by omega)⟩ ?_)
    show evSs G _ [.fz (.lst (.int x :: tl)), .fz (.lst (menuT.map dM)), .fz (dM b), .fz (dM M), .fz (dM (mm (tp M) (mm b M))), .no, .no] _
    have hX : ∃ X, X = mm (tp M) (mm b M) := ⟨_, rfl⟩
    obtain ⟨X, hX⟩ := hX
    rw [← hX]
    have hmx : ∀ X : M3, evPT T (.cmp .gt (.bi .max (.cons (.lc (.name 5) (.of (.var 4)) .nil (.bi .max (.cons (.lc (.name 6) (.of (.var 5)) .nil (.bi .abs (.cons (.var 6) .nil))) .nil))) .nil)) (.cst (.int 1000))) [.fz (.lst (.int x :: tl)), .fz (.lst (menuT.map dM)), .fz (dM b), .fz (dM M), .fz (dM X), .no, .no] = some (decide (1000 < mxM X), True) := fun X => by
      refine pv_true (c := _) (v := decide (1000 < mxM X)) rfl ?_
      simp only [true_and, and_true]
      and_intros <;> first | exact (show 3 ≤ sizeLine by decide) | simp
    refine x_seq (x_ite F (hmx X) trivial (fun hq => x_one (x_ret F (evP_fz (d := dM b) rfl) trivial rfl ⟨b, ⟨b, hb, 0, one3, .zero, by omega, (mm_one b).symm, bb.up (by decide)⟩, rfl⟩)) (fun hq => x_done ?_))
    have hq' : decide (1000 < mxM X) = false := hq
    rw [decide_eq_false_iff_not] at hq'
    exact x_one (x_ret F (evP_fz (d := dM X) rfl) trivial rfl ⟨X, ⟨b, hb, k, M, hM, by omega, hX, mxM_bd (by omega)⟩, rfl⟩)
end CM

set_option Elab.async false
set_option linter.all false
set_option maxRecDepth 100000
set_option maxHeartbeats 1000000
namespace CM
open PySem PySem.Spec PyProof.Rows L2 PF
variable {G : Tb} {T : Ft}
/-! ### the greatest common divisor, by Euclid's steps -/
theorem gI_step {c a : Int} (hc : 0 ≤ c) (ha : 0 ≤ a) : gI a (c % a) = gI c a := by
  obtain ⟨c, rfl⟩ := Int.eq_ofNat_of_zero_le hc
  obtain ⟨a, rfl⟩ := Int.eq_ofNat_of_zero_le ha
  unfold gI
  rw [← Int.natCast_emod, Int.natAbs_natCast, Int.natAbs_natCast, Int.natAbs_natCast]
  rw [Nat.gcd_comm c a, Nat.gcd_rec a c, Nat.gcd_comm]
theorem gI_zero {c : Int} (hc : 0 ≤ c) : gI c 0 = c := by
  unfold gI
  simp
  omega
theorem gI_ab (c x : Int) : gI c (ab x) = gI c x := by
  unfold gI ab
  split
  · rw [Int.natAbs_neg]
  · rfl
theorem ab_nn (x : Int) : 0 ≤ ab x := by unfold ab; split <;> omega
def g3 (r : R3) : Int := (rowL r).foldl gI 0
def cCom : List D → Option (D × Prop)
  | [a] => (rdR a).map fun r => (.int (g3 r), BdR 399 r)
  | _ => none
theorem bd_mem {r : R3} {n x : Int} (h : BdR n r) (hx : x ∈ rowL r) : -n ≤ x ∧ x ≤ n := by
  unfold rowL at hx
  simp only [List.mem_cons, List.not_mem_nil, or_false] at hx
  rcases hx with rfl | rfl | rfl
  · exact h.1
  · exact h.2.1
  · exact h.2.2
theorem o__law_common (F : FtOk G T) : ∀ ds p, ds.length = 1 → cCom ds = some p → p.2 → ∀ P : Po, (∀ env, P.rt p.1 env) → evSs G b__law_common (ds.map Sl.fz ++ List.replicate 3 .no) P := by
  intro ds p hn h hp P q
  obtain ⟨a, r, rfl, h1, rfl⟩ := c1_by (k := fun r => (.int (g3 r), BdR 399 r)) (fun _ => rfl) hn h
  rw [rdR_ok h1]
  clear h h1 hn
  have hb : BdR 399 r := hp
  refine x_seq (x_asg F rfl trivial ?_)
  refine x_seq (x_forI F (p := ((rowL r).map D.int, True)) rfl trivial (fun k env => ∃ x2 x3 : Sl, env = [.fz (dR r), .fz (.int (((rowL r).take k).foldl gI 0)), x2, x3]) ⟨_, _, rfl⟩ ?_ ?_)
  · rintro k d env hk ⟨x2, x3, rfl⟩
    rw [List.getElem?_map, Option.map_eq_some_iff] at hk
    obtain ⟨x, hx, rfl⟩ := hk
    have hxb := bd_mem hb (List.mem_of_getElem? hx)
    have nn : 0 ≤ ((rowL r).take k).foldl gI 0 := by
      cases hl : ((rowL r).take k).reverse with
      | nil => rw [List.reverse_eq_nil_iff] at hl; rw [hl]; decide
      | cons y ys => rw [List.reverse_eq_cons_iff] at hl; rw [hl, List.foldl_append]; exact gI_nn _ _
    rw [List.take_add_one, hx]
    simp only [Option.toList_some, List.foldl_append, List.foldl_cons, List.foldl_nil]
    revert nn
    generalize ((rowL r).take k).foldl gI 0 = c
    intro nn
    clear hx
    refine ⟨_, rfl, x_seq (x_asg F (p := (.d (.int (ab x)), _)) rfl (by simp only [and_self]) ?_)⟩
    show evSs G _ [.fz (dR r), .fz (.int c), .fz (.int (ab x)), x3] _
    refine x_one (x_forI F rfl (by simp only [true_and]; exact ⟨by decide, by decide⟩) (fun j env => ∃ (c' a' : Int) (x3 : Sl), env = [.fz (dR r), .fz (.int c'), .fz (.int a'), x3] ∧ gI c' a' = gI c x ∧ 0 ≤ c' ∧ 0 ≤ a' ∧ (a' + j ≤ ab x ∨ a' = 0)) ⟨c, ab x, x3, rfl, gI_ab c x, nn, ab_nn x, .inl (by simp)⟩ ?_ ?_)
    · rintro j d env hj ⟨c', a', x3, rfl, i1, i2, i3, i4⟩
      refine ⟨_, rfl, x_one (x_ite F (p := (!decide (a' = 0), _)) rfl (by simp only [and_self]) (fun hq => ?_) (fun hq => x_done ?_))⟩
      · have h0 : a' ≠ 0 := by simpa using hq
        refine x_one (x_par2 F (p := ([.d (.int a'), .d (.int (c' % a'))], _)) rfl ?_ rfl ⟨_, _, _, rfl, ?_, i3, Int.emod_nonneg _ h0, ?_⟩)
        · simp only [true_and, and_true]; omega
        · rw [gI_step i2 i3]; exact i1
        · have := Int.emod_lt_of_pos c' (show 0 < a' by omega)
          rcases i4 with i4 | i4
          · left; push_cast; omega
          · exact absurd i4 h0
      · have h0 : a' = 0 := by simpa using hq
        exact ⟨c', a', _, rfl, i1, i2, i3, .inr h0⟩
    · rintro env ⟨c', a', x3, rfl, i1, i2, i3, i4⟩
      have h0 : a' = 0 := by
        rcases i4 with i4 | i4
        · have hx4 : ab x ≤ 399 := by unfold ab; split <;> omega
          have e : ((PF.intsFrom 0 (400 : Int).toNat).length : Int) = 400 := by rw [intsFrom_len]; rfl
          rw [e] at i4
          omega
        · exact i4
      subst h0
      rw [gI_zero i2] at i1
      rw [i1]
      exact ⟨_, _, rfl⟩
  · rintro env ⟨x2, x3, rfl⟩
    exact x_one (x_ret F (p := (.d (.int (g3 r)), _)) rfl trivial rfl (q _))
/-! ### roots -/
def allB (m : M3) (r : R3) : Bool := decide (2 * (im m r).1 % pr m r r = 0) && (decide (2 * (im m r).2.1 % pr m r r = 0) && (decide (2 * (im m r).2.2 % pr m r r = 0) && true))
def rootP (m : M3) (r : R3) : Prop := (0 < pr m r r ∧ g3 r = 1) ∧ (2 * (im m r).1 % pr m r r = 0 ∧ 2 * (im m r).2.1 % pr m r r = 0 ∧ 2 * (im m r).2.2 % pr m r r = 0)
instance (m : M3) (r : R3) : Decidable (rootP m r) := by unfold rootP; exact inferInstance
def cRoot : List D → Option (D × Prop)
  | [a, b] => (rdM a).bind fun m => (rdR b).map fun r => (.bl (decide (rootP m r)), SmM 1000 m ∧ BdR 399 r)
  | _ => none
theorem o__law_is_root (F : FtOk G T) (hp' : T.fn "_law_product" = some (fun ds => if ds.length = 3 then cLP ds else none)) (hc : T.fn "_law_common" = some (fun ds => if ds.length = 1 then cCom ds else none)) (hi : T.fn "_law_image" = some (fun ds => if ds.length = 2 then cImage ds else none)) :
    ∀ ds p, ds.length = 2 → cRoot ds = some p → p.2 → ∀ P : Po, (∀ env, P.rt p.1 env) → evSs G b__law_is_root (ds.map Sl.fz ++ List.replicate 2 .no) P := by
  intro ds p hn h hp P q
  obtain ⟨a, b, m, r, rfl, h1, h2, rfl⟩ := c2_by (k := fun m r => (.bl (decide (rootP m r)), SmM 1000 m ∧ BdR 399 r)) (fun _ _ => rfl) hn h
  rw [rdM_ok h1, rdR_ok h2]
  clear h h1 h2 hn
  obtain ⟨sm, br⟩ := hp
  have sr : SmR 1000 r := (br.sm (k := 9) (by decide)).up (by omega)
  refine x_seq (x_asg F (evP_call hp' (evPM_cons (evP_fz (d := dM m) rfl) rfl (evPM_cons (evP_fz (d := dR r) rfl) rfl (evPM_cons (evP_fz (d := dR r) rfl) rfl evPM_nil))) rfl) ⟨⟨trivial, trivial, trivial, trivial⟩, sm.up (by omega), sr.up (by omega), sr.up (by omega)⟩ ?_)
  show evSs G _ [.fz (dM m), .fz (dR r), .fz (.int (pr m r r)), .no] _
  have c1 : evPT T (.cmp .le (.var 2) (.cst (.int 0))) [.fz (dM m), .fz (dR r), .fz (.int (pr m r r)), .no] = some (decide (pr m r r ≤ 0), _) := evPT_cmp (evP_fz (d := .int (pr m r r)) rfl) rfl rfl rfl rfl
  have c2 := evPT_cmp (T := T) (op := .ne) (env := [.fz (dM m), .fz (dR r), .fz (.int (pr m r r)), .no]) (b := .cst (.int 1)) (evP_call (l := .cons (.var 1) .nil) hc (evPM_cons (evP_fz (d := dR r) rfl) rfl evPM_nil) rfl) rfl rfl rfl rfl
  refine x_seq (x_ite F (evPT_bor (evPOr_c c1 (evPOr_1 c2))) ?_ (fun hq => x_one (x_ret F (p := (.d (.bl false), True)) rfl trivial rfl ?_)) (fun hq => x_done ?_))
  · refine ⟨by simp only [and_self], fun _ => ?_⟩
    simp only [true_and, and_true]; exact br
  · have hq' : (decide (pr m r r ≤ 0) || !decide (g3 r = 1)) = true := hq
    have e : decide (rootP m r) = false := by
      rw [decide_eq_false_iff_not]
      intro hr
      rw [decide_eq_false (by have := hr.1.1; omega), decide_eq_true hr.1.2] at hq'
      cases hq'
    have := q [.fz (dM m), .fz (dR r), .fz (.int (pr m r r)), .no]
    dsimp only at this
    rwa [e] at this
  · have hq' : (decide (pr m r r ≤ 0) || !decide (g3 r = 1)) = false := hq
    simp only [Bool.or_eq_false_iff, Bool.not_eq_false', decide_eq_true_eq, decide_eq_false_iff_not] at hq'
    have hpos : 0 < pr m r r := by omega
    have si := sm_im (by omega) sm sr
    have hI : evPI T (.of (.call "_law_image" (.cons (.var 0) (.cons (.var 1) .nil)))) [.fz (dM m), .fz (dR r), .fz (.int (pr m r r)), .no] = some ([.int (im m r).1, .int (im m r).2.1, .int (im m r).2.2], (True ∧ True ∧ True) ∧ SmM 400000 m ∧ SmR 400000 r) := by
      show ((evQ T (.call "_law_image" (.cons (.var 0) (.cons (.var 1) .nil)))).1 _).bind _ = _
      rw [show (evQ T (.call "_law_image" (.cons (.var 0) (.cons (.var 1) .nil)))).1 [.fz (dM m), .fz (dR r), .fz (.int (pr m r r)), .no] = some (.d (dR (im m r)), (True ∧ True ∧ True) ∧ SmM 400000 m ∧ SmR 400000 r) from evP_call hi (evPM_cons (evP_fz (d := dM m) rfl) rfl (evPM_cons (evP_fz (d := dR r) rfl) rfl evPM_nil)) rfl]
      rfl
    have e : ∃ c, evP T (.bi .all (.cons (.lc (.name 3) (.of (.call "_law_image" (.cons (.var 0) (.cons (.var 1) .nil)))) .nil (.cmp .eq (.bin .mod (.bin .mul (.cst (.int 2)) (.var 3)) (.var 2)) (.cst (.int 0)))) .nil)) [.fz (dM m), .fz (dR r), .fz (.int (pr m r r)), .no] = some (.d (.bl (allB m r)), c) ∧ c := by
      have el : ∃ c, evP T (.lc (.name 3) (.of (.call "_law_image" (.cons (.var 0) (.cons (.var 1) .nil)))) .nil (.cmp .eq (.bin .mod (.bin .mul (.cst (.int 2)) (.var 3)) (.var 2)) (.cst (.int 0)))) [.fz (dM m), .fz (dR r), .fz (.int (pr m r r)), .no] = some (.nw [.bl (decide (2 * (im m r).1 % pr m r r = 0)), .bl (decide (2 * (im m r).2.1 % pr m r r = 0)), .bl (decide (2 * (im m r).2.2 % pr m r r = 0))], c) ∧ c := by
        simp only [evP, evQ]
        rw [hI]
        refine ⟨_, rfl, ?_⟩
        have cm : ∀ x, Sm 2002 x → CMulW 2 x := fun x hx => Sm.cm (a := 2) (sm_nat (by decide)) hx (by decide)
        simp only [true_and, and_true]
        repeat' (first | exact sm.up (by omega) | exact sr.up (by omega) | exact hpos | exact cm _ si.1 | exact cm _ si.2.1 | exact cm _ si.2.2 | exact (show 3 ≤ sizeLine by decide) | apply And.intro)
      obtain ⟨c, e1, e2⟩ := el
      exact ⟨_, evP_bi1 e1 rfl rfl, ⟨e2, trivial⟩, trivial⟩
    obtain ⟨c, e1, e2⟩ := e
    refine x_one (x_ret F e1 e2 rfl ?_)
    have ee : decide (rootP m r) = allB m r := by
      rw [Bool.eq_iff_iff, decide_eq_true_iff]
      unfold allB rootP
      simp [hpos, hq'.2]
    have := q [.fz (dM m), .fz (dR r), .fz (.int (pr m r r)), .no]
    dsimp only at this
    rwa [ee] at this
end CM

set_option Elab.async false
set_option linter.all false
set_option maxRecDepth 100000
set_option maxHeartbeats 1000000
namespace CM
open PF
/-! ## plain facts of tables and forms -/
theorem im_mm (a b : M3) (r : R3) : im (mm a b) r = im a (im b r) := by
  obtain ⟨⟨a1, a2, a3⟩, ⟨a4, a5, a6⟩, a7, a8, a9⟩ := a
  obtain ⟨⟨b1, b2, b3⟩, ⟨b4, b5, b6⟩, b7, b8, b9⟩ := b
  obtain ⟨r1, r2, r3⟩ := r
  simp only [im, mm, rm, tp, dot, Prod.mk.injEq]
  refine ⟨?_, ?_, ?_⟩ <;> grind
theorem mm_assoc (a b c : M3) : mm (mm a b) c = mm a (mm b c) := by
  obtain ⟨⟨a1, a2, a3⟩, ⟨a4, a5, a6⟩, a7, a8, a9⟩ := a
  obtain ⟨⟨b1, b2, b3⟩, ⟨b4, b5, b6⟩, b7, b8, b9⟩ := b
  obtain ⟨⟨c1, c2, c3⟩, ⟨c4, c5, c6⟩, c7, c8, c9⟩ := c
  simp only [mm, rm, tp, dot, Prod.mk.injEq]
  and_intros <;> grind
theorem tp_mm (a b : M3) : tp (mm a b) = mm (tp b) (tp a) := by
  obtain ⟨⟨a1, a2, a3⟩, ⟨a4, a5, a6⟩, a7, a8, a9⟩ := a
  obtain ⟨⟨b1, b2, b3⟩, ⟨b4, b5, b6⟩, b7, b8, b9⟩ := b
  simp only [mm, rm, tp, dot, Prod.mk.injEq]
  and_intros <;> grind
theorem det_tp (a : M3) : det3 (tp a) = det3 a := by
  obtain ⟨⟨a1, a2, a3⟩, ⟨a4, a5, a6⟩, a7, a8, a9⟩ := a
  simp only [det3, dot, cr, tp]
  grind
theorem mm_inv {m : M3} (h : det3 m = 1 ∨ det3 m = -1) : mm m (inv3 m) = one3 ∧ mm (inv3 m) m = one3 := by
  have hd : det3 m * det3 m = 1 := by rcases h with h | h <;> rw [h] <;> rfl
  generalize hq : det3 m = q at hd
  obtain ⟨⟨a1, a2, a3⟩, ⟨a4, a5, a6⟩, a7, a8, a9⟩ := m
  simp only [det3, dot, cr] at hq
  simp only [inv3, det3, hq, mm, rm, tp, dot, adj, cr, one3, Prod.mk.injEq]
  and_intros <;> grind
theorem im_one (r : R3) : im one3 r = r := by
  obtain ⟨r1, r2, r3⟩ := r
  simp only [im, dot, one3, Prod.mk.injEq]
  refine ⟨?_, ?_, ?_⟩ <;> grind
theorem one_mm (m : M3) : mm one3 m = m := by
  obtain ⟨⟨a1, a2, a3⟩, ⟨a4, a5, a6⟩, a7, a8, a9⟩ := m
  simp only [mm, rm, tp, dot, one3, Prod.mk.injEq]
  and_intros <;> grind
theorem mm_one' (m : M3) : mm m one3 = m := by
  obtain ⟨⟨a1, a2, a3⟩, ⟨a4, a5, a6⟩, a7, a8, a9⟩ := m
  simp only [mm, rm, tp, dot, one3, Prod.mk.injEq]
  and_intros <;> grind
theorem dot_tp (a : M3) (v u : R3) : dot v (im (tp a) u) = dot (im a v) u := by
  obtain ⟨⟨a1, a2, a3⟩, ⟨a4, a5, a6⟩, a7, a8, a9⟩ := a
  obtain ⟨v1, v2, v3⟩ := v
  obtain ⟨u1, u2, u3⟩ := u
  simp only [im, tp, dot]
  grind
/-- the products of the moved form -/
theorem pr_mv (b M : M3) (v w : R3) : pr (mm (tp M) (mm b M)) v w = pr b (im M v) (im M w) := by
  unfold pr
  rw [im_mm, im_mm, dot_tp]
theorem pr_comm {m : M3} (h : symM m) (v w : R3) : pr m v w = pr m w v := by
  obtain ⟨⟨a1, a2, a3⟩, ⟨a4, a5, a6⟩, a7, a8, a9⟩ := m
  obtain ⟨v1, v2, v3⟩ := v
  obtain ⟨w1, w2, w3⟩ := w
  obtain ⟨h1, h2, h3⟩ := h
  dsimp only at h1 h2 h3
  subst h1 h2 h3
  simp only [pr, im, dot]
  grind
theorem sym_tp {m : M3} : symM m ↔ tp m = m := by
  obtain ⟨⟨a1, a2, a3⟩, ⟨a4, a5, a6⟩, a7, a8, a9⟩ := m
  simp only [symM, tp, Prod.mk.injEq]
  constructor
  · rintro ⟨h1, h2, h3⟩
    subst h1 h2 h3
    simp
  · rintro ⟨⟨_, h1, h2⟩, ⟨h3, _, h4⟩, h5, h6, _⟩
    exact ⟨h3, h5, h6⟩
theorem tp_tp (m : M3) : tp (tp m) = m := rfl
theorem sym_mv {b : M3} (h : symM b) (M : M3) : symM (mm (tp M) (mm b M)) := by
  rw [sym_tp] at h ⊢
  rw [tp_mm, tp_mm, tp_tp, h, mm_assoc]
theorem det_mv (b M : M3) : det3 (mm (tp M) (mm b M)) = det3 M * det3 M * det3 b := by
  rw [det_mm, det_mm, det_tp]
  grind
/-- a form of three letters with one minus -/
structure Fm (m : M3) : Prop where
  sym : symM m
  neg : det3 m < 0
  pos : ∃ v, 0 < pr m v v
theorem sq_nn (x : Int) : 0 ≤ x * x := by
  rcases Int.le_total 0 x with h | h
  · exact Int.mul_nonneg h h
  · exact Int.mul_nonneg_of_nonpos_of_nonpos h h
theorem Fm.notNeg {m : M3} (f : Fm m) : ¬(m.1.1 < 0 ∧ m.1.2.1 * m.1.2.1 < m.1.1 * m.2.1.2.1) := by
  rintro ⟨ha, hD⟩
  obtain ⟨⟨x, y, z⟩, hv⟩ := f.pos
  have hs := f.sym
  have hn := f.neg
  obtain ⟨⟨a, b, c⟩, ⟨b', d, e⟩, c', e', g⟩ := m
  obtain ⟨h1, h2, h3⟩ := hs
  dsimp only at h1 h2 h3 ha hD
  subst h1 h2 h3
  simp only [pr, im, dot] at hv
  simp only [det3, dot, cr] at hn
  generalize hN : x * (a * x + b * y + c * z) + y * (b * x + d * y + e * z) + z * (c * x + e * y + g * z) = N at hv
  generalize hd : a * (d * g - e * e) + b * (e * c - b * g) + c * (b * e - d * c) = dt at hn
  have e1 : (a * d - b * b) * (a * N) = (a * d - b * b) * ((a * x + b * y + c * z) * (a * x + b * y + c * z)) + (((a * d - b * b) * y + (a * e - b * c) * z) * ((a * d - b * b) * y + (a * e - b * c) * z) + a * dt * (z * z)) := by
    rw [← hN, ← hd]; grind
  have p1 : 0 < a * d - b * b := by omega
  have p2 : a * N < 0 := Int.mul_neg_of_neg_of_pos ha hv
  have p3 : (a * d - b * b) * (a * N) < 0 := Int.mul_neg_of_pos_of_neg p1 p2
  have q1 : 0 ≤ (a * d - b * b) * ((a * x + b * y + c * z) * (a * x + b * y + c * z)) := Int.mul_nonneg (by omega) (sq_nn _)
  have q2 := sq_nn ((a * d - b * b) * y + (a * e - b * c) * z)
  have q3 : 0 ≤ a * dt * (z * z) := Int.mul_nonneg (Int.mul_nonneg_of_nonpos_of_nonpos (by omega) (by omega)) (sq_nn _)
  omega
/-- the moved form is one, too -/
theorem Fm.mv {b M : M3} (f : Fm b) (h : det3 M = 1 ∨ det3 M = -1) : Fm (mm (tp M) (mm b M)) where
  sym := sym_mv f.sym M
  neg := by
    rw [det_mv]
    have : det3 M * det3 M = 1 := by rcases h with h | h <;> rw [h] <;> rfl
    rw [this, Int.one_mul]; exact f.neg
  pos := by
    obtain ⟨v, hv⟩ := f.pos
    refine ⟨im (inv3 M) v, ?_⟩
    rw [pr_mv, ← im_mm, (mm_inv h).1, im_one]
    exact hv
theorem menu_ok : ∀ b ∈ menuT, symM b ∧ (-500 ≤ det3 b ∧ det3 b ≤ -1) ∧ (0 < pr b (1, 0, 0) (1, 0, 0) ∨ 0 < pr b (0, 1, 0) (0, 1, 0) ∨ 0 < pr b (0, 0, 1) (0, 0, 1)) := by decide +kernel
theorem menu_fm {b : M3} (h : b ∈ menuT) : Fm b := by
  obtain ⟨h1, h2, h3⟩ := menu_ok b h
  exact ⟨h1, by omega, by rcases h3 with h3 | h3 | h3 <;> exact ⟨_, h3⟩⟩
theorem Tab.fm {m : M3} (h : Tab m) : Fm m ∧ BdM 1000 m ∧ (-500 ≤ det3 m ∧ det3 m ≤ -1) := by
  obtain ⟨b, hb, k, M, hM, _, rfl, hbd⟩ := h
  refine ⟨(menu_fm hb).mv (.inl hM.det), hbd, ?_⟩
  rw [det_mv, hM.det, Int.one_mul, Int.one_mul]
  exact (menu_ok b hb).2.1
theorem Tab.form {m : M3} (h : Tab m) : formP m := ⟨⟨h.fm.2.1, h.fm.1.sym⟩, h.fm.2.2, h.fm.1.notNeg⟩
open PySem PySem.Spec PyProof.Rows L2 in
theorem evP_tup {T : Ft} {l : EL} {env : En} {r : List D × Prop} (h : evPM T l env = some r) : evP T (.tup l) env = some (.d (.tup r.1), r.2 ∧ r.1.length ≤ sizeLine) := by
  show (evPM T l env).map _ = _
  rw [h]; rfl
end CM

set_option Elab.async false
set_option linter.all false
set_option maxRecDepth 100000
set_option maxHeartbeats 1000000
namespace CM
open PySem PySem.Spec PyProof.Rows L2 PF
variable {G : Tb} {T : Ft}
/-! ### comprehensions that filter -/
theorem lcF_filter {i : Nat} {cnd : En → Option (Bool × Prop)} {elt : En → PV} {env0 : En} {c : D → Bool} : ∀ {ds : List D}, (∀ d ∈ ds, cnd ((wipeE env0 [i]).set i (.fz d)) = some (c d, True)) → (∀ d, elt ((wipeE env0 [i]).set i (.fz d)) = some (.d d, True)) → lcF [i] (.name i) cnd elt env0 ds = some (ds.filter c, True)
  | [], _, _ => rfl
  | d :: ds, hc, he => by
    have ih := lcF_filter (ds := ds) (fun d m => hc d (List.mem_cons_of_mem _ m)) he
    show ((putTg (.name i) d (wipeE env0 [i])).bind _) = _
    show (cnd ((wipeE env0 [i]).set i (.fz d))).bind _ = _
    rw [hc d List.mem_cons_self]
    cases h : c d with
    | true =>
      rw [List.filter_cons_of_pos h]
      show ((elt ((wipeE env0 [i]).set i (.fz d))).bind _) = _
      rw [he d]
      show ((lcF [i] (.name i) cnd elt env0 ds).map _) = _
      rw [ih]
      simp [setD]
    | false =>
      rw [List.filter_cons_of_neg (by rw [h]; exact Bool.false_ne_true)]
      show ((lcF [i] (.name i) cnd elt env0 ds).map _) = _
      rw [ih]; simp
/-- comprehensions that map -/
theorem lcF_map {i : Nat} {elt : En → PV} {env0 : En} {f : D → D} : ∀ {ds : List D}, (∀ d ∈ ds, ∃ v, elt ((wipeE env0 [i]).set i (.fz d)) = some (v, True) ∧ setD v = some (f d)) → lcF [i] (.name i) (evPC T .nil) elt env0 ds = some (ds.map f, True)
  | [], _ => rfl
  | d :: ds, he => by
    have ih := lcF_map (ds := ds) (f := f) (fun d m => he d (List.mem_cons_of_mem _ m))
    obtain ⟨v, e1, e2⟩ := he d List.mem_cons_self
    show ((elt ((wipeE env0 [i]).set i (.fz d))).bind _) = _
    rw [e1]
    show ((setD v).bind _) = _
    rw [e2]
    show ((lcF [i] (.name i) (evPC T .nil) elt env0 ds).map _) = _
    rw [ih]
    simp
theorem evP_lc {tg : Tg} {it : PF.It} {cnd : EL} {elt : E} {env : En} {ds : List D} {ci : Prop} {r : List D} {cr : Prop} (h : evPI T it env = some (ds, ci)) (hn : noOwnB env tg.is = true) (hl : lcF tg.is tg (evPC T cnd) (evQ T elt).1 env ds = some (r, cr)) : evP T (.lc tg it cnd elt) env = some (.nw r, ci ∧ cr ∧ r.length ≤ sizeLine) := by
  show ((evPI T it env).bind _) = _
  rw [h]
  show (if noOwnB env tg.is = true then ((lcF tg.is tg (evPC T cnd) (evQ T elt).1 env ds).map _) else none) = _
  rw [if_pos hn, hl]; rfl
/-! ### a box of rows -/
def rg (a : Int) : List Int := (List.range (2 * a + 1).toNat).map fun (k : Nat) => -a + (k : Int)
theorem intsFrom_map : ∀ (n : Nat) (lo : Int), PF.intsFrom lo n = (List.range n).map fun (k : Nat) => D.int (lo + (k : Int))
  | 0, _ => rfl
  | n + 1, lo => by
    rw [List.range_succ_eq_map]
    simp only [PF.intsFrom, List.map_cons, List.map_map]
    rw [intsFrom_map n (lo + 1)]
    congr 1
    · simp
    · apply List.map_congr_left
      intro k _
      show D.int _ = D.int _
      congr 1
      push_cast; omega
theorem rg_ints (a : Int) : PF.intsFrom (-a) (a + 1 - -a).toNat = (rg a).map D.int := by
  rw [intsFrom_map]
  unfold rg
  rw [List.map_map, show a + 1 - -a = 2 * a + 1 by omega]
  rfl
theorem rg_mem {a x : Int} : x ∈ rg a ↔ -a ≤ x ∧ x ≤ a := by
  unfold rg
  rw [List.mem_map]
  constructor
  · rintro ⟨k, hk, rfl⟩
    rw [List.mem_range] at hk
    omega
  · rintro ⟨h1, h2⟩
    exact ⟨(x + a).toNat, by rw [List.mem_range]; omega, by omega⟩
theorem rg_len (a : Int) : (rg a).length = (2 * a + 1).toNat := by simp [rg]
def box (a b c : Int) : List R3 := (rg a).flatMap fun x => (rg b).flatMap fun y => (rg c).map fun z => (x, y, z)
theorem box_mem {a b c : Int} {v : R3} : v ∈ box a b c ↔ (-a ≤ v.1 ∧ v.1 ≤ a) ∧ (-b ≤ v.2.1 ∧ v.2.1 ≤ b) ∧ (-c ≤ v.2.2 ∧ v.2.2 ≤ c) := by
  unfold box
  simp only [List.mem_flatMap, List.mem_map, rg_mem]
  constructor
  · rintro ⟨x, hx, y, hy, z, hz, rfl⟩
    exact ⟨hx, hy, hz⟩
  · rintro ⟨hx, hy, hz⟩
    exact ⟨v.1, hx, v.2.1, hy, v.2.2, hz, rfl⟩
def cBox : List D → Option (D × Prop)
  | [.lst [.int a, .int b, .int c]] => some (.lst ((box a b c).map dR), (0 ≤ a ∧ a ≤ 100) ∧ (0 ≤ b ∧ b ≤ 100) ∧ (0 ≤ c ∧ c ≤ 100))
  | _ => none
theorem len_flatMap_le {α β : Type} {f : α → List β} {n : Nat} : ∀ {l : List α}, (∀ x ∈ l, (f x).length ≤ n) → (l.flatMap f).length ≤ l.length * n
  | [], _ => by simp
  | x :: l, h => by
    rw [List.flatMap_cons, List.length_append, List.length_cons]
    have h1 := h x List.mem_cons_self
    have h2 := len_flatMap_le (l := l) (f := f) fun y m => h y (List.mem_cons_of_mem _ m)
    rw [Nat.succ_mul]; omega
theorem o__law_boxed (F : FtOk G T) : ∀ ds p, ds.length = 1 → cBox ds = some p → p.2 → ∀ P : Po, (∀ env, P.rt p.1 env) → evSs G b__law_boxed (ds.map Sl.fz ++ List.replicate 4 .no) P := by
  intro ds p hn h hp P q
  unfold cBox at h
  split at h
  · rename_i a b c
    cases h
    obtain ⟨⟨a1, a2⟩, ⟨b1, b2⟩, c1, c2⟩ := hp
    have bx : ∀ a : Int, 0 ≤ a → a ≤ 100 → (rg a).length ≤ 201 := fun a h1 h2 => by rw [rg_len]; omega
    have hz : ∀ n : Nat, n ≤ 201 * (201 * 201) → n < sizeLine := fun n h => Nat.lt_of_le_of_lt h (by decide)
    let e0 : Sl := .fz (.lst [.int a, .int b, .int c])
    refine x_seq (x_asg F rfl ⟨trivial, Nat.zero_le _⟩ ?_)
    refine x_seq (x_forI F (p := ((rg a).map D.int, _)) (by rw [← rg_ints]; rfl) (by simp only [true_and, and_true]; omega) (fun k env => ∃ x2 x3 x4 : Sl, env = [e0, .own 0 ((((rg a).take k).flatMap fun x => (rg b).flatMap fun y => (rg c).map fun z => (x, y, z)).map dR), x2, x3, x4]) ⟨_, _, _, rfl⟩ ?_ ?_)
    · rintro k d env hk ⟨x2, x3, x4, rfl⟩
      rw [List.getElem?_map, Option.map_eq_some_iff] at hk
      obtain ⟨x, hx, rfl⟩ := hk
      have hk201 : k + 1 ≤ 201 := Nat.le_trans (List.getElem?_eq_some_iff.mp hx).1 (bx a a1 a2)
      have hacc : (((rg a).take k).flatMap fun x => (rg b).flatMap fun y => (rg c).map fun z => (x, y, z)).length ≤ k * (201 * 201) := by
        refine Nat.le_trans (len_flatMap_le (n := 201 * 201) fun x _ => ?_) (Nat.mul_le_mul_right _ (by rw [List.length_take]; omega))
        refine Nat.le_trans (len_flatMap_le (n := 201) fun y _ => by rw [List.length_map]; exact bx c c1 c2) (Nat.mul_le_mul_right _ (bx b b1 b2))
      rw [List.take_add_one, hx]
      simp only [Option.toList_some, List.flatMap_append, List.flatMap_cons, List.flatMap_nil, List.append_nil, List.map_append]
      rw [← List.length_map (f := dR)] at hacc
      revert hacc
      generalize ((((rg a).take k).flatMap fun x => (rg b).flatMap fun y => (rg c).map fun z => (x, y, z)).map dR) = acc
      intro hacc
      clear hx
      refine ⟨_, rfl, x_one (x_forI F (p := ((rg b).map D.int, _)) (by rw [← rg_ints]; rfl) (by simp only [true_and, and_true]; omega) (fun j env => ∃ x3 x4 : Sl, env = [e0, .own 0 (acc ++ (((rg b).take j).flatMap fun y => (rg c).map fun z => (x, y, z)).map dR), .fz (.int x), x3, x4]) ⟨x3, x4, by simp [List.set]⟩ ?_ ?_)⟩
      · rintro j d env hj ⟨x3, x4, rfl⟩
        rw [List.getElem?_map, Option.map_eq_some_iff] at hj
        obtain ⟨y, hy, rfl⟩ := hj
        have hj201 : j + 1 ≤ 201 := Nat.le_trans (List.getElem?_eq_some_iff.mp hy).1 (bx b b1 b2)
        have hacc2 : (acc ++ (((rg b).take j).flatMap fun y => (rg c).map fun z => (x, y, z)).map dR).length ≤ k * (201 * 201) + j * 201 := by
          rw [List.length_append, List.length_map]
          have : (((rg b).take j).flatMap fun y => (rg c).map fun z => (x, y, z)).length ≤ j * 201 :=
            Nat.le_trans (len_flatMap_le (n := 201) fun y _ => by rw [List.length_map]; exact bx c c1 c2) (Nat.mul_le_mul_right _ (by rw [List.length_take]; omega))
          omega
        rw [List.take_add_one, hy]
        simp only [Option.toList_some, List.flatMap_append, List.flatMap_cons, List.flatMap_nil, List.append_nil, List.map_append, ← List.append_assoc]
        revert hacc2
        generalize (acc ++ (((rg b).take j).flatMap fun y => (rg c).map fun z => (x, y, z)).map dR) = acc2
        intro hacc2
        clear hy
        refine ⟨_, rfl, x_one (x_forI F (p := ((rg c).map D.int, _)) (by rw [← rg_ints]; rfl) (by simp only [true_and, and_true]; omega) (fun l env => ∃ x4 : Sl, env = [e0, .own 0 (acc2 ++ (((rg c).take l).map fun z => (x, y, z)).map dR), .fz (.int x), .fz (.int y), x4]) ⟨x4, by simp [List.set]⟩ ?_ ?_)⟩
        · rintro l d env hl ⟨x4, rfl⟩
          rw [List.getElem?_map, Option.map_eq_some_iff] at hl
          obtain ⟨z, hz', rfl⟩ := hl
          have hl201 : l + 1 ≤ 201 := Nat.le_trans (List.getElem?_eq_some_iff.mp hz').1 (bx c c1 c2)
          rw [List.take_add_one, hz']
          simp only [Option.toList_some, List.map_append, List.map_cons, List.map_nil, ← List.append_assoc]
          refine ⟨_, rfl, x_one (x_app F (p := (.d (dR (x, y, z)), _)) rfl rfl (by simp only [true_and, and_true]; exact (show 3 ≤ sizeLine by decide)) rfl (hz _ ?_) ⟨_, rfl⟩)⟩
          rw [List.length_append, List.length_map, List.length_map, List.length_take]
          have := Nat.min_le_left l (rg c).length
          omega
        · rintro env ⟨x4, rfl⟩
          refine ⟨.fz (.int y), x4, ?_⟩
          rw [show ((rg c).map D.int).length = (rg c).length by simp, List.take_length]
      · rintro env ⟨x3, x4, rfl⟩
        refine ⟨.fz (.int x), x3, x4, ?_⟩
        rw [show ((rg b).map D.int).length = (rg b).length by simp, List.take_length]
    · rintro env ⟨x2, x3, x4, rfl⟩
      rw [show ((rg a).map D.int).length = (rg a).length by simp, List.take_length]
      exact x_fz [1] (x_ret F (evP_fz (d := .lst ((box a b c).map dR)) rfl) trivial rfl (q _))
  · cases h
end CM

set_option Elab.async false
set_option linter.all false
set_option maxRecDepth 100000
set_option maxHeartbeats 400000
namespace CM
open PySem PySem.Spec PyProof.Rows L2 PF
variable {G : Tb} {T : Ft}
/-! ### roots of a form -/
theorem g3_eq (r : R3) : g3 r = gI (gI r.1 r.2.1) r.2.2 := by
  unfold g3 rowL
  simp only [List.foldl_cons, List.foldl_nil]
  unfold gI
  simp
def cRt : List D → Option (D × Prop)
  | [a, b] => (rdF a).bind fun x => (rdR b).map fun r => (.bl (decide (rootP x.1 r)), SmM 1000 x.1 ∧ SmR 1000 r)
  | _ => none
theorem o__is_root (F : FtOk G T) (hm : T.mth "norm" = some (fun ds => if ds.length = 2 then cNorm ds else none)) (hi : T.fn "image" = some (fun ds => if ds.length = 2 then cImage ds else none)) (hf : T.fld "Form" "table" = true) :
    ∀ ds p, ds.length = 2 → cRt ds = some p → p.2 → ∀ P : Po, (∀ env, P.rt p.1 env) → evSs G b__is_root (ds.map Sl.fz ++ List.replicate 2 .no) P := by
  intro ds p hn h hp P q
  obtain ⟨a, b, x, r, rfl, h1, h2, rfl⟩ := c2_by (k := fun (x : FD) r => (.bl (decide (rootP x.1 r)), SmM 1000 x.1 ∧ SmR 1000 r)) (fun _ _ => rfl) hn h
  rw [rdF_ok h1, rdR_ok h2]
  clear h h1 h2 hn
  obtain ⟨m, e, l⟩ := x
  obtain ⟨sm, sr⟩ := hp
  dsimp only at sm q
  refine x_seq (x_asg F (evP_meth hm (evP_fz (d := fD (m, e, l)) rfl) rfl (evPM_cons (evP_fz (d := dR r) rfl) rfl evPM_nil) rfl) ⟨trivial, ⟨trivial, trivial⟩, sm.up (by omega), sr.up (by omega)⟩ ?_)
  show evSs G _ [.fz (fD (m, e, l)), .fz (dR r), .fz (.int (pr m r r)), .no] _
  have c1 : evPT T (.cmp .le (.var 2) (.cst (.int 0))) [.fz (fD (m, e, l)), .fz (dR r), .fz (.int (pr m r r)), .no] = some (decide (pr m r r ≤ 0), _) := evPT_cmp (evP_fz (d := .int (pr m r r)) rfl) rfl rfl rfl rfl
  have c2 : evPT T (.cmp .ne (.bi .gcd (.cons (.bi .gcd (.cons (.ix (.var 1) (.cst (.int 0))) (.cons (.ix (.var 1) (.cst (.int 1))) .nil))) (.cons (.ix (.var 1) (.cst (.int 2))) .nil))) (.cst (.int 1))) [.fz (fD (m, e, l)), .fz (dR r), .fz (.int (pr m r r)), .no] = some (!decide (gI (gI r.1 r.2.1) r.2.2 = 1), _) := rfl
  rw [← g3_eq] at c2
  refine x_seq (x_ite F (evPT_bor (evPOr_c c1 (evPOr_1 c2))) ?_ (fun hq => x_one (x_ret F (p := (.d (.bl false), True)) rfl trivial rfl ?_)) (fun hq => x_done ?_))
  · refine ⟨by simp only [and_self], fun _ => ?_⟩
    simp only [and_self]
  · have hq' : (decide (pr m r r ≤ 0) || !decide (g3 r = 1)) = true := hq
    have efl : decide (rootP m r) = false := by
      rw [decide_eq_false_iff_not]
      intro hr
      rw [decide_eq_false (by have := hr.1.1; omega), decide_eq_true hr.1.2] at hq'
      cases hq'
    have := q [.fz (fD (m, e, l)), .fz (dR r), .fz (.int (pr m r r)), .no]
    rwa [efl] at this
  · have hq' : (decide (pr m r r ≤ 0) || !decide (g3 r = 1)) = false := hq
    simp only [Bool.or_eq_false_iff, Bool.not_eq_false', decide_eq_true_eq, decide_eq_false_iff_not] at hq'
    have hpos : 0 < pr m r r := by omega
    have si := sm_im (by omega) sm sr
    have hI : evPI T (.of (.call "image" (.cons (.attr (.var 0) "table") (.cons (.var 1) .nil)))) [.fz (fD (m, e, l)), .fz (dR r), .fz (.int (pr m r r)), .no] = some ([.int (im m r).1, .int (im m r).2.1, .int (im m r).2.2], (True ∧ True ∧ True) ∧ SmM 400000 m ∧ SmR 400000 r) := by
      show ((evQ T (.call "image" (.cons (.attr (.var 0) "table") (.cons (.var 1) .nil)))).1 _).bind _ = _
      rw [show (evQ T (.call "image" (.cons (.attr (.var 0) "table") (.cons (.var 1) .nil)))).1 [.fz (fD (m, e, l)), .fz (dR r), .fz (.int (pr m r r)), .no] = some (.d (dR (im m r)), (True ∧ True ∧ True) ∧ SmM 400000 m ∧ SmR 400000 r) from evP_call hi (evPM_cons (evP_attr (evP_fz (d := fD (m, e, l)) rfl) rfl hf rfl) rfl (evPM_cons (evP_fz (d := dR r) rfl) rfl evPM_nil)) rfl]
      rfl
    have ex : ∃ c, evP T (.bi .all (.cons (.lc (.name 3) (.of (.call "image" (.cons (.attr (.var 0) "table") (.cons (.var 1) .nil)))) .nil (.cmp .eq (.bin .mod (.bin .mul (.cst (.int 2)) (.var 3)) (.var 2)) (.cst (.int 0)))) .nil)) [.fz (fD (m, e, l)), .fz (dR r), .fz (.int (pr m r r)), .no] = some (.d (.bl (allB m r)), c) ∧ c := by
      have el : ∃ c, evP T (.lc (.name 3) (.of (.call "image" (.cons (.attr (.var 0) "table") (.cons (.var 1) .nil)))) .nil (.cmp .eq (.bin .mod (.bin .mul (.cst (.int 2)) (.var 3)) (.var 2)) (.cst (.int 0)))) [.fz (fD (m, e, l)), .fz (dR r), .fz (.int (pr m r r)), .no] = some (.nw [.bl (decide (2 * (im m r).1 % pr m r r = 0)), .bl (decide (2 * (im m r).2.1 % pr m r r = 0)), .bl (decide (2 * (im m r).2.2 % pr m r r = 0))], c) ∧ c := by
        simp only [evP, evQ]
        rw [hI]
        refine ⟨_, rfl, ?_⟩
        have cm : ∀ x, Sm 2002 x → CMulW 2 x := fun x hx => Sm.cm (a := 2) (sm_nat (by decide)) hx (by decide)
        simp only [true_and, and_true]
        repeat' (first | exact sm.up (by omega) | exact sr.up (by omega) | exact hpos | exact cm _ si.1 | exact cm _ si.2.1 | exact cm _ si.2.2 | exact (show 3 ≤ sizeLine by decide) | apply And.intro)
      obtain ⟨c, e1, e2⟩ := el
      exact ⟨_, evP_bi1 e1 rfl rfl, ⟨e2, trivial⟩, trivial⟩
    obtain ⟨c, e1, e2⟩ := ex
    refine x_one (x_ret F e1 e2 rfl ?_)
    have ee : decide (rootP m r) = allB m r := by
      rw [Bool.eq_iff_iff, decide_eq_true_iff]
      unfold allB rootP
      simp [hpos, hq'.2]
    have := q [.fz (fD (m, e, l)), .fz (dR r), .fz (.int (pr m r r)), .no]
    rwa [ee] at this
theorem x_iteOr1 (F : FtOk G T) {env : En} {P : Po} {a b : E} {l : EL} {A B : SL} {c : Prop} (h : evPT T a env = some (true, c)) (hc : c) (q : evSs G A env P) : evS G (.ite (.bor (.cons a (.cons b l))) A B) env P := by
  show evOrT G (.cons a (.cons b l)) env (fun k env1 => if k = true then evSs G A env1 P else evSs G B env1 P) P.er
  refine (ps F a).t env _ h hc _ _ ?_
  simp only [if_true]
  exact q
/-- values that may be asked about: rows, None, texts -/
def VR (v : D) : Prop := v = .non ∨ (∃ s, v = .str s) ∨ ∃ r, v = dR r ∧ SmR 1000 r
def rtV (m : M3) (v : D) : Bool := match rdR v with | some r => decide (rootP m r) | none => false
theorem rtV_R (m : M3) (r : R3) : rtV m (dR r) = decide (rootP m r) := rfl
def cIsRt : List D → Option (D × Prop)
  | [a, v] => (rdF a).map fun x => (.bl (rtV x.1 v), SmM 1000 x.1 ∧ VR v)
  | _ => none
theorem o_is_root (F : FtOk G T) (hI : T.fn "is_integer" = some (fun ds => if ds.length = 1 then cInt ds else none)) (hr : T.fn "_is_root" = some (fun ds => if ds.length = 2 then cRt ds else none)) :
    ∀ ds p, ds.length = 2 → cIsRt ds = some p → p.2 → ∀ P : Po, (∀ env, P.rt p.1 env) → evSs G b_is_root (ds.map Sl.fz ++ List.replicate 1 .no) P := by
  intro ds p hn h hp P q
  match ds, hn with
  | [a, v], _ =>
    have h' : (rdF a).map (fun x => ((.bl (rtV x.1 v) : D), SmM 1000 x.1 ∧ VR v)) = some p := h
    rw [Option.map_eq_some_iff] at h'
    obtain ⟨x, h1, h2⟩ := h'
    subst h2
    rw [rdF_ok h1]
    clear h h1
    obtain ⟨sm, hv⟩ := hp
    have isT : ∀ b, isiB v "tuple" = some b → evPT T (.bnot (.isi (.var 1) "tuple")) [.fz (fD x), .fz v, .no] = some (!b, True ∧ True) := fun b hb => evPT_bnot (evPT_of rfl (evP_isi (a := .var 1) (evP_fz (d := v) rfl) rfl hb) rfl rfl)
    rcases hv with rfl | ⟨s, rfl⟩ | ⟨r, rfl, sr⟩
    · exact x_seq (x_iteOr1 F (isT false rfl) ⟨trivial, trivial⟩ (x_one (x_ret F (p := (.d (.bl false), True)) rfl trivial rfl (q _))))
    · exact x_seq (x_iteOr1 F (isT false rfl) ⟨trivial, trivial⟩ (x_one (x_ret F (p := (.d (.bl false), True)) rfl trivial rfl (q _))))
    · have c2 : evPT T (.cmp .ne (.bi .len (.cons (.var 1) .nil)) (.cst (.int 3))) [.fz (fD x), .fz (dR r), .no] = some (false, True) := pv_true (v := false) rfl (by simp only [and_self])
      have hl : lcF [2] (.name 2) (evPC T .nil) (evQ T (.call "is_integer" (.cons (.var 2) .nil))).1 [.fz (fD x), .fz (dR r), .no] [.int r.1, .int r.2.1, .int r.2.2] = some (([.int r.1, .int r.2.1, .int r.2.2] : List D).map (fun _ => D.bl true), True) := lcF_map fun d hd => by
        have : ∃ i : Int, d = .int i := by
          simp only [List.mem_cons, List.not_mem_nil, or_false] at hd
          rcases hd with rfl | rfl | rfl <;> exact ⟨_, rfl⟩
        obtain ⟨i, rfl⟩ := this
        exact ⟨.d (.bl (true && !false)), pv_true (evP_call hI (evPM_cons (evP_fz (i := 2) (d := .int i) rfl) rfl evPM_nil) rfl) ⟨⟨trivial, trivial⟩, trivial⟩, rfl⟩
      have c3 : evPT T (.bnot (.bi .all (.cons (.lc (.name 2) (.of (.var 1)) .nil (.call "is_integer" (.cons (.var 2) .nil))) .nil))) [.fz (fD x), .fz (dR r), .no] = some (!true, True) :=
        pv_true (v := !true) (evPT_bnot (evPT_of rfl (evP_bi1 (evP_lc (ds := [.int r.1, .int r.2.1, .int r.2.2]) (ci := True) rfl rfl hl) rfl rfl) rfl rfl)) ⟨⟨⟨⟨trivial, trivial, (show 3 ≤ sizeLine by decide)⟩, trivial⟩, trivial⟩, trivial⟩
      refine x_seq (x_ite F (evPT_bor (evPOr_c (isT true rfl) (evPOr_c c2 (evPOr_1 c3)))) ⟨⟨trivial, trivial⟩, fun _ => ⟨trivial, fun _ => trivial⟩⟩ (fun hb => Bool.noConfusion hb) (fun _ => x_done ?_))
      exact x_one (x_ret F (evP_call hr (evPM_cons (evP_fz (d := fD x) rfl) rfl (evPM_cons (evP_fz (d := dR r) rfl) rfl evPM_nil)) rfl) ⟨⟨trivial, trivial, trivial⟩, sm, sr⟩ rfl (q _))
/-! _look_at, reflected, reflection -/
def aV (a : FD × D) : List D := [fD a.1, a.2]
def pV (a : FD × D) : Prop := SmM 1000 a.1.1 ∧ VR a.2
def rLook (a : FD × D) (o : D ⊕ Str) : Prop := o = if rtV a.1.1 a.2 = true then .inl .non else .inr "BadRoot"
theorem o__look_at (F : FtOk G T) (hr : T.fn "is_root" = some (fun ds => if ds.length = 2 then cIsRt ds else none)) (he : G.exc "BadRoot" = true) : ∀ a, pV a → evSs G b__look_at ((aV a).map Sl.fz ++ List.replicate 0 .no) (valPo (fun d => rLook a (.inl d)) (fun c => rLook a (.inr c))) := by
  rintro ⟨x, v⟩ ⟨sm, hv⟩
  have e := evPT_bnot (evPT_of (T := T) (e := .call "is_root" (.cons (.var 0) (.cons (.var 1) .nil))) rfl (evP_call (env := [.fz (fD x), .fz v]) hr (evPM_cons (evP_fz (d := fD x) rfl) rfl (evPM_cons (evP_fz (d := v) rfl) rfl evPM_nil)) (p := (.bl (rtV x.1 v), SmM 1000 x.1 ∧ VR v)) rfl) rfl rfl)
  refine x_one (x_ite F e ⟨⟨⟨trivial, trivial, trivial⟩, sm, hv⟩, trivial⟩ (fun hb => x_one (x_rai he ?_)) (fun hb => x_done ?_))
  · have hb' : (!rtV x.1 v) = true := hb
    show rLook (x, v) _
    unfold rLook
    rw [if_neg (by simpa using hb')]
  · have hb' : (!rtV x.1 v) = false := hb
    show rLook (x, v) _
    unfold rLook
    rw [if_pos (by simpa using hb')]
end CM

set_option Elab.async false
set_option linter.all false
set_option maxRecDepth 100000
set_option maxHeartbeats 400000
namespace CM
open PySem PySem.Spec PyProof.Rows L2 PF
variable {G : Tb} {T : Ft}
def refl (m : M3) (r v : R3) : R3 := (v.1 - 2 * pr m r v / pr m r r * r.1, v.2.1 - 2 * pr m r v / pr m r r * r.2.1, v.2.2 - 2 * pr m r v / pr m r r * r.2.2)
def aRe (a : FD × D × R3) : List D := [fD a.1, a.2.1, dR a.2.2]
def pRe (a : FD × D × R3) : Prop := SmM 1000 a.1.1 ∧ VR a.2.1 ∧ SmR 90000 a.2.2
def rRe (a : FD × D × R3) (o : D ⊕ Str) : Prop := match rdR a.2.1 with
  | some r => o = if rootP a.1.1 r then .inl (dR (refl a.1.1 r a.2.2)) else .inr "BadRoot"
  | none => o = .inr "BadRoot"
def cReV : List D → Option (D × Prop)
  | [a, b, c] => (rdF a).bind fun x => (rdR b).bind fun r => (rdR c).map fun v => (dR (refl x.1 r v), SmM 1000 x.1 ∧ SmR 1000 r ∧ SmR 90000 v ∧ rootP x.1 r)
  | _ => none
theorem v_re : FuOf (Fn.rl aRe pRe rRe) 3 cReV := fuOf_rl fun ds p hn h hc => by
  obtain ⟨a, b, c, x, r, v, rfl, h1, h2, h3, rfl⟩ := c3_by (k := fun (x : FD) r v => (dR (refl x.1 r v), SmM 1000 x.1 ∧ SmR 1000 r ∧ SmR 90000 v ∧ rootP x.1 r)) (fun _ _ _ => rfl) hn h
  obtain ⟨s1, s2, s3, hr⟩ := hc
  rw [rdF_ok h1, rdR_ok h2, rdR_ok h3]
  refine ⟨(x, dR r, v), rfl, ⟨s1, .inr (.inr ⟨r, rfl, s2⟩), s3⟩, fun o ho => ?_⟩
  have ho' : o = if rootP x.1 r then .inl (dR (refl x.1 r v)) else .inr "BadRoot" := ho
  rw [if_pos hr] at ho'
  exact ho'
theorem sm_pr {n : Nat} (hn : n ≤ 100000) {m : M3} {v w : R3} (hm : SmM n m) (hv : SmR n v) (hw : SmR n w) : Sm (3 * n + 4) (pr m v w) := by
  have si := sm_im (by omega) hm hw
  exact (((hv.1.mul si.1).add (hv.2.1.mul si.2.1)).add (hv.2.2.mul si.2.2)).up (by omega)
theorem o_reflected (F : FtOk G T) (hl : G.fns "_look_at" = some (List.replicate 2 false, Fn.rl aV pV rLook)) (hp' : T.mth "product" = some (fun ds => if ds.length = 3 then cProd ds else none)) (hn' : T.mth "norm" = some (fun ds => if ds.length = 2 then cNorm ds else none)) :
    ∀ a, pRe a → evSs G b_reflected ((aRe a).map Sl.fz ++ List.replicate 1 .no) (valPo (fun d => rRe a (.inl d)) (fun c => rRe a (.inr c))) := by
  rintro ⟨x, rv, v⟩ ⟨sm, hv, sv⟩
  show evSs G _ [.fz (fD x), .fz rv, .fz (dR v), .no] _
  dsimp only at sm hv sv
  have hbad : rtV x.1 rv = false → rRe (x, rv, v) (.inr "BadRoot") := fun h => by
    unfold rRe
    unfold rtV at h
    dsimp only
    split
    · rename_i r e
      rw [e] at h
      rw [if_neg (by simpa using h)]
    · rfl
  refine x_seq (x_exprR F hl (p := ([fD x, rv], _)) (evPM_cons (evP_fz (d := fD x) rfl) rfl (evPM_cons (evP_fz (d := rv) rfl) rfl evPM_nil)) ⟨trivial, trivial, trivial⟩ (x, rv) rfl rfl ⟨sm, hv⟩ (fun d hd => ?_) (fun c hc => ?_))
  rotate_left
  · have hc' : Sum.inr c = if rtV x.1 rv = true then (.inl .non : D ⊕ Str) else .inr "BadRoot" := hc
    split at hc'
    · cases hc'
    · rename_i h
      cases hc'
      exact hbad (by simpa using h)
  · have hd' : Sum.inl d = if rtV x.1 rv = true then (.inl .non : D ⊕ Str) else .inr "BadRoot" := hd
    split at hd'
    rotate_left
    · cases hd'
    rename_i hrt
    clear hd hd' hbad
    unfold rtV at hrt
    cases hrd : rdR rv with
    | none => rw [hrd] at hrt; cases hrt
    | some r =>
      rw [hrd] at hrt
      have hr : rootP x.1 r := of_decide_eq_true hrt
      have er := rdR_ok hrd
      subst er
      have sr : SmR 1000 r := by
        rcases hv with h | ⟨s, h⟩ | ⟨r', h, s⟩
        · cases h
        · cases h
        · have : r = r' := by
            have e := congrArg rdR h
            exact Option.some.inj e
          rw [this]; exact s
      have s1 := sm_pr (n := 90000) (by omega) (sm.up (by omega)) (sr.up (by omega)) sv
      have s2 := sm_pr (n := 1000) (by omega) sm sr sr
      have hpos := hr.1.1
      have e1 := evP_meth (T := T) (m := "product") (env := [.fz (fD x), .fz (dR r), .fz (dR v), .no]) (o := .var 0) (l := .cons (.var 1) (.cons (.var 2) .nil)) hp' (evP_fz (d := fD x) rfl) rfl (evPM_cons (evP_fz (d := dR r) rfl) rfl (evPM_cons (evP_fz (d := dR v) rfl) rfl evPM_nil)) rfl
      have e2 := evP_meth (T := T) (m := "norm") (env := [.fz (fD x), .fz (dR r), .fz (dR v), .no]) (o := .var 0) (l := .cons (.var 1) .nil) hn' (evP_fz (d := fD x) rfl) rfl (evPM_cons (evP_fz (d := dR r) rfl) rfl evPM_nil) rfl
      have e3 := evP_bin (T := T) (op := .fdiv) (evP_bin (op := .mul) (a := .cst (.int 2)) (va := .d (.int 2)) (ca := True) rfl e1 rfl rfl rfl) e2 rfl rfl rfl
      have sq : Sm 270010 (2 * pr x.1 r v / pr x.1 r r) := by
        have h2 : Sm 2 2 := sm_nat (by decide)
        have := (h2.mul s1).up (show 2 + (3 * 90000 + 4) ≤ 270010 by omega)
        exact Nat.lt_of_le_of_lt (Int.natAbs_ediv_le_natAbs _ _) this
      refine x_seq (x_asg F e3 ⟨⟨trivial, ⟨trivial, ⟨trivial, trivial, trivial⟩, sm.up (by omega), sr.up (by omega), sv.up (by omega)⟩, Sm.cm (a := 2) (sm_nat (by decide)) s1 (by omega)⟩, ⟨trivial, ⟨trivial, trivial⟩, sm.up (by omega), sr.up (by omega)⟩, hpos, Nat.lt_trans (PySem.Flt.log2_lt_of (by decide) s2) (by decide)⟩ ?_)
      show evSs G _ [.fz (fD x), .fz (dR r), .fz (dR v), .fz (.int (2 * pr x.1 r v / pr x.1 r r))] _
      refine x_one (x_ret F (p := (.d (dR (refl x.1 r v)), _)) rfl ?_ rfl ?_)
      · simp only [true_and, and_true]
        repeat' (first | exact Sm.cm sq sr.1 (by omega) | exact Sm.cm sq sr.2.1 (by omega) | exact Sm.cm sq sr.2.2 (by omega) | exact (show 3 ≤ sizeLine by decide) | apply And.intro)
      · show rRe (x, dR r, v) _
        have e : rRe (x, dR r, v) (.inl (dR (refl x.1 r v))) = (Sum.inl (dR (refl x.1 r v)) = if rootP x.1 r then (Sum.inl (dR (refl x.1 r v)) : D ⊕ Str) else .inr "BadRoot") := rfl
        rw [e, if_pos hr]
def mirror (m : M3) (r : R3) : M3 := tp (refl m r (1, 0, 0), refl m r (0, 1, 0), refl m r (0, 0, 1))
def rMi (a : FD × D) (o : D ⊕ Str) : Prop := match rdR a.2 with
  | some r => o = if rootP a.1.1 r then .inl (dM (mirror a.1.1 r)) else .inr "BadRoot"
  | none => o = .inr "BadRoot"
def cMiV : List D → Option (D × Prop)
  | [a, b] => (rdF a).bind fun x => (rdR b).map fun r => (dM (mirror x.1 r), SmM 1000 x.1 ∧ SmR 1000 r ∧ rootP x.1 r)
  | _ => none
theorem v_mi : FuOf (Fn.rl aV pV rMi) 2 cMiV := fuOf_rl fun ds p hn h hc => by
  obtain ⟨a, b, x, r, rfl, h1, h2, rfl⟩ := c2_by (k := fun (x : FD) r => (dM (mirror x.1 r), SmM 1000 x.1 ∧ SmR 1000 r ∧ rootP x.1 r)) (fun _ _ => rfl) hn h
  obtain ⟨s1, s2, hr⟩ := hc
  rw [rdF_ok h1, rdR_ok h2]
  refine ⟨(x, dR r), rfl, ⟨s1, .inr (.inr ⟨r, rfl, s2⟩)⟩, fun o ho => ?_⟩
  have ho' : o = if rootP x.1 r then .inl (dM (mirror x.1 r)) else .inr "BadRoot" := ho
  rw [if_pos hr] at ho'
  exact ho'
theorem o_reflection (F : FtOk G T) (hl : G.fns "_look_at" = some (List.replicate 2 false, Fn.rl aV pV rLook)) (hre : T.fn "reflected" = some (fun ds => if ds.length = 3 then cReV ds else none)) (hu : T.cst "UNITS" = some (dM one3)) :
    ∀ a, pV a → evSs G b_reflection ((aV a).map Sl.fz ++ List.replicate 4 .no) (valPo (fun d => rMi a (.inl d)) (fun c => rMi a (.inr c))) := by
  rintro ⟨x, rv⟩ ⟨sm, hv⟩
  show evSs G _ [.fz (fD x), .fz rv, .no, .no, .no, .no] _
  dsimp only at sm hv
  have hbad : rtV x.1 rv = false → rMi (x, rv) (.inr "BadRoot") := fun h => by
    unfold rMi
    unfold rtV at h
    dsimp only
    split
    · rename_i r e
      rw [e] at h
      rw [if_neg (by simpa using h)]
    · rfl
  refine x_seq (x_exprR F hl (p := ([fD x, rv], _)) (evPM_cons (evP_fz (d := fD x) rfl) rfl (evPM_cons (evP_fz (d := rv) rfl) rfl evPM_nil)) ⟨trivial, trivial, trivial⟩ (x, rv) rfl rfl ⟨sm, hv⟩ (fun d hd => ?_) (fun c hc => ?_))
  rotate_left
  · have hc' : Sum.inr c = if rtV x.1 rv = true then (.inl .non : D ⊕ Str) else .inr "BadRoot" := hc
    split at hc'
    · cases hc'
    · rename_i h
      cases hc'
      exact hbad (by simpa using h)
  · have hd' : Sum.inl d = if rtV x.1 rv = true then (.inl .non : D ⊕ Str) else .inr "BadRoot" := hd
    split at hd'
    rotate_left
    · cases hd'
    rename_i hrt
    clear hd hd' hbad
    unfold rtV at hrt
    cases hrd : rdR rv with
    | none => rw [hrd] at hrt; cases hrt
    | some r =>
      rw [hrd] at hrt
      have hr : rootP x.1 r := of_decide_eq_true hrt
      have er := rdR_ok hrd
      subst er
      have sr : SmR 1000 r := by
        rcases hv with h | ⟨s, h⟩ | ⟨r', h, s⟩
        · cases h
        · cases h
        · have : r = r' := by
            have e := congrArg rdR h
            exact Option.some.inj e
          rw [this]; exact s
      have s1 : Sm 1 1 := sm_nat (by decide)
      have s0 : Sm 1 0 := sm_nat (by decide)
      have hI : evPI T (.of (.glob "UNITS")) [.fz (fD x), .fz (dR r), .no, .no, .no, .no] = some ([(1, 0, 0), (0, 1, 0), (0, 0, 1)].map dR, True) := by
        show ((evQ T (.glob "UNITS")).1 _).bind _ = _
        rw [show (evQ T (.glob "UNITS")).1 [.fz (fD x), .fz (dR r), .no, .no, .no, .no] = some (.d (dM one3), True) from evP_glob hu]; rfl
      have hlc : lcF [3] (.name 3) (evPC T .nil) (evQ T (.call "reflected" (.cons (.var 0) (.cons (.var 1) (.cons (.var 3) .nil))))).1 [.fz (fD x), .fz (dR r), .no, .no, .no, .no] ([(1, 0, 0), (0, 1, 0), (0, 0, 1)].map dR) = some (([(1, 0, 0), (0, 1, 0), (0, 0, 1)].map dR).map (fun d => match rdR d with | some v => dR (refl x.1 r v) | none => .non), True) := lcF_map fun d hd => by
        rw [List.mem_map] at hd
        obtain ⟨v, hv, rfl⟩ := hd
        have sv : SmR 1 v := by
          simp only [List.mem_cons, List.not_mem_nil, or_false] at hv
          rcases hv with rfl | rfl | rfl
          · exact ⟨s1, s0, s0⟩
          · exact ⟨s0, s1, s0⟩
          · exact ⟨s0, s0, s1⟩
        refine ⟨.d (dR (refl x.1 r v)), pv_true (evP_call hre (evPM_cons (evP_fz (i := 0) (d := fD x) rfl) rfl (evPM_cons (evP_fz (i := 1) (d := dR r) rfl) rfl (evPM_cons (evP_fz (i := 3) (d := dR v) rfl) rfl evPM_nil))) rfl) ⟨⟨trivial, trivial, trivial, trivial⟩, sm, sr, sv.up (by omega), hr⟩, rfl⟩
      refine x_seq (x_asg F (evP_lc hI rfl hlc) ⟨trivial, trivial, (show 3 ≤ sizeLine by decide)⟩ ?_)
      show evSs G _ [.fz (fD x), .fz (dR r), .own 0 [dR (refl x.1 r (1, 0, 0)), dR (refl x.1 r (0, 1, 0)), dR (refl x.1 r (0, 0, 1))], .no, .no, .no] _
      refine x_fz [2] (x_ret F (p := (.d (dM (mirror x.1 r)), _)) rfl ?_ rfl ?_)
      · simp only [true_and, and_true]
        repeat' (first | exact (show 3 ≤ sizeLine by decide) | decide | apply And.intro)
      · show rMi (x, dR r) _
        have e : rMi (x, dR r) (.inl (dM (mirror x.1 r))) = (Sum.inl (dM (mirror x.1 r)) = if rootP x.1 r then (Sum.inl (dM (mirror x.1 r)) : D ⊕ Str) else .inr "BadRoot") := rfl
        rw [e, if_pos hr]
theorem kit_ty0 {K : PySem.W.Frag} {C : Addr} {ty : String} {b : Bool} (hm : PySem.W.kitMeta ty = true) (h : PySem.W.subIn K (.ref C) (.type ty) = some b) : PySem.W.kitOne K (.ref C) (.type ty) = some b := by
  unfold PySem.W.kitOne
  rw [if_neg (by simp)]
  show (if PySem.W.kitMeta ty = true then PySem.W.subIn K (.ref C) (.type ty) else none) = some b
  rw [if_pos hm]
  exact h
end CM

set_option Elab.async false
set_option linter.all false
set_option maxRecDepth 100000
set_option maxHeartbeats 1000000
namespace CM
open PF
/-! ## plain facts of reflections -/
def Kp (m X : M3) : Prop := mm (tp X) (mm m X) = m
def qR (m : M3) (r : R3) : R3 := (2 * (im m r).1 / pr m r r, 2 * (im m r).2.1 / pr m r r, 2 * (im m r).2.2 / pr m r r)
def rq (q r v : R3) : R3 := (v.1 - dot q v * r.1, v.2.1 - dot q v * r.2.1, v.2.2 - dot q v * r.2.2)
theorem dot_comm (v w : R3) : dot v w = dot w v := by
  unfold dot
  rw [Int.mul_comm v.1, Int.mul_comm v.2.1, Int.mul_comm v.2.2]
theorem pr_dot {m : M3} (h : symM m) (r v : R3) : pr m r v = dot v (im m r) := pr_comm h r v
section
variable {m : M3} {r : R3} (hs : symM m) (hr : rootP m r)
include hr
theorem q_at : (qR m r).1 * pr m r r = 2 * (im m r).1 ∧ (qR m r).2.1 * pr m r r = 2 * (im m r).2.1 ∧ (qR m r).2.2 * pr m r r = 2 * (im m r).2.2 :=
  ⟨Int.ediv_mul_cancel (Int.dvd_of_emod_eq_zero hr.2.1), Int.ediv_mul_cancel (Int.dvd_of_emod_eq_zero hr.2.2.1), Int.ediv_mul_cancel (Int.dvd_of_emod_eq_zero hr.2.2.2)⟩
include hs
theorem t_mul (v : R3) : dot (qR m r) v * pr m r r = 2 * pr m r v := by
  obtain ⟨h1, h2, h3⟩ := q_at hr
  rw [pr_dot hs r v]
  generalize pr m r r = n at *
  generalize qR m r = q at *
  generalize im m r = u at *
  unfold dot
  have e1 : q.1 * v.1 * n = v.1 * (2 * u.1) := by rw [← h1]; grind
  have e2 : q.2.1 * v.2.1 * n = v.2.1 * (2 * u.2.1) := by rw [← h2]; grind
  have e3 : q.2.2 * v.2.2 * n = v.2.2 * (2 * u.2.2) := by rw [← h3]; grind
  rw [Int.add_mul, Int.add_mul, e1, e2, e3]
  grind
theorem t_eq (v : R3) : 2 * pr m r v / pr m r r = dot (qR m r) v := by
  rw [← t_mul hs hr v, Int.mul_ediv_cancel _ (Int.ne_of_gt hr.1.1)]
theorem refl_eq (v : R3) : refl m r v = rq (qR m r) r v := by
  unfold refl rq
  rw [t_eq hs hr]
theorem q_self : dot (qR m r) r = 2 := by
  rw [← t_eq hs hr]
  exact Int.mul_ediv_cancel _ (Int.ne_of_gt hr.1.1)
theorem refl_refl (v : R3) : refl m r (refl m r v) = v := by
  rw [refl_eq hs hr, refl_eq hs hr]
  have h := q_self hs hr
  generalize qR m r = q at h
  obtain ⟨q1, q2, q3⟩ := q
  obtain ⟨r1, r2, r3⟩ := r
  obtain ⟨v1, v2, v3⟩ := v
  simp only [dot] at h
  simp only [rq, dot, Prod.mk.injEq]
  refine ⟨?_, ?_, ?_⟩ <;> grind (splits := 0)
theorem refl_self : refl m r r = (-r.1, -r.2.1, -r.2.2) := by
  rw [refl_eq hs hr]
  unfold rq
  rw [q_self hs hr]
  simp only [Prod.mk.injEq]
  refine ⟨?_, ?_, ?_⟩ <;> omega
theorem pr_refl (v w : R3) : pr m (refl m r v) (refl m r w) = pr m v w := by
  rw [refl_eq hs hr, refl_eq hs hr]
  have e1 := t_mul hs hr v
  have e2 := t_mul hs hr w
  have lin : ∀ (a b : Int) (v w : R3), pr m (v.1 - a * r.1, v.2.1 - a * r.2.1, v.2.2 - a * r.2.2) (w.1 - b * r.1, w.2.1 - b * r.2.1, w.2.2 - b * r.2.2) = pr m v w - a * pr m r w - b * pr m v r + a * b * pr m r r := fun a b v w => by
    obtain ⟨⟨a1, a2, a3⟩, ⟨a4, a5, a6⟩, a7, a8, a9⟩ := m
    obtain ⟨r1, r2, r3⟩ := r
    obtain ⟨v1, v2, v3⟩ := v
    obtain ⟨w1, w2, w3⟩ := w
    simp only [pr, im, dot]
    grind (splits := 0)
  unfold rq
  rw [lin, pr_comm hs v r]
  generalize dot (qR m r) v = a at *
  generalize dot (qR m r) w = b at *
  generalize pr m r r = n at *
  generalize pr m r v = x at *
  generalize pr m r w = y at *
  have k1 : a * (b * n) = a * (2 * y) := by rw [e2]
  have k2 : b * (a * n) = b * (2 * x) := by rw [e1]
  have k3 : a * b * n = a * (b * n) := Int.mul_assoc _ _ _
  have k4 : b * (a * n) = a * (b * n) := Int.mul_left_comm _ _ _
  have k5 : a * (2 * y) = 2 * (a * y) := Int.mul_left_comm _ _ _
  have k6 : b * (2 * x) = 2 * (b * x) := Int.mul_left_comm _ _ _
  omega
omit hr hs in
theorem rq_lin (q r v : R3) : im (tp (rq q r (1, 0, 0), rq q r (0, 1, 0), rq q r (0, 0, 1))) v = rq q r v := by
  obtain ⟨q1, q2, q3⟩ := q
  obtain ⟨r1, r2, r3⟩ := r
  obtain ⟨v1, v2, v3⟩ := v
  simp only [im, tp, rq, dot, Prod.mk.injEq]
  refine ⟨?_, ?_, ?_⟩ <;> grind (splits := 0)
theorem mirror_eq : mirror m r = tp (rq (qR m r) r (1, 0, 0), rq (qR m r) r (0, 1, 0), rq (qR m r) r (0, 0, 1)) := by
  unfold mirror
  rw [refl_eq hs hr, refl_eq hs hr, refl_eq hs hr]
theorem im_mirror (v : R3) : im (mirror m r) v = refl m r v := by
  rw [mirror_eq hs hr, rq_lin, refl_eq hs hr]
omit hr hs in
/-- a table is told by its images -/
theorem im_ext {A B : M3} (h : ∀ v, im A v = im B v) : A = B := by
  have e1 := h (1, 0, 0)
  have e2 := h (0, 1, 0)
  have e3 := h (0, 0, 1)
  obtain ⟨⟨a1, a2, a3⟩, ⟨a4, a5, a6⟩, a7, a8, a9⟩ := A
  obtain ⟨⟨b1, b2, b3⟩, ⟨b4, b5, b6⟩, b7, b8, b9⟩ := B
  simp [im, dot] at e1 e2 e3
  simp [e1, e2, e3]
theorem mirror_sq : mm (mirror m r) (mirror m r) = one3 := im_ext fun v => by
  rw [im_mm, im_mirror hs hr, im_mirror hs hr, refl_refl hs hr, im_one]
theorem mirror_det : det3 (mirror m r) = -1 := by
  rw [mirror_eq hs hr]
  have h := q_self hs hr
  generalize qR m r = q at h
  obtain ⟨q1, q2, q3⟩ := q
  obtain ⟨r1, r2, r3⟩ := r
  simp only [dot] at h
  have e : det3 (tp (rq (q1, q2, q3) (r1, r2, r3) (1, 0, 0), rq (q1, q2, q3) (r1, r2, r3) (0, 1, 0), rq (q1, q2, q3) (r1, r2, r3) (0, 0, 1))) = 1 - (q1 * r1 + q2 * r2 + q3 * r3) := by
    simp only [det3, tp, rq, dot, cr]
    grind (splits := 0)
  rw [e, h]; rfl
omit hr hs in
/-- the products tell the table -/
theorem pr_ext {A B : M3} (h : ∀ v w, pr A v w = pr B v w) : A = B := by
  apply im_ext
  intro w
  have e1 := h (1, 0, 0) w
  have e2 := h (0, 1, 0) w
  have e3 := h (0, 0, 1) w
  unfold pr at e1 e2 e3
  generalize im A w = x at *
  generalize im B w = y at *
  obtain ⟨x1, x2, x3⟩ := x
  obtain ⟨y1, y2, y3⟩ := y
  simp [dot] at e1 e2 e3
  simp [e1, e2, e3]
theorem mirror_keep : Kp m (mirror m r) := pr_ext fun v w => by
  rw [pr_mv, im_mirror hs hr, im_mirror hs hr, pr_refl hs hr]
/-- rows with the product 0 stay -/
theorem refl_stay {v : R3} (h : pr m r v = 0) : refl m r v = v := by
  unfold refl
  rw [h]
  simp
end
theorem sm_refl {n : Nat} (hn : n ≤ 80000) {m : M3} {r v : R3} (hm : SmM n m) (hr : SmR n r) (hv : SmR n v) : SmR (4 * n + 8) (refl m r v) := by
  have s1 := sm_pr (by omega) hm hr hv
  have h2 : Sm 2 2 := sm_nat (by decide)
  have s2 : Sm (3 * n + 6) (2 * pr m r v / pr m r r) := Nat.lt_of_le_of_lt (Int.natAbs_ediv_le_natAbs _ _) ((h2.mul s1).up (show 2 + (3 * n + 4) ≤ 3 * n + 6 by omega))
  exact ⟨(hv.1.sub (s2.mul hr.1)).up (by omega), (hv.2.1.sub (s2.mul hr.2.1)).up (by omega), (hv.2.2.sub (s2.mul hr.2.2)).up (by omega)⟩
theorem sm_unit : SmR 1 (1, 0, 0) ∧ SmR 1 (0, 1, 0) ∧ SmR 1 (0, 0, 1) := ⟨⟨sm_nat (by decide), sm_nat (by decide), sm_nat (by decide)⟩, ⟨sm_nat (by decide), sm_nat (by decide), sm_nat (by decide)⟩, ⟨sm_nat (by decide), sm_nat (by decide), sm_nat (by decide)⟩⟩
theorem sm_mirror {n : Nat} (h1 : 1 ≤ n) (hn : n ≤ 80000) {m : M3} {r : R3} (hm : SmM n m) (hr : SmR n r) : SmM (4 * n + 8) (mirror m r) :=
  sm_tp ⟨sm_refl hn hm hr (sm_unit.1.up h1), sm_refl hn hm hr (sm_unit.2.1.up h1), sm_refl hn hm hr (sm_unit.2.2.up h1)⟩
/-- roots in a list of rows -/
def rts (m : M3) (l : List R3) : List R3 := l.filter fun r => decide (rootP m r)
theorem rts_mem {m : M3} {l : List R3} {r : R3} : r ∈ rts m l ↔ r ∈ l ∧ rootP m r := by simp [rts]
theorem box_bd {n : Int} {v : R3} (h : v ∈ box n n n) : BdR n v := box_mem.mp h
theorem box_len (a b c : Int) : (box a b c).length = (2 * a + 1).toNat * ((2 * b + 1).toNat * (2 * c + 1).toNat) := by
  unfold box
  have k : ∀ {α β : Type} (f : α → List β) (n : Nat) (l : List α), (∀ x, (f x).length = n) → (l.flatMap f).length = l.length * n := fun f n l h => by
    induction l with
    | nil => simp
    | cons x l ih => rw [List.flatMap_cons, List.length_append, ih, h x, List.length_cons, Nat.succ_mul]; omega
  rw [k _ ((2 * b + 1).toNat * (2 * c + 1).toNat) _ fun x => ?_, rg_len]
  rw [k _ ((2 * c + 1).toNat) _ fun y => ?_, rg_len]
  rw [List.length_map, rg_len]
end CM

set_option Elab.async false
set_option linter.all false
set_option maxRecDepth 100000
set_option maxHeartbeats 400000
namespace CM
open PySem PySem.Spec PyProof.Rows L2 PF
variable {G : Tb} {T : Ft}
def cFormV : List D → Option (D × Prop)
  | [a] => (rdM a).map fun m => (fD (objF m), SmM 4000 m ∧ formP m)
  | _ => none
theorem v_form : FuOf (Fn.rl aM (SmM 4000) rForm) 1 cFormV := fuOf_rl fun ds p hn h hc => by
  obtain ⟨a, m, rfl, h1, rfl⟩ := c1_by (k := fun m => (fD (objF m), SmM 4000 m ∧ formP m)) (fun _ => rfl) hn h
  rw [rdM_ok h1]
  refine ⟨m, rfl, hc.1, fun o ho => ?_⟩
  have ho' : o = if formP m then .inl (fD (objF m)) else .inr "BadForm" := ho
  rw [if_pos hc.2] at ho'
  exact ho'
/-! ### inside -/
def cIn : List D → Option (D × Prop)
  | [a, b] => (rdF a).bind fun x => (rdR b).map fun p => (.bl (decide (pr x.1 p p < 0)), SmM 100000 x.1 ∧ SmR 100000 p)
  | _ => none
theorem o_is_inside (F : FtOk G T) (hn' : T.mth "norm" = some (fun ds => if ds.length = 2 then cNorm ds else none)) : ∀ ds p, ds.length = 2 → cIn ds = some p → p.2 → ∀ P : Po, (∀ env, P.rt p.1 env) → evSs G b_is_inside (ds.map Sl.fz ++ List.replicate 0 .no) P := by
  intro ds p hn h hp P q
  obtain ⟨a, b, x, r, rfl, h1, h2, rfl⟩ := c2_by (k := fun (x : FD) p => (.bl (decide (pr x.1 p p < 0)), SmM 100000 x.1 ∧ SmR 100000 p)) (fun _ _ => rfl) hn h
  rw [rdF_ok h1, rdR_ok h2]
  have e1 := evP_meth (T := T) (m := "norm") (env := [.fz (fD x), .fz (dR r)]) (o := .var 0) (l := .cons (.var 1) .nil) hn' (evP_fz (d := fD x) rfl) rfl (evPM_cons (evP_fz (d := dR r) rfl) rfl evPM_nil) rfl
  exact x_one (x_ret F (evP_cmp (op := .lt) (b := .cst (.int 0)) e1 rfl rfl rfl rfl) ⟨⟨trivial, ⟨trivial, trivial⟩, hp.1.up (by omega), hp.2.up (by omega)⟩, trivial, trivial⟩ rfl (q _))
def aB (a : FD × R3) : List D := [fD a.1, dR a.2]
def pB (a : FD × R3) : Prop := SmM 100000 a.1.1 ∧ SmR 100000 a.2
def rB (a : FD × R3) (o : D ⊕ Str) : Prop := o = if pr a.1.1 a.2 a.2 < 0 then .inl .non else .inr "BadBase"
theorem o_look_at_base (F : FtOk G T) (hi : T.fn "is_inside" = some (fun ds => if ds.length = 2 then cIn ds else none)) (he : G.exc "BadBase" = true) : ∀ a, pB a → evSs G b_look_at_base ((aB a).map Sl.fz ++ List.replicate 0 .no) (valPo (fun d => rB a (.inl d)) (fun c => rB a (.inr c))) := by
  rintro ⟨x, p⟩ ⟨s1, s2⟩
  have e := evPT_bnot (evPT_of (T := T) (e := .call "is_inside" (.cons (.var 0) (.cons (.var 1) .nil))) rfl (evP_call (env := [.fz (fD x), .fz (dR p)]) hi (evPM_cons (evP_fz (d := fD x) rfl) rfl (evPM_cons (evP_fz (d := dR p) rfl) rfl evPM_nil)) rfl) rfl rfl)
  refine x_one (x_ite F e ⟨⟨⟨trivial, trivial, trivial⟩, s1, s2⟩, trivial⟩ (fun hb => x_one (x_rai he ?_)) (fun hb => x_done ?_))
  · have hb' : (!decide (pr x.1 p p < 0)) = true := hb
    show rB (x, p) _
    unfold rB
    rw [if_neg (by simpa using hb')]
  · have hb' : (!decide (pr x.1 p p < 0)) = false := hb
    show rB (x, p) _
    unfold rB
    rw [if_pos (by simpa using hb')]
/-! ### a row inside, looked for in boxes -/
def aIns (a : M3 × Nat) : List D := [dM a.1, .int a.2]
def pIns (a : M3 × Nat) : Prop := SmM 1000 a.1 ∧ a.2 ≤ 100
def rIns (a : M3 × Nat) (o : D ⊕ Str) : Prop := (∃ v, o = .inl (dR v) ∧ BdR a.2 v ∧ pr a.1 v v < 0) ∨ o = .inl .non
theorem rng_at {lo hi : Int} {k : Nat} {d : D} (h : (PF.intsFrom lo (hi - lo).toNat)[k]? = some d) : ∃ x, d = .int x ∧ lo ≤ x ∧ x < hi := by
  obtain ⟨h1, h2⟩ := intsFrom_at h
  exact ⟨lo + k, h1, by omega, by omega⟩
theorem o__law_inside (F : FtOk G T) (hp' : T.fn "_law_product" = some (fun ds => if ds.length = 3 then cLP ds else none)) : ∀ a, pIns a → evSs G b__law_inside ((aIns a).map Sl.fz ++ List.replicate 4 .no) (valPo (fun d => rIns a (.inl d)) (fun c => rIns a (.inr c))) := by
  rintro ⟨m, most⟩ ⟨sm, hm⟩
  dsimp only at sm hm
  show evSs G _ [.fz (dM m), .fz (.int most), .no, .no, .no, .no] _
  refine x_seq (x_forI F (p := (PF.intsFrom 1 (((most : Int) + 1) - 1).toNat, _)) rfl (by simp only [true_and, and_true]; omega) (fun k env => ∃ x2 x3 x4 x5 : Sl, env = [.fz (dM m), .fz (.int most), x2, x3, x4, x5]) ⟨_, _, _, _, rfl⟩ ?_ ?_)
  rotate_left
  · rintro env ⟨x2, x3, x4, x5, rfl⟩
    exact x_one (x_ret F (p := (.d .non, True)) rfl trivial rfl (.inr rfl))
  rintro k d env hk ⟨x2, x3, x4, x5, rfl⟩
  obtain ⟨size, rfl, k1, k2⟩ := rng_at hk
  clear hk
  refine ⟨_, rfl, x_one (x_forI F (p := (PF.intsFrom 0 (size + 1).toNat, _)) rfl (by simp only [true_and, and_true]; omega) (fun k env => ∃ x3 x4 x5 : Sl, env = [.fz (dM m), .fz (.int most), .fz (.int size), x3, x4, x5]) ⟨_, _, _, rfl⟩ ?_ ?_)⟩
  rotate_left
  · rintro env ⟨x3, x4, x5, rfl⟩
    exact ⟨_, _, _, _, rfl⟩
  rintro k d env hk ⟨x3, x4, x5, rfl⟩
  obtain ⟨x, rfl, a1, a2⟩ := rng_at (lo := 0) (hi := size + 1) (by simpa using hk)
  clear hk
  refine ⟨_, rfl, x_one (x_forI F (p := (PF.intsFrom (-size) ((size + 1) - -size).toNat, _)) rfl (by simp only [true_and, and_true]; omega) (fun k env => ∃ x4 x5 : Sl, env = [.fz (dM m), .fz (.int most), .fz (.int size), .fz (.int x), x4, x5]) ⟨_, _, rfl⟩ ?_ ?_)⟩
  rotate_left
  · rintro env ⟨x4, x5, rfl⟩
    exact ⟨_, _, _, rfl⟩
  rintro k d env hk ⟨x4, x5, rfl⟩
  obtain ⟨y, rfl, b1, b2⟩ := rng_at hk
  clear hk
  refine ⟨_, rfl, x_one (x_forI F (p := (PF.intsFrom (-size) ((size + 1) - -size).toNat, _)) rfl (by simp only [true_and, and_true]; omega) (fun k env => ∃ x5 : Sl, env = [.fz (dM m), .fz (.int most), .fz (.int size), .fz (.int x), .fz (.int y), x5]) ⟨_, rfl⟩ ?_ ?_)⟩
  rotate_left
  · rintro env ⟨x5, rfl⟩
    exact ⟨_, _, rfl⟩
  rintro k d env hk ⟨x5, rfl⟩
  obtain ⟨z, rfl, c1, c2⟩ := rng_at hk
  clear hk
  have bv : BdR size (x, y, z) := ⟨⟨(show -size ≤ x by omega), (show x ≤ size by omega)⟩, ⟨(show -size ≤ y by omega), (show y ≤ size by omega)⟩, (show -size ≤ z by omega), (show z ≤ size by omega)⟩
  have sv : SmR 1000 (x, y, z) := ((bv.up (show size ≤ 100 by omega)).sm (k := 7) (by decide)).up (by omega)
  refine ⟨_, rfl, ?_⟩
  show evSs G _ [.fz (dM m), .fz (.int most), .fz (.int size), .fz (.int x), .fz (.int y), .fz (.int z)] _
  let env0 : En := [.fz (dM m), .fz (.int most), .fz (.int size), .fz (.int x), .fz (.int y), .fz (.int z)]
  have et : evP T (.tup (.cons (.var 3) (.cons (.var 4) (.cons (.var 5) .nil)))) env0 = some (.d (dR (x, y, z)), True) := pv_true (evP_tup (evPM_cons (evP_fz (i := 3) (d := .int x) rfl) rfl (evPM_cons (evP_fz (i := 4) (d := .int y) rfl) rfl (evPM_cons (evP_fz (i := 5) (d := .int z) rfl) rfl evPM_nil)))) ⟨⟨trivial, trivial, trivial, trivial⟩, (show 3 ≤ sizeLine by decide)⟩
  have c1' : evPT T (.cmp .eq (.bi .max (.cons (.var 3) (.cons (.bi .abs (.cons (.var 4) .nil)) (.cons (.bi .abs (.cons (.var 5) .nil)) .nil)))) (.var 2)) env0 = some (decide (mx2 (mx2 x (ab y)) (ab z) = size), True) := pv_true (v := decide (mx2 (mx2 x (ab y)) (ab z) = size)) rfl (by simp only [and_self])
  have c2' : evPT T (.cmp .gt (.tup (.cons (.var 3) (.cons (.var 4) (.cons (.var 5) .nil)))) (.tup (.cons (.cst (.int 0)) (.cons (.cst (.int 0)) (.cons (.cst (.int 0)) .nil))))) env0 = some (gtI [x, y, z] [0, 0, 0], True) := pv_true (v := gtI [x, y, z] [0, 0, 0]) rfl (by simp only [true_and, and_true]; exact ⟨(show 3 ≤ sizeLine by decide), (show 3 ≤ sizeLine by decide)⟩)
  have c3' := evPT_cmp (T := T) (op := .lt) (b := .cst (.int 0)) (env := env0) (evP_call (f := "_law_product") (env := env0) hp' (evPM_cons (evP_fz (i := 0) (d := dM m) rfl) rfl (evPM_cons et rfl (evPM_cons et rfl evPM_nil))) rfl) rfl rfl rfl rfl
  refine x_one (x_ite F (evPT_band (evPA_c c1' (evPA_c c2' (evPA_1 c3')))) ⟨trivial, fun _ => ⟨trivial, fun _ => ⟨⟨⟨⟨trivial, trivial, trivial, trivial⟩, sm.up (by omega), sv.up (by omega), sv.up (by omega)⟩, trivial, trivial⟩, trivial⟩⟩⟩ (fun hb => x_one (x_ret F et trivial rfl (.inl ⟨(x, y, z), rfl, bv.up (show size ≤ (most : Int) by omega), ?_⟩))) (fun _ => x_done ⟨_, rfl⟩))
  have hb' : (decide (mx2 (mx2 x (ab y)) (ab z) = size) && (gtI [x, y, z] [0, 0, 0] && decide (pr m (x, y, z) (x, y, z) < 0))) = true := hb
  simp only [Bool.and_eq_true, decide_eq_true_eq] at hb'
  exact hb'.2.2
/-! ### outward -/
def nums (m : M3) (p r : R3) : List Int := [pr m r p, (im m r).1, (im m r).2.1, (im m r).2.2]
def outB (m : M3) (p r : R3) : Bool := decide (((nums m p r).filter fun i => !decide (i = 0)).headD 0 < 0)
def aO (a : FD × R3 × D) : List D := [fD a.1, dR a.2.1, a.2.2]
def pO (a : FD × R3 × D) : Prop := SmM 1000 a.1.1 ∧ SmR 1000 a.2.1 ∧ VR a.2.2
def rO (a : FD × R3 × D) (o : D ⊕ Str) : Prop := if pr a.1.1 a.2.1 a.2.1 < 0 then (match rdR a.2.2 with
  | some r => o = if rootP a.1.1 r then .inl (.bl (outB a.1.1 a.2.1 r)) else .inr "BadRoot"
  | none => o = .inr "BadRoot") else o = .inr "BadBase"
def cOV : List D → Option (D × Prop)
  | [a, b, c] => (rdF a).bind fun x => (rdR b).bind fun p => (rdR c).map fun r => (.bl (outB x.1 p r), SmM 1000 x.1 ∧ SmR 1000 p ∧ SmR 1000 r ∧ pr x.1 p p < 0 ∧ rootP x.1 r)
  | _ => none
theorem v_o : FuOf (Fn.rl aO pO rO) 3 cOV := fuOf_rl fun ds p hn h hc => by
  obtain ⟨a, b, c, x, p', r, rfl, h1, h2, h3, rfl⟩ := c3_by (k := fun (x : FD) p r => (.bl (outB x.1 p r), SmM 1000 x.1 ∧ SmR 1000 p ∧ SmR 1000 r ∧ pr x.1 p p < 0 ∧ rootP x.1 r)) (fun _ _ _ => rfl) hn h
  obtain ⟨s1, s2, s3, hp, hr⟩ := hc
  rw [rdF_ok h1, rdR_ok h2, rdR_ok h3]
  refine ⟨(x, p', dR r), rfl, ⟨s1, s2, .inr (.inr ⟨r, rfl, s3⟩)⟩, fun o ho => ?_⟩
  have ho' : if pr x.1 p' p' < 0 then (o = if rootP x.1 r then .inl (.bl (outB x.1 p' r)) else .inr "BadRoot") else o = .inr "BadBase" := ho
  rw [if_pos hp, if_pos hr] at ho'
  exact ho'
theorem im_ne {m : M3} {r : R3} (h : 0 < pr m r r) : (im m r).1 ≠ 0 ∨ (im m r).2.1 ≠ 0 ∨ (im m r).2.2 ≠ 0 := by
  by_cases h1 : (im m r).1 = 0
  · by_cases h2 : (im m r).2.1 = 0
    · by_cases h3 : (im m r).2.2 = 0
      · unfold pr dot at h
        rw [h1, h2, h3] at h
        simp at h
      · exact .inr (.inr h3)
    · exact .inr (.inl h2)
  · exact .inl h1
theorem nums_ne {m : M3} {p r : R3} (h : 0 < pr m r r) : ∃ i l, (nums m p r).filter (fun i => !decide (i = 0)) = i :: l ∧ i ≠ 0 := by
  cases hl : (nums m p r).filter (fun i => !decide (i = 0)) with
  | nil =>
    exfalso
    rw [List.filter_eq_nil_iff] at hl
    have k1 := hl (im m r).1 (by simp [nums])
    have k2 := hl (im m r).2.1 (by simp [nums])
    have k3 := hl (im m r).2.2 (by simp [nums])
    simp at k1 k2 k3
    rcases im_ne h with z | z | z
    · exact z k1
    · exact z k2
    · exact z k3
  | cons i l =>
    refine ⟨i, l, rfl, ?_⟩
    have : i ∈ (nums m p r).filter (fun i => !decide (i = 0)) := by rw [hl]; exact List.mem_cons_self
    rw [List.mem_filter] at this
    simpa using this.2
theorem evP_lst {l : EL} {env : En} {r : List D × Prop} (h : evPM T l env = some r) : evP T (.lst l) env = some (.nw r.1, r.2 ∧ r.1.length ≤ sizeLine) := by
  show (evPM T l env).map _ = _
  rw [h]; rfl
/-! signs of the numbers -/
theorem im_neg (m : M3) (r : R3) : im m (-r.1, -r.2.1, -r.2.2) = (-(im m r).1, -(im m r).2.1, -(im m r).2.2) := by
  obtain ⟨⟨a1, a2, a3⟩, ⟨a4, a5, a6⟩, a7, a8, a9⟩ := m
  obtain ⟨r1, r2, r3⟩ := r
  simp only [im, dot, Prod.mk.injEq]
  refine ⟨?_, ?_, ?_⟩ <;> grind
theorem pr_neg_l (m : M3) (r v : R3) : pr m (-r.1, -r.2.1, -r.2.2) v = -pr m r v := by
  unfold pr dot
  dsimp only
  grind
theorem pr_neg_r (m : M3) (r v : R3) : pr m v (-r.1, -r.2.1, -r.2.2) = -pr m v r := by
  unfold pr
  rw [im_neg]
  unfold dot
  dsimp only
  grind
theorem g3_neg (r : R3) : g3 (-r.1, -r.2.1, -r.2.2) = g3 r := by
  rw [g3_eq, g3_eq]
  unfold gI
  simp
theorem root_neg {m : M3} {r : R3} (h : rootP m r) : rootP m (-r.1, -r.2.1, -r.2.2) := by
  obtain ⟨⟨h1, h2⟩, h3, h4, h5⟩ := h
  have e : pr m (-r.1, -r.2.1, -r.2.2) (-r.1, -r.2.1, -r.2.2) = pr m r r := by rw [pr_neg_l, pr_neg_r]; omega
  have ng : ∀ a n : Int, a % n = 0 → (-a) % n = 0 := fun a n h => Int.emod_eq_zero_of_dvd ((Int.dvd_neg).mpr (Int.dvd_of_emod_eq_zero h))
  refine ⟨⟨by rw [e]; exact h1, by rw [g3_neg]; exact h2⟩, ?_⟩
  rw [e, im_neg]
  have k : ∀ a : Int, 2 * -a = -(2 * a) := fun a => by omega
  exact ⟨by rw [k]; exact ng _ _ h3, by rw [k]; exact ng _ _ h4, by rw [k]; exact ng _ _ h5⟩
theorem evP_callN {f : Str} {l : EL} {env : En} {n : Nat} {r : List D → Option (D × Prop)} {ds : List D × Prop} {p : D × Prop} (h : T.fn f = some (fun ds => if ds.length = n then r ds else none)) (h2 : evPM T l env = some ds) (hn : ds.1.length = n) (h3 : r ds.1 = some p) : evP T (.call f l) env = some (.d p.1, ds.2 ∧ p.2) :=
  evP_call h h2 (by show (if ds.1.length = n then r ds.1 else none) = _; rw [if_pos hn]; exact h3)
end CM

set_option Elab.async false
set_option linter.all false
set_option maxRecDepth 100000
set_option maxHeartbeats 1000000
namespace CM
open PF
/-! ## plain facts: images of roots are roots; how two mirrors meet -/
theorem g3_dvd (r : R3) : g3 r ∣ r.1 ∧ g3 r ∣ r.2.1 ∧ g3 r ∣ r.2.2 := by
  rw [g3_eq]
  exact ⟨Int.dvd_trans (gI_l _ _) (gI_l _ _), Int.dvd_trans (gI_l _ _) (gI_r _ _), gI_r _ _⟩
theorem gI_of {d a b : Int} (h1 : d ∣ a) (h2 : d ∣ b) : d ∣ gI a b := by
  have := Nat.dvd_gcd (Int.natAbs_dvd_natAbs.mpr h1) (Int.natAbs_dvd_natAbs.mpr h2)
  exact Int.natAbs_dvd_natAbs.mp (by unfold gI; rw [Int.natAbs_natCast]; exact this)
theorem g3_of {d : Int} {r : R3} (h1 : d ∣ r.1) (h2 : d ∣ r.2.1) (h3 : d ∣ r.2.2) : d ∣ g3 r := by
  rw [g3_eq]
  exact gI_of (gI_of h1 h2) h3
theorem g3_nn (r : R3) : 0 ≤ g3 r := by rw [g3_eq]; exact gI_nn _ _
theorem root_refl {m : M3} {q s : R3} (hs : symM m) (hq : rootP m q) (h : rootP m s) : rootP m (refl m q s) := by
  have hn : pr m (refl m q s) (refl m q s) = pr m s s := pr_refl hs hq s s
  refine ⟨⟨by rw [hn]; exact h.1.1, ?_⟩, ?_⟩
  · have key : g3 (refl m q s) ∣ g3 s := by
      have e := refl_refl hs hq s
      obtain ⟨d1, d2, d3⟩ := g3_dvd (refl m q s)
      rw [refl_eq hs hq (refl m q s)] at e
      have dd : g3 (refl m q s) ∣ dot (qR m q) (refl m q s) := by
        unfold dot
        exact Int.dvd_add (Int.dvd_add (Int.dvd_trans d1 (Int.dvd_mul_left _ _)) (Int.dvd_trans d2 (Int.dvd_mul_left _ _))) (Int.dvd_trans d3 (Int.dvd_mul_left _ _))
      have f : ∀ x r : Int, g3 (refl m q s) ∣ x → g3 (refl m q s) ∣ x - dot (qR m q) (refl m q s) * r := fun x r hx => Int.dvd_sub hx (Int.dvd_trans dd (Int.dvd_mul_right _ _))
      have e1 : (rq (qR m q) q (refl m q s)).1 = s.1 := by rw [e]
      have e2 : (rq (qR m q) q (refl m q s)).2.1 = s.2.1 := by rw [e]
      have e3 : (rq (qR m q) q (refl m q s)).2.2 = s.2.2 := by rw [e]
      exact g3_of (by rw [← e1]; exact f _ _ d1) (by rw [← e2]; exact f _ _ d2) (by rw [← e3]; exact f _ _ d3)
    rw [h.1.2] at key
    have := Int.le_of_dvd (by decide) key
    have n0 := g3_nn (refl m q s)
    rcases Int.lt_or_eq_of_le n0 with z | z
    · omega
    · rw [← z] at key; exact absurd (Int.zero_dvd.mp key) (by decide)
  · rw [hn]
    have d : ∀ v : R3, pr m s s ∣ 2 * pr m v s := fun v => by
      rw [show 2 * pr m v s = v.1 * (2 * (im m s).1) + v.2.1 * (2 * (im m s).2.1) + v.2.2 * (2 * (im m s).2.2) by unfold pr dot; grind]
      exact Int.dvd_add (Int.dvd_add (Int.dvd_trans (Int.dvd_of_emod_eq_zero h.2.1) (Int.dvd_mul_left _ _)) (Int.dvd_trans (Int.dvd_of_emod_eq_zero h.2.2.1) (Int.dvd_mul_left _ _))) (Int.dvd_trans (Int.dvd_of_emod_eq_zero h.2.2.2) (Int.dvd_mul_left _ _))
    have k : ∀ e : R3, pr m s s ∣ 2 * pr m e (refl m q s) := fun e => by
      have := pr_refl hs hq (refl m q e) s
      rw [refl_refl hs hq] at this
      rw [this]; exact d _
    have u1 := k (1, 0, 0)
    have u2 := k (0, 1, 0)
    have u3 := k (0, 0, 1)
    simp [pr, dot] at u1 u2 u3
    exact ⟨Int.emod_eq_zero_of_dvd u1, Int.emod_eq_zero_of_dvd u2, Int.emod_eq_zero_of_dvd u3⟩
def numN (m : M3) (r s : R3) : Int := 4 * pr m r s * pr m r s / (pr m r r * pr m s s)
section
variable {m : M3} {r s : R3} (hs : symM m) (hr : rootP m r) (hq : rootP m s)
include hs hr hq
theorem num_mul : numN m r s * (pr m r r * pr m s s) = 4 * pr m r s * pr m r s := by
  have e1 := t_mul hs hr s
  have e2 := t_mul hs hq r
  rw [pr_comm hs s r] at e2
  unfold numN
  apply Int.ediv_mul_cancel
  refine ⟨dot (qR m r) s * dot (qR m s) r, ?_⟩
  generalize dot (qR m r) s = a at *
  generalize dot (qR m s) r = b at *
  generalize pr m r r = n at *
  generalize pr m s s = k at *
  generalize pr m r s = p at *
  have h : (a * n) * (b * k) = (2 * p) * (2 * p) := by rw [e1, e2]
  grind
theorem num_nn : 0 ≤ numN m r s := by
  have e := num_mul hs hr hq
  have p : 0 < pr m r r * pr m s s := Int.mul_pos hr.1.1 hq.1.1
  have q := sq_nn (pr m r s)
  have q2 : 4 * pr m r s * pr m r s = 4 * (pr m r s * pr m r s) := Int.mul_assoc _ _ _
  rcases Int.lt_or_le (numN m r s) 0 with h | h
  · have := Int.mul_neg_of_neg_of_pos h p
    omega
  · exact h
theorem num_comm : numN m s r = numN m r s := by
  unfold numN
  rw [pr_comm hs s r, Int.mul_comm (pr m s s)]
end
theorem num_neg (m : M3) (r s : R3) : numN m r (-s.1, -s.2.1, -s.2.2) = numN m r s := by
  unfold numN
  rw [pr_neg_r, pr_neg_l, pr_neg_r]
  congr 1
  · grind
  · grind
def btw (m : M3) (r s : R3) : R3 := cr (im m r) (im m s)
theorem btw_l (m : M3) (r s : R3) : pr m (btw m r s) r = 0 ∧ pr m (btw m r s) s = 0 := by
  unfold pr btw
  generalize im m r = u
  generalize im m s = v
  obtain ⟨u1, u2, u3⟩ := u
  obtain ⟨v1, v2, v3⟩ := v
  simp only [dot, cr]
  constructor <;> grind
theorem btw_norm {m : M3} (hs : symM m) (r s : R3) : pr m (btw m r s) (btw m r s) = det3 m * (pr m r r * pr m s s - pr m r s * pr m r s) := by
  have h1 : im m (btw m r s) = (det3 m * (cr r s).1, det3 m * (cr r s).2.1, det3 m * (cr r s).2.2) := by
    obtain ⟨⟨a, b, c⟩, ⟨b', d, e⟩, c', e', g⟩ := m
    obtain ⟨g1, g2, g3⟩ := hs
    dsimp only at g1 g2 g3
    subst g1 g2 g3
    obtain ⟨r1, r2, r3⟩ := r
    obtain ⟨s1, s2, s3⟩ := s
    simp only [btw, im, dot, cr, det3, Prod.mk.injEq]
    refine ⟨?_, ?_, ?_⟩ <;> grind (splits := 0)
  have h2 : dot (btw m r s) (cr r s) = pr m r r * pr m s s - pr m r s * pr m s r := by
    unfold pr btw
    generalize im m r = u
    generalize im m s = v
    obtain ⟨u1, u2, u3⟩ := u
    obtain ⟨v1, v2, v3⟩ := v
    obtain ⟨r1, r2, r3⟩ := r
    obtain ⟨s1, s2, s3⟩ := s
    simp only [dot, cr]
    grind (splits := 0)
  rw [pr_comm hs s r] at h2
  rw [← h2]
  unfold pr
  rw [h1]
  unfold dot
  dsimp only
  grind (splits := 0)
end CM

set_option Elab.async false
set_option linter.all false
set_option maxRecDepth 100000
set_option maxHeartbeats 400000
namespace CM
open PySem PySem.Spec PyProof.Rows L2 PF
variable {G : Tb} {T : Ft}
theorem evP_ifeT {c a b : E} {env : En} {pc : Prop} {p : Ev × Prop} (h : evPT T c env = some (true, pc)) (h2 : evP T a env = some p) : evP T (.ife c a b) env = some (p.1, pc ∧ p.2) := by
  show ((evPT T c env).bind _) = _
  rw [h]
  show (evP T a env).map _ = _
  rw [h2]; rfl
theorem evP_ifeF {c a b : E} {env : En} {pc : Prop} {p : Ev × Prop} (h : evPT T c env = some (false, pc)) (h2 : evP T b env = some p) : evP T (.ife c a b) env = some (p.1, pc ∧ p.2) := by
  show ((evPT T c env).bind _) = _
  rw [h]
  show (evP T b env).map _ = _
  rw [h2]; rfl
/-- a look at a root as a statement -/
theorem x_look (F : FtOk G T) (hl : G.fns "_look_at" = some (List.replicate 2 false, Fn.rl aV pV rLook)) {env : En} {P : Po} {l : EL} {c : Prop} {x : FD} {v : D} (h : evPM T l env = some ([fD x, v], c)) (hc : c) (sm : SmM 1000 x.1) (hv : VR v)
    (hbad : rtV x.1 v = false → P.er "BadRoot" env) (hok : ∀ r, v = dR r → SmR 1000 r → rootP x.1 r → P.nx env) : evS G (.expr (.call "_look_at" l)) env P := by
  refine x_exprR F hl h hc (x, v) rfl rfl ⟨sm, hv⟩ (fun d hd => ?_) (fun c hc => ?_)
  · have hd' : Sum.inl d = if rtV x.1 v = true then (.inl .non : D ⊕ Str) else .inr "BadRoot" := hd
    split at hd'
    rotate_left
    · cases hd'
    rename_i hrt
    unfold rtV at hrt
    cases hrd : rdR v with
    | none => rw [hrd] at hrt; cases hrt
    | some r =>
      rw [hrd] at hrt
      have er := rdR_ok hrd
      refine hok r er ?_ (of_decide_eq_true hrt)
      subst er
      rcases hv with h | ⟨s, h⟩ | ⟨r', h, s⟩
      · cases h
      · cases h
      · have : r = r' := by
          have e := congrArg rdR h
          exact Option.some.inj e
        rw [this]; exact s
  · have hc' : Sum.inr c = if rtV x.1 v = true then (.inl .non : D ⊕ Str) else .inr "BadRoot" := hc
    split at hc'
    · cases hc'
    · rename_i h
      cases hc'
      exact hbad (by simpa using h)
/-! ### meet -/
abbrev ng (s : R3) : R3 := (-s.1, -s.2.1, -s.2.2)
def angD : List D := [.int 2, .int 3, .int 4, .int 6, .int 0]
def mtV (n : Int) : D := (angD[n.toNat]?).getD .non
abbrev okMt (m : M3) (r s : R3) : Prop := rootP m r ∧ rootP m s ∧ r ≠ s ∧ r ≠ ng s
def aMt (a : FD × D × D) : List D := [fD a.1, a.2.1, a.2.2]
def pMt (a : FD × D × D) : Prop := SmM 1000 a.1.1 ∧ symM a.1.1 ∧ VR a.2.1 ∧ VR a.2.2
def rMt (a : FD × D × D) (o : D ⊕ Str) : Prop := match rdR a.2.1, rdR a.2.2 with
  | some r, some s => o = if okMt a.1.1 r s then .inl (mtV (numN a.1.1 r s)) else .inr "BadRoot"
  | _, _ => o = .inr "BadRoot"
def cMtV : List D → Option (D × Prop)
  | [a, b, c] => (rdF a).bind fun x => (rdR b).bind fun r => (rdR c).map fun s => (mtV (numN x.1 r s), SmM 1000 x.1 ∧ symM x.1 ∧ SmR 1000 r ∧ SmR 1000 s ∧ okMt x.1 r s)
  | _ => none
theorem v_mt : FuOf (Fn.rl aMt pMt rMt) 3 cMtV := fuOf_rl fun ds p hn h hc => by
  obtain ⟨a, b, c, x, r, s, rfl, h1, h2, h3, rfl⟩ := c3_by (k := fun (x : FD) r s => (mtV (numN x.1 r s), SmM 1000 x.1 ∧ symM x.1 ∧ SmR 1000 r ∧ SmR 1000 s ∧ okMt x.1 r s)) (fun _ _ _ => rfl) hn h
  obtain ⟨s1, s2, s3, s4, hr⟩ := hc
  rw [rdF_ok h1, rdR_ok h2, rdR_ok h3]
  refine ⟨(x, dR r, dR s), rfl, ⟨s1, s2, .inr (.inr ⟨r, rfl, s3⟩), .inr (.inr ⟨s, rfl, s4⟩)⟩, fun o ho => ?_⟩
  have ho' : o = if okMt x.1 r s then .inl (mtV (numN x.1 r s)) else .inr "BadRoot" := ho
  rw [if_pos hr] at ho'
  exact ho'
theorem mt_bad1 {x : FD} {v w : D} (h : rtV x.1 v = false) : rMt (x, v, w) (.inr "BadRoot") := by
  unfold rMt
  dsimp only
  split
  · rename_i r s e1 e2
    rw [if_neg]
    intro hk
    unfold rtV at h
    rw [e1] at h
    exact absurd hk.1 (of_decide_eq_false h)
  · rfl
theorem mt_bad2 {x : FD} {v w : D} (h : rtV x.1 w = false) : rMt (x, v, w) (.inr "BadRoot") := by
  unfold rMt
  dsimp only
  split
  · rename_i r s e1 e2
    rw [if_neg]
    intro hk
    unfold rtV at h
    rw [e2] at h
    exact absurd hk.2.1 (of_decide_eq_false h)
  · rfl
theorem mt_at (x : FD) (r s : R3) (o : D ⊕ Str) : rMt (x, dR r, dR s) o = (o = if okMt x.1 r s then .inl (mtV (numN x.1 r s)) else .inr "BadRoot") := rfl
theorem o_meet (F : FtOk G T) (hl : G.fns "_look_at" = some (List.replicate 2 false, Fn.rl aV pV rLook)) (hp' : T.mth "product" = some (fun ds => if ds.length = 3 then cProd ds else none)) (hn' : T.mth "norm" = some (fun ds => if ds.length = 2 then cNorm ds else none)) (hx : G.exc "BadRoot" = true) (ha : T.cst "ANGLES" = some (.tup angD)) :
    ∀ a, pMt a → evSs G b_meet ((aMt a).map Sl.fz ++ List.replicate 2 .no) (valPo (fun d => rMt a (.inl d)) (fun c => rMt a (.inr c))) := by
  rintro ⟨x, rv, sv⟩ ⟨sm, hs, hv, hw⟩
  show evSs G _ [.fz (fD x), .fz rv, .fz sv, .no, .no] _
  dsimp only at sm hs hv hw
  refine x_seq (x_look F hl (evPM_cons (evP_fz (d := fD x) rfl) rfl (evPM_cons (evP_fz (d := rv) rfl) rfl evPM_nil)) ⟨trivial, trivial, trivial⟩ sm hv (fun h => mt_bad1 h) ?_)
  rintro r rfl sr hr
  refine x_seq (x_look F hl (evPM_cons (evP_fz (d := fD x) rfl) rfl (evPM_cons (evP_fz (d := sv) rfl) rfl evPM_nil)) ⟨trivial, trivial, trivial⟩ sm hw (fun h => mt_bad2 h) ?_)
  rintro s rfl ss hq
  let env0 : En := [.fz (fD x), .fz (dR r), .fz (dR s), .no, .no]
  have en : evP T (.tup (.cons (.neg (.ix (.var 2) (.cst (.int 0)))) (.cons (.neg (.ix (.var 2) (.cst (.int 1)))) (.cons (.neg (.ix (.var 2) (.cst (.int 2)))) .nil)))) env0 = some (.d (dR (ng s)), True) := pv_true rfl (by simp only [true_and, and_true]; exact (show 3 ≤ sizeLine by decide))
  have c1 := evPT_cmp (T := T) (op := .eq) (evP_fz (env := env0) (i := 1) (d := dR r) rfl) (evP_fz (env := env0) (i := 2) (d := dR s) rfl) rfl rfl rfl
  have c2 := evPT_cmp (T := T) (op := .eq) (evP_fz (env := env0) (i := 1) (d := dR r) rfl) en rfl rfl rfl
  refine x_seq (x_ite F (evPT_bor (evPOr_c c1 (evPOr_1 c2))) ⟨⟨⟨trivial, trivial, rfl, rfl⟩, trivial⟩, fun _ => ⟨⟨trivial, trivial, rfl, rfl⟩, trivial⟩⟩ (fun hb => x_one (x_rai hx ?_)) (fun hb => x_done ?_))
  · have hb' : (eqD (dR r) (dR s) || eqD (dR r) (dR (ng s))) = true := hb
    rw [eqD_R, eqD_R] at hb'
    show rMt (x, dR r, dR s) _
    rw [mt_at, if_neg]
    rintro ⟨_, _, h1, h2⟩
    simp [h1] at hb'
    exact h2 (by rw [hb'])
  have hb' : (eqD (dR r) (dR s) || eqD (dR r) (dR (ng s))) = false := hb
  rw [eqD_R, eqD_R, Bool.or_eq_false_iff, decide_eq_false_iff_not, decide_eq_false_iff_not] at hb'
  have hok : okMt x.1 r s := ⟨hr, hq, hb'.1, hb'.2⟩
  clear hb hb' en c1 c2
  have e1 := evP_meth (T := T) (m := "product") (env := env0) (o := .var 0) (l := .cons (.var 1) (.cons (.var 2) .nil)) hp' (evP_fz (d := fD x) rfl) rfl (evPM_cons (evP_fz (d := dR r) rfl) rfl (evPM_cons (evP_fz (d := dR s) rfl) rfl evPM_nil)) rfl
  refine x_seq (x_asg F e1 ⟨trivial, ⟨trivial, trivial, trivial⟩, sm.up (by omega), sr.up (by omega), ss.up (by omega)⟩ ?_)
  show evSs G _ [.fz (fD x), .fz (dR r), .fz (dR s), .fz (.int (pr x.1 r s)), .no] _
  have sb := sm_pr (n := 1000) (by omega) sm sr ss
  have sn1 := sm_pr (n := 1000) (by omega) sm sr sr
  have sn2 := sm_pr (n := 1000) (by omega) sm ss ss
  have h4 : Sm 4 4 := sm_nat (by decide)
  let env1 : En := [.fz (fD x), .fz (dR r), .fz (dR s), .fz (.int (pr x.1 r s)), .no]
  have n1 := evP_meth (T := T) (m := "norm") (env := env1) (o := .var 0) (l := .cons (.var 1) .nil) hn' (evP_fz (d := fD x) rfl) rfl (evPM_cons (evP_fz (d := dR r) rfl) rfl evPM_nil) rfl
  have n2 := evP_meth (T := T) (m := "norm") (env := env1) (o := .var 0) (l := .cons (.var 2) .nil) hn' (evP_fz (d := fD x) rfl) rfl (evPM_cons (evP_fz (d := dR s) rfl) rfl evPM_nil) rfl
  have en : evP T (.bin .mul (.bin .mul (.cst (.int 4)) (.var 3)) (.var 3)) env1 = some (.d (.int (4 * pr x.1 r s * pr x.1 r s)), True) := pv_true rfl (by simp only [true_and, and_true]; exact ⟨Sm.cm (a := 4) h4 sb (by omega), Sm.cm (h4.mul sb) sb (by omega)⟩)
  have ed := pv_true (evP_bin (op := .mul) n1 n2 rfl rfl rfl) ⟨⟨trivial, ⟨trivial, trivial⟩, sm.up (by omega), sr.up (by omega)⟩, ⟨trivial, ⟨trivial, trivial⟩, sm.up (by omega), ss.up (by omega)⟩, Sm.cm sn1 sn2 (by omega)⟩
  have e4 := evP_bin (op := .fdiv) en ed rfl rfl rfl
  have snn : Sm 7000 (4 * pr x.1 r s * pr x.1 r s) := ((h4.mul sb).mul sb).up (by omega)
  refine x_seq (x_asg F e4 ⟨trivial, trivial, Int.mul_pos hr.1.1 hq.1.1, Nat.lt_trans (PySem.Flt.log2_lt_of (by decide) (sn1.mul sn2)) (by decide)⟩ ?_)
  show evSs G _ [.fz (fD x), .fz (dR r), .fz (dR s), .fz (.int (pr x.1 r s)), .fz (.int (numN x.1 r s))] _
  have hfin : ∀ d, d = mtV (numN x.1 r s) → rMt (x, dR r, dR s) (.inl d) := fun d h => by
    rw [mt_at, if_pos hok, h]
  have nn := num_nn hs hr hq
  obtain ⟨k, ek⟩ := Int.eq_ofNat_of_zero_le nn
  rw [ek] at hfin ⊢
  let env2 : En := [.fz (fD x), .fz (dR r), .fz (dR s), .fz (.int (pr x.1 r s)), .fz (.int k)]
  have ga : evP T (.glob "ANGLES") env2 = some (.d (.tup angD), True) := evP_glob ha
  have el := evP_bi1 (T := T) (f := .len) ga (x := .tup angD) rfl rfl
  have ec := evPT_cmp (T := T) (op := .lt) (evP_fz (env := env2) (i := 4) (d := .int k) rfl) el rfl rfl rfl
  by_cases hk : k < 5
  · have ec' : evPT T (.cmp .lt (.var 4) (.bi .len (.cons (.glob "ANGLES") .nil))) env2 = some (true, True) := by
      rw [pv_true ec ⟨⟨trivial, ⟨⟨trivial, trivial⟩, trivial⟩, trivial⟩, trivial⟩]
      congr 2
      exact decide_eq_true (show (k : Int) < ((5 : Nat) : Int) by omega)
    obtain ⟨d, hd⟩ : ∃ d, angD[k]? = some d := ⟨angD[k]'(by show k < 5; exact hk), List.getElem?_eq_getElem _⟩
    have ei := evP_ix ga (evP_fz (env := env2) (i := 4) (d := .int k) rfl) rfl rfl (d := d) (show ixF (.tup angD) (.int (Int.ofNat k)) = some d from hd)
    have hd0 : d = mtV (k : Int) := by
      unfold mtV
      rw [Int.toNat_natCast, hd]; rfl
    exact x_one (x_ret F (evP_ifeT ec' ei) ⟨trivial, trivial, trivial⟩ rfl (hfin _ hd0))
  · have ec' : evPT T (.cmp .lt (.var 4) (.bi .len (.cons (.glob "ANGLES") .nil))) env2 = some (false, True) := by
      rw [pv_true ec ⟨⟨trivial, ⟨⟨trivial, trivial⟩, trivial⟩, trivial⟩, trivial⟩]
      congr 2
      exact decide_eq_false (show ¬ (k : Int) < ((5 : Nat) : Int) by omega)
    have hd0 : D.non = mtV (k : Int) := by
      unfold mtV
      rw [Int.toNat_natCast, List.getElem?_eq_none (by show 5 ≤ k; omega)]; rfl
    exact x_one (x_ret F (evP_ifeF ec' (p := (.d .non, True)) rfl) ⟨trivial, trivial⟩ rfl (hfin _ hd0))
/-! ### picks by draws -/
theorem evP_draw {n : Nat} {g : Nat → Int} {env : En} {i j c k : Nat} (h1 : env[i]? = some (.fz (.lst (dsF n g)))) (h2 : env[j]? = some (.fz (.int (k : Int)))) (h : c + k < n) : evP T (.ix (.var i) (.bin .add (.cst (.int (c : Int))) (.var j))) env = some (.d (.int (g (c + k))), True) :=
  pv_true (evP_ix (evP_fz h1) (evP_bin (op := .add) (a := .cst (.int (c : Int))) (va := .d (.int (c : Int))) (ca := True) rfl (evP_fz h2) rfl rfl rfl) rfl rfl (show (dsF n g)[c + k]? = some _ from dsF_at h)) ⟨trivial, ⟨trivial, trivial, trivial⟩⟩
theorem evP_pick {l : List R3} {env : En} {i : Nat} {e : E} {x : Int} (h1 : env[i]? = some (.fz (.lst (l.map dR)))) (h2 : evP T e env = some (.d (.int x), True)) (hl : l ≠ []) : ∃ v ∈ l, evP T (.ix (.var i) (.bin .mod (.bi .int (.cons e .nil)) (.bi .len (.cons (.var i) .nil)))) env = some (.d (dR v), True) := by
  have hpos : 0 < ((l.map dR).length : Int) := by
    rw [List.length_map]
    cases l with
    | nil => exact absurd rfl hl
    | cons a l => exact Int.natCast_pos.mpr (Nat.succ_pos _)
  obtain ⟨d, hd, e0⟩ := ix_menu (ds := l.map dR) (Int.emod_nonneg x (Int.ne_of_gt hpos)) (Int.emod_lt_of_pos x hpos)
  rw [List.mem_map] at hd
  obtain ⟨v, hv, rfl⟩ := hd
  refine ⟨v, hv, pv_true (evP_ix (evP_fz h1) (evP_bin (op := .mod) (evP_bi1 (f := .int) h2 rfl rfl) (evP_bi1 (f := .len) (evP_fz h1) rfl rfl) rfl rfl rfl) rfl rfl e0) ⟨trivial, ⟨⟨trivial, trivial⟩, trivial⟩, ⟨⟨trivial, trivial⟩, trivial⟩, hpos⟩⟩
theorem x_asgQ (F : FtOk G T) {env : En} {P : Po} {i : Nat} {e : E} {a : Int} {c : Prop} (hq : G.isq = true) (h : evP T e env = some (.d (.int a), c)) (hc : c) (h0 : 0 ≤ a) (hl : a.toNat.log2 < 9000) (q : P.nx (env.set i (.fz (.int ((Float64.isqrt a.toNat : Nat) : Int))))) : evS G (.asg i (.bi .isqrt (.cons e .nil))) env P :=
  ⟨fun _ => hq, (psLs F (.cons e .nil)).L env _ (evPL_cons h evPL_nil) ⟨hc, trivial⟩ _ _ ⟨h0, hl, q⟩⟩
end CM

set_option Elab.async false
set_option linter.all false
set_option maxRecDepth 100000
set_option maxHeartbeats 4000000
namespace K51
open PySem PySem.Spec PyProof.Rows L2 PF CM
/-! ### powers -/
def pw (M : M3) : Nat → M3
  | 0 => one3
  | n + 1 => mm M (pw M n)
theorem pw_add (M : M3) : ∀ a b : Nat, pw M (a + b) = mm (pw M a) (pw M b)
  | 0, b => by rw [Nat.zero_add]; exact (one_mm _).symm
  | a + 1, b => by
    rw [show a + 1 + b = (a + b) + 1 by omega]
    show mm M (pw M (a + b)) = mm (mm M (pw M a)) (pw M b)
    rw [pw_add M a b, mm_assoc]
theorem pw_mul (M : M3) (a : Nat) : ∀ b : Nat, pw M (a * b) = pw (pw M a) b
  | 0 => rfl
  | b + 1 => by
    rw [show a * (b + 1) = a + a * b by rw [Nat.mul_add]; omega, pw_add, pw_mul M a b]
    rfl
theorem pw_oneM : ∀ n : Nat, pw one3 n = one3
  | 0 => rfl
  | n + 1 => by
    show mm one3 (pw one3 n) = one3
    rw [pw_oneM n, one_mm]
theorem pw_mod {M : M3} {a b c : Nat} (h : pw M a = one3) : pw M (a * b + c) = pw M c := by
  rw [pw_add, pw_mul, h, pw_oneM, one_mm]
/-! ### 1 + q N -/
def oq (q : Int) (N : M3) : M3 := ((1 + q * N.1.1, q * N.1.2.1, q * N.1.2.2), (q * N.2.1.1, 1 + q * N.2.1.2.1, q * N.2.1.2.2), (q * N.2.2.1, q * N.2.2.2.1, 1 + q * N.2.2.2.2))
def cmb (q : Int) (N K : M3) : M3 := ((N.1.1 + K.1.1 + q * (mm N K).1.1, N.1.2.1 + K.1.2.1 + q * (mm N K).1.2.1, N.1.2.2 + K.1.2.2 + q * (mm N K).1.2.2),
  (N.2.1.1 + K.2.1.1 + q * (mm N K).2.1.1, N.2.1.2.1 + K.2.1.2.1 + q * (mm N K).2.1.2.1, N.2.1.2.2 + K.2.1.2.2 + q * (mm N K).2.1.2.2),
  (N.2.2.1 + K.2.2.1 + q * (mm N K).2.2.1, N.2.2.2.1 + K.2.2.2.1 + q * (mm N K).2.2.2.1, N.2.2.2.2 + K.2.2.2.2 + q * (mm N K).2.2.2.2))
def zer3 : M3 := ((0, 0, 0), (0, 0, 0), (0, 0, 0))
theorem oq_mm (q : Int) (N K : M3) : mm (oq q N) (oq q K) = oq q (cmb q N K) := by
  obtain ⟨⟨a1, a2, a3⟩, ⟨a4, a5, a6⟩, a7, a8, a9⟩ := N
  obtain ⟨⟨b1, b2, b3⟩, ⟨b4, b5, b6⟩, b7, b8, b9⟩ := K
  simp only [oq, cmb, mm, rm, tp, dot, Prod.mk.injEq]
  and_intros <;> grind
def Sq (q : Int) (N : M3) : Nat → M3
  | 0 => zer3
  | n + 1 => cmb q N (Sq q N n)
theorem oq_zer (q : Int) : oq q zer3 = one3 := by
  simp only [oq, zer3, one3, Prod.mk.injEq]
  and_intros <;> omega
theorem pw_oq (q : Int) (N : M3) : ∀ n, pw (oq q N) n = oq q (Sq q N n)
  | 0 => (oq_zer q).symm
  | n + 1 => by
    show mm (oq q N) (pw (oq q N) n) = _
    rw [pw_oq q N n, oq_mm]; rfl
/-- entries -/
def All (P : Int → Prop) (N : M3) : Prop := (P N.1.1 ∧ P N.1.2.1 ∧ P N.1.2.2) ∧ (P N.2.1.1 ∧ P N.2.1.2.1 ∧ P N.2.1.2.2) ∧ P N.2.2.1 ∧ P N.2.2.2.1 ∧ P N.2.2.2.2
def All2 (P : Int → Int → Prop) (N K : M3) : Prop := (P N.1.1 K.1.1 ∧ P N.1.2.1 K.1.2.1 ∧ P N.1.2.2 K.1.2.2) ∧ (P N.2.1.1 K.2.1.1 ∧ P N.2.1.2.1 K.2.1.2.1 ∧ P N.2.1.2.2 K.2.1.2.2) ∧ P N.2.2.1 K.2.2.1 ∧ P N.2.2.2.1 K.2.2.2.1 ∧ P N.2.2.2.2 K.2.2.2.2
theorem All2.imp {P Q : Int → Int → Prop} {N K : M3} (h : ∀ x y, P x y → Q x y) (a : All2 P N K) : All2 Q N K :=
  ⟨⟨h _ _ a.1.1, h _ _ a.1.2.1, h _ _ a.1.2.2⟩, ⟨h _ _ a.2.1.1, h _ _ a.2.1.2.1, h _ _ a.2.1.2.2⟩, h _ _ a.2.2.1, h _ _ a.2.2.2.1, h _ _ a.2.2.2.2⟩
theorem All2.and {P Q : Int → Int → Prop} {N K : M3} (a : All2 P N K) (b : All2 Q N K) : All2 (fun x y => P x y ∧ Q x y) N K :=
  ⟨⟨⟨a.1.1, b.1.1⟩, ⟨a.1.2.1, b.1.2.1⟩, a.1.2.2, b.1.2.2⟩, ⟨⟨a.2.1.1, b.2.1.1⟩, ⟨a.2.1.2.1, b.2.1.2.1⟩, a.2.1.2.2, b.2.1.2.2⟩, ⟨a.2.2.1, b.2.2.1⟩, ⟨a.2.2.2.1, b.2.2.2.1⟩, a.2.2.2.2, b.2.2.2.2⟩
theorem All2.left {P : Int → Prop} {N K : M3} (a : All2 (fun x _ => P x) N K) : All P N := a
theorem sq_mod (q : Int) (N : M3) : ∀ n : Nat, All2 (fun x s => ∃ k, s = n * x + q * k) N (Sq q N n)
  | 0 => by
    have : ∀ x : Int, ∃ k, (0 : Int) = ((0 : Nat) : Int) * x + q * k := fun x => ⟨0, by simp⟩
    exact ⟨⟨this _, this _, this _⟩, ⟨this _, this _, this _⟩, this _, this _, this _⟩
  | n + 1 => by
    have ih := sq_mod q N n
    have go : ∀ {x s z : Int}, (∃ k, s = (n : Int) * x + q * k) → ∃ k, x + s + q * z = ((n + 1 : Nat) : Int) * x + q * k := fun {x s z} ⟨k, e⟩ => ⟨k + z, by subst e; push_cast; grind⟩
    exact ⟨⟨go ih.1.1, go ih.1.2.1, go ih.1.2.2⟩, ⟨go ih.2.1.1, go ih.2.1.2.1, go ih.2.1.2.2⟩, go ih.2.2.1, go ih.2.2.2.1, go ih.2.2.2.2⟩
theorem sq_zero {q : Int} {N : M3} {n : Nat} (hq : q ≠ 0) (h : pw (oq q N) n = one3) : All (fun x => x = 0) (Sq q N n) := by
  rw [pw_oq] at h
  generalize Sq q N n = S at h
  obtain ⟨⟨a1, a2, a3⟩, ⟨a4, a5, a6⟩, a7, a8, a9⟩ := S
  simp only [oq, one3, Prod.mk.injEq] at h
  have z : ∀ x : Int, q * x = 0 → x = 0 := fun x e => (Int.mul_eq_zero.mp e).resolve_left hq
  obtain ⟨⟨h1, h2, h3⟩, ⟨h4, h5, h6⟩, h7, h8, h9⟩ := h
  exact ⟨⟨z a1 (by omega), z _ h2, z _ h3⟩, ⟨z _ h4, z a5 (by omega), z _ h6⟩, z _ h7, z _ h8, z a9 (by omega)⟩
theorem oq_div {q p : Int} {N : M3} (h : All (fun x => p ∣ x) N) : ∃ N', oq q N = oq (p * q) N' := by
  obtain ⟨⟨a1, a2, a3⟩, ⟨a4, a5, a6⟩, a7, a8, a9⟩ := N
  obtain ⟨⟨⟨b1, h1⟩, ⟨b2, h2⟩, ⟨b3, h3⟩⟩, ⟨⟨b4, h4⟩, ⟨b5, h5⟩, ⟨b6, h6⟩⟩, ⟨b7, h7⟩, ⟨b8, h8⟩, ⟨b9, h9⟩⟩ := h
  dsimp only at h1 h2 h3 h4 h5 h6 h7 h8 h9
  subst h1 h2 h3 h4 h5 h6 h7 h8 h9
  refine ⟨((b1, b2, b3), (b4, b5, b6), b7, b8, b9), ?_⟩
  simp only [oq, Prod.mk.injEq]
  and_intros <;> grind
/-- a table that is 1 modulo all powers is 1 -/
theorem tors {p q n : Nat} {N : M3} (hp : 2 ≤ p) (hq : 0 < q) (step : ∀ (k : Nat) (N : M3), pw (oq ((p : Int) ^ k * q) N) n = one3 → All (fun x => (p : Int) ∣ x) N) (h : pw (oq q N) n = one3) : oq q N = one3 := by
  have all : ∀ k : Nat, ∃ N', oq q N = oq ((p : Int) ^ k * q) N' := by
    intro k
    induction k with
    | zero => exact ⟨N, by simp⟩
    | succ k ih =>
      obtain ⟨N1, e⟩ := ih
      rw [e] at h
      obtain ⟨N2, e2⟩ := oq_div (q := (p : Int) ^ k * q) (step k N1 h)
      refine ⟨N2, by rw [e, e2]; congr 1; rw [Int.pow_succ]; grind⟩
  have zero : ∀ x : Int, (∀ k : Nat, ∃ y, x = (p : Int) ^ k * q * y) → x = 0 := fun x hx => by
    obtain ⟨y, hy⟩ := hx x.natAbs
    by_cases y0 : y = 0
    · rw [hy, y0, Int.mul_zero]
    · exfalso
      have e : x.natAbs = p ^ x.natAbs * q * y.natAbs := by
        have := congrArg Int.natAbs hy
        rw [Int.natAbs_mul, Int.natAbs_mul, Int.natAbs_pow, Int.natAbs_natCast, Int.natAbs_natCast] at this
        exact this
      have l1 : x.natAbs < p ^ x.natAbs := Nat.lt_pow_self (by omega)
      have y1 : 0 < y.natAbs := Int.natAbs_pos.mpr y0
      have l2 : p ^ x.natAbs ≤ p ^ x.natAbs * q * y.natAbs := by
        have : p ^ x.natAbs * 1 * 1 ≤ p ^ x.natAbs * q * y.natAbs := Nat.mul_le_mul (Nat.mul_le_mul (Nat.le_refl _) hq) y1
        omega
      omega
  obtain ⟨⟨a1, a2, a3⟩, ⟨a4, a5, a6⟩, a7, a8, a9⟩ := N
  have e : ∀ k : Nat, ∃ N' : M3, oq q ((a1, a2, a3), (a4, a5, a6), a7, a8, a9) = oq ((p : Int) ^ k * q) N' := all
  clear all
  simp only [oq, one3, Prod.mk.injEq] at e ⊢
  have z1 := zero (q * a1) fun k => by obtain ⟨N', ⟨h, _⟩, _⟩ := e k; exact ⟨N'.1.1, by omega⟩
  have z2 := zero (q * a2) fun k => by obtain ⟨N', ⟨_, h, _⟩, _⟩ := e k; exact ⟨_, h⟩
  have z3 := zero (q * a3) fun k => by obtain ⟨N', ⟨_, _, h⟩, _⟩ := e k; exact ⟨_, h⟩
  have z4 := zero (q * a4) fun k => by obtain ⟨N', _, ⟨h, _⟩, _⟩ := e k; exact ⟨_, h⟩
  have z5 := zero (q * a5) fun k => by obtain ⟨N', _, ⟨_, h, _⟩, _⟩ := e k; exact ⟨N'.2.1.2.1, by omega⟩
  have z6 := zero (q * a6) fun k => by obtain ⟨N', _, ⟨_, _, h⟩, _⟩ := e k; exact ⟨_, h⟩
  have z7 := zero (q * a7) fun k => by obtain ⟨N', _, _, h, _⟩ := e k; exact ⟨_, h⟩
  have z8 := zero (q * a8) fun k => by obtain ⟨N', _, _, _, h, _⟩ := e k; exact ⟨_, h⟩
  have z9 := zero (q * a9) fun k => by obtain ⟨N', _, _, _, _, h⟩ := e k; exact ⟨N'.2.2.2.2, by omega⟩
  and_intros <;> omega
theorem qpos {p q k : Nat} (hp : 2 ≤ p) (hq : 0 < q) : ((p : Int) ^ k * q) ≠ 0 := by
  have : 0 < p ^ k * q := Nat.mul_pos (Nat.pow_pos (by omega)) hq
  have e : ((p ^ k * q : Nat) : Int) = (p : Int) ^ k * q := by push_cast; rfl
  rw [← e]; omega
theorem tors3 {n : Nat} {N : M3} (hn : n % 3 ≠ 0) (h : pw (oq 3 N) n = one3) : oq 3 N = one3 :=
  tors (p := 3) (q := 3) (by omega) (by omega) (fun k N h => by
    have e := (sq_mod _ N n).and (show All2 (fun _ s => s = 0) N _ from sq_zero (qpos (by omega) (by omega)) h)
    refine All2.left (K := Sq ((3 : Nat) ^ k * (3 : Nat)) N n) (e.imp fun x s ⟨⟨j, e1⟩, e2⟩ => ?_)
    rw [e2] at e1
    have e3 : (n : Int) * x = 3 * (-((3 : Int) ^ k * j)) := by
      have : ((3 : Nat) : Int) ^ k * ((3 : Nat) : Int) * j = 3 * ((3 : Int) ^ k * j) := by
        show (3 : Int) ^ k * 3 * j = _
        grind
      omega
    have e4 : ((n : Int) * x) % 3 = 0 := by omega
    rw [Int.mul_emod] at e4
    have n3 : (n : Int) % 3 = 1 ∨ (n : Int) % 3 = 2 := by omega
    have x3 : x % 3 = 0 ∨ x % 3 = 1 ∨ x % 3 = 2 := by omega
    show (3 : Int) ∣ x
    rcases n3 with n3 | n3 <;> rcases x3 with x3 | x3 | x3 <;> rw [n3, x3] at e4 <;> first | omega | simp at e4) h
theorem sq3 (q : Int) (N : M3) : All2 (fun x s => ∃ y z, s = 3 * x + 3 * q * y + q * q * z) N (Sq q N 3) := by
  obtain ⟨⟨a1, a2, a3⟩, ⟨a4, a5, a6⟩, a7, a8, a9⟩ := N
  have e : Sq q ((a1, a2, a3), (a4, a5, a6), a7, a8, a9) 3 = cmb q ((a1, a2, a3), (a4, a5, a6), a7, a8, a9) (cmb q ((a1, a2, a3), (a4, a5, a6), a7, a8, a9) ((a1, a2, a3), (a4, a5, a6), a7, a8, a9)) := by
    show cmb _ _ (cmb _ _ (cmb _ _ zer3)) = _
    congr 2
    simp only [cmb, zer3, mm, rm, tp, dot, Prod.mk.injEq]
    and_intros <;> omega
  rw [e]
  generalize hN : ((a1, a2, a3), (a4, a5, a6), a7, a8, a9) = N
  let N2 := mm N N
  let N3 := mm N N2
  have hs : ∃ S, cmb q N (cmb q N N) = S ∧ True := ⟨_, rfl, trivial⟩
  subst hN
  refine ⟨⟨⟨N2.1.1, N3.1.1, ?_⟩, ⟨N2.1.2.1, N3.1.2.1, ?_⟩, ⟨N2.1.2.2, N3.1.2.2, ?_⟩⟩, ⟨⟨N2.2.1.1, N3.2.1.1, ?_⟩, ⟨N2.2.1.2.1, N3.2.1.2.1, ?_⟩, ⟨N2.2.1.2.2, N3.2.1.2.2, ?_⟩⟩, ⟨N2.2.2.1, N3.2.2.1, ?_⟩, ⟨N2.2.2.2.1, N3.2.2.2.1, ?_⟩, N2.2.2.2.2, N3.2.2.2.2, ?_⟩ <;> simp only [N2, N3, cmb, mm, rm, tp, dot] <;> grind
theorem tors33 {N : M3} (h : pw (oq 3 N) 3 = one3) : oq 3 N = one3 :=
  tors (p := 3) (q := 3) (by omega) (by omega) (fun k N h => by
    have e := (sq3 _ N).and (show All2 (fun _ s => s = 0) N _ from sq_zero (qpos (by omega) (by omega)) h)
    refine All2.left (K := Sq ((3 : Nat) ^ k * (3 : Nat)) N 3) (e.imp fun x s ⟨⟨y, z, e1⟩, e2⟩ => ?_)
    rw [e2] at e1
    refine ⟨-((3 : Int) ^ k * y + (3 : Int) ^ k * (3 : Int) ^ k * z), ?_⟩
    have c1 : (((3 : Nat) : Int) ^ k * ((3 : Nat) : Int)) = (3 : Int) ^ k * 3 := rfl
    rw [c1] at e1
    show x = (3 : Int) * _
    generalize (3 : Int) ^ k = w at e1
    grind) h
theorem tors2 {n : Nat} {N : M3} (hn : n % 2 = 1) (h : pw (oq 2 N) n = one3) : oq 2 N = one3 :=
  tors (p := 2) (q := 2) (by omega) (by omega) (fun k N h => by
    have e := (sq_mod _ N n).and (show All2 (fun _ s => s = 0) N _ from sq_zero (qpos (by omega) (by omega)) h)
    refine All2.left (K := Sq ((2 : Nat) ^ k * (2 : Nat)) N n) (e.imp fun x s ⟨⟨j, e1⟩, e2⟩ => ?_)
    rw [e2] at e1
    have e3 : (n : Int) * x = 2 * (-((2 : Int) ^ k * j)) := by
      have : ((2 : Nat) : Int) ^ k * ((2 : Nat) : Int) * j = 2 * ((2 : Int) ^ k * j) := by
        show (2 : Int) ^ k * 2 * j = _
        grind
      omega
    have e4 : ((n : Int) * x) % 2 = 0 := by omega
    rw [Int.mul_emod] at e4
    have n3 : (n : Int) % 2 = 1 := by omega
    have x3 : x % 2 = 0 ∨ x % 2 = 1 := by omega
    show (2 : Int) ∣ x
    rcases x3 with x3 | x3 <;> rw [n3, x3] at e4 <;> first | omega | simp at e4) h
theorem sq2 (q : Int) (N : M3) : All2 (fun x s => ∃ y, s = 2 * x + q * y) N (Sq q N 2) := sq_mod q N 2
theorem tors22 {N : M3} (h : pw (oq 4 N) 2 = one3) : oq 4 N = one3 :=
  tors (p := 2) (q := 4) (by omega) (by omega) (fun k N h => by
    have e := (sq2 _ N).and (show All2 (fun _ s => s = 0) N _ from sq_zero (qpos (by omega) (by omega)) h)
    refine All2.left (K := Sq ((2 : Nat) ^ k * (4 : Nat)) N 2) (e.imp fun x s ⟨⟨y, e1⟩, e2⟩ => ?_)
    rw [e2] at e1
    refine ⟨-((2 : Int) ^ k * y), ?_⟩
    have c1 : (((2 : Nat) : Int) ^ k * ((4 : Nat) : Int)) = (2 : Int) ^ k * 4 := rfl
    rw [c1] at e1
    show x = (2 : Int) * _
    generalize (2 : Int) ^ k = w at e1
    grind) h
end K51

set_option Elab.async false
set_option linter.all false
set_option maxRecDepth 100000
set_option maxHeartbeats 4000000
namespace K51
open PySem PySem.Spec PyProof.Rows L2 PF CM
theorem mmO (a : M3) : mm a one3 = a := by
  obtain ⟨⟨a1, a2, a3⟩, ⟨a4, a5, a6⟩, a7, a8, a9⟩ := a
  simp only [mm, rm, tp, dot, one3, Prod.mk.injEq]
  and_intros <;> omega
def tr3 (M : M3) : Int := M.1.1 + M.2.1.2.1 + M.2.2.2.2
def s2 (M : M3) : Int := M.1.1 * M.2.1.2.1 - M.1.2.1 * M.2.1.1 + (M.1.1 * M.2.2.2.2 - M.1.2.2 * M.2.2.1) + (M.2.1.2.1 * M.2.2.2.2 - M.2.1.2.2 * M.2.2.2.1)
def lc3 (a b c : Int) (X Y W : M3) : M3 := ((a * X.1.1 + b * Y.1.1 + c * W.1.1, a * X.1.2.1 + b * Y.1.2.1 + c * W.1.2.1, a * X.1.2.2 + b * Y.1.2.2 + c * W.1.2.2),
  (a * X.2.1.1 + b * Y.2.1.1 + c * W.2.1.1, a * X.2.1.2.1 + b * Y.2.1.2.1 + c * W.2.1.2.1, a * X.2.1.2.2 + b * Y.2.1.2.2 + c * W.2.1.2.2),
  (a * X.2.2.1 + b * Y.2.2.1 + c * W.2.2.1, a * X.2.2.2.1 + b * Y.2.2.2.1 + c * W.2.2.2.1, a * X.2.2.2.2 + b * Y.2.2.2.2 + c * W.2.2.2.2))
theorem mm_lc3 (M X Y W : M3) (a b c : Int) : mm M (lc3 a b c X Y W) = lc3 a b c (mm M X) (mm M Y) (mm M W) := by
  obtain ⟨⟨m1, m2, m3⟩, ⟨m4, m5, m6⟩, m7, m8, m9⟩ := M
  obtain ⟨⟨x1, x2, x3⟩, ⟨x4, x5, x6⟩, x7, x8, x9⟩ := X
  obtain ⟨⟨y1, y2, y3⟩, ⟨y4, y5, y6⟩, y7, y8, y9⟩ := Y
  obtain ⟨⟨w1, w2, w3⟩, ⟨w4, w5, w6⟩, w7, w8, w9⟩ := W
  simp only [lc3, mm, rm, tp, dot, Prod.mk.injEq]
  and_intros <;> grind
theorem lc3_lc3 (a b c t u d : Int) (X Y W : M3) : lc3 a b c (lc3 t u d X Y W) X Y = lc3 (t * a + b) (u * a + c) (d * a) X Y W := by
  obtain ⟨⟨x1, x2, x3⟩, ⟨x4, x5, x6⟩, x7, x8, x9⟩ := X
  obtain ⟨⟨y1, y2, y3⟩, ⟨y4, y5, y6⟩, y7, y8, y9⟩ := Y
  obtain ⟨⟨w1, w2, w3⟩, ⟨w4, w5, w6⟩, w7, w8, w9⟩ := W
  simp only [lc3, Prod.mk.injEq]
  and_intros <;> grind
theorem ch (M : M3) : mm M (mm M M) = lc3 (tr3 M) (-(s2 M)) (det3 M) (mm M M) M one3 := by
  obtain ⟨⟨m1, m2, m3⟩, ⟨m4, m5, m6⟩, m7, m8, m9⟩ := M
  simp only [lc3, mm, rm, tp, dot, one3, tr3, s2, det3, cr, Prod.mk.injEq]
  and_intros <;> grind
def cf (t s d : Int) : Nat → Int × Int × Int
  | 0 => (0, 0, 1)
  | n + 1 => let r := cf t s d n; (t * r.1 + r.2.1, -s * r.1 + r.2.2, d * r.1)
theorem pw_cf (M : M3) : ∀ n, pw M n = lc3 (cf (tr3 M) (s2 M) (det3 M) n).1 (cf (tr3 M) (s2 M) (det3 M) n).2.1 (cf (tr3 M) (s2 M) (det3 M) n).2.2 (mm M M) M one3
  | 0 => by
    obtain ⟨⟨m1, m2, m3⟩, ⟨m4, m5, m6⟩, m7, m8, m9⟩ := M
    simp [pw, cf, lc3, one3]
  | n + 1 => by
    show mm M (pw M n) = _
    rw [pw_cf M n, mm_lc3, ch, mmO, lc3_lc3]
    rfl
def cfm (t s d : Int) : Nat → Int × Int × Int
  | 0 => (0, 0, 1)
  | n + 1 => let r := cfm t s d n; ((t * r.1 + r.2.1) % 3, (-s * r.1 + r.2.2) % 3, (d * r.1) % 3)
theorem md3 {a b : Int} : a % 3 = b % 3 ↔ ∃ k, a = b + 3 * k := by
  constructor
  · intro h; exact ⟨a / 3 - b / 3, by omega⟩
  · rintro ⟨k, rfl⟩; omega
theorem cf_cfm (t s d : Int) : ∀ n, (cf t s d n).1 % 3 = (cfm (t % 3) (s % 3) (d % 3) n).1 % 3 ∧ (cf t s d n).2.1 % 3 = (cfm (t % 3) (s % 3) (d % 3) n).2.1 % 3 ∧ (cf t s d n).2.2 % 3 = (cfm (t % 3) (s % 3) (d % 3) n).2.2 % 3
  | 0 => ⟨rfl, rfl, rfl⟩
  | n + 1 => by
    obtain ⟨h1, h2, h3⟩ := cf_cfm t s d n
    obtain ⟨k1, e1⟩ := md3.mp h1
    obtain ⟨k2, e2⟩ := md3.mp h2
    obtain ⟨k3, e3⟩ := md3.mp h3
    obtain ⟨kt, et⟩ : ∃ k, t = t % 3 + 3 * k := ⟨t / 3, by omega⟩
    obtain ⟨ks, es⟩ : ∃ k, s = s % 3 + 3 * k := ⟨s / 3, by omega⟩
    obtain ⟨kd, ed⟩ : ∃ k, d = d % 3 + 3 * k := ⟨d / 3, by omega⟩
    simp only [cf, cfm, Int.emod_emod]
    generalize cf t s d n = r at *
    generalize cfm (t % 3) (s % 3) (d % 3) n = u at *
    generalize t % 3 = t0 at *
    generalize s % 3 = s0 at *
    generalize d % 3 = d0 at *
    subst et es ed
    rw [e1, e2, e3]
    refine ⟨md3.mpr ⟨t0 * k1 + kt * u.1 + 3 * kt * k1 + k2, by grind⟩, md3.mpr ⟨-(s0 * k1) - ks * u.1 - 3 * ks * k1 + k3, by grind⟩, md3.mpr ⟨d0 * k1 + kd * u.1 + 3 * kd * k1, by grind⟩⟩
theorem cfm_312 : ∀ t ∈ [(0 : Int), 1, 2], ∀ s ∈ [(0 : Int), 1, 2], ∀ d ∈ [(1 : Int), 2], cfm t s d 312 = (0, 0, 1) := by decide +kernel
theorem pw_312 {M : M3} (hd : det3 M = 1 ∨ det3 M = -1) : ∃ N, pw M 312 = oq 3 N := by
  have m3 : ∀ x : Int, x % 3 ∈ [(0 : Int), 1, 2] := fun x => by
    have : x % 3 = 0 ∨ x % 3 = 1 ∨ x % 3 = 2 := by omega
    rcases this with h | h | h <;> rw [h] <;> decide
  have md : det3 M % 3 ∈ [(1 : Int), 2] := by rcases hd with h | h <;> rw [h] <;> decide
  have e := cfm_312 _ (m3 (tr3 M)) _ (m3 (s2 M)) _ md
  obtain ⟨h1, h2, h3⟩ := cf_cfm (tr3 M) (s2 M) (det3 M) 312
  rw [e] at h1 h2 h3
  rw [pw_cf]
  generalize cf (tr3 M) (s2 M) (det3 M) 312 = r at *
  obtain ⟨a, b, c⟩ := r
  obtain ⟨k1, e1⟩ := md3.mp h1
  obtain ⟨k2, e2⟩ := md3.mp h2
  obtain ⟨k3, e3⟩ := md3.mp h3
  dsimp only at e1 e2 e3
  subst e1 e2 e3
  refine ⟨lc3 k1 k2 k3 (mm M M) M one3, ?_⟩
  generalize mm M M = X
  obtain ⟨⟨m1, m2, m3⟩, ⟨m4, m5, m6⟩, m7, m8, m9⟩ := M
  obtain ⟨⟨x1, x2, x3⟩, ⟨x4, x5, x6⟩, x7, x8, x9⟩ := X
  simp only [lc3, oq, one3, Prod.mk.injEq]
  and_intros <;> grind
/-! ### modulo 2 -/
def rd2 (M : M3) : M3 := ((M.1.1 % 2, M.1.2.1 % 2, M.1.2.2 % 2), (M.2.1.1 % 2, M.2.1.2.1 % 2, M.2.1.2.2 % 2), M.2.2.1 % 2, M.2.2.2.1 % 2, M.2.2.2.2 % 2)
def pw2 (M : M3) : Nat → M3
  | 0 => one3
  | n + 1 => rd2 (mm M (pw2 M n))
theorem dot2 (v w : R3) : dot v w % 2 = dot (v.1 % 2, v.2.1 % 2, v.2.2 % 2) (w.1 % 2, w.2.1 % 2, w.2.2 % 2) % 2 := by
  obtain ⟨a, b, c⟩ := v
  obtain ⟨x, y, z⟩ := w
  simp only [dot]
  have m : ∀ a b : Int, ∃ k, a * b = (a % 2) * (b % 2) + 2 * k := fun a b => by
    obtain ⟨k, e⟩ : ∃ k, a = a % 2 + 2 * k := ⟨a / 2, by omega⟩
    obtain ⟨l, f⟩ : ∃ k, b = b % 2 + 2 * k := ⟨b / 2, by omega⟩
    generalize a % 2 = a0 at *
    generalize b % 2 = b0 at *
    subst e f
    exact ⟨a0 * l + k * b0 + 2 * k * l, by grind⟩
  obtain ⟨k1, e1⟩ := m a x
  obtain ⟨k2, e2⟩ := m b y
  obtain ⟨k3, e3⟩ := m c z
  rw [e1, e2, e3]
  omega
theorem rd2_mm (A B : M3) : rd2 (mm A B) = rd2 (mm (rd2 A) (rd2 B)) := by
  obtain ⟨⟨a1, a2, a3⟩, ⟨a4, a5, a6⟩, a7, a8, a9⟩ := A
  obtain ⟨⟨b1, b2, b3⟩, ⟨b4, b5, b6⟩, b7, b8, b9⟩ := B
  simp only [rd2, mm, rm, tp, Prod.mk.injEq]
  and_intros <;> exact dot2 _ _
theorem rd2_rd2 (A : M3) : rd2 (rd2 A) = rd2 A := by
  obtain ⟨⟨a1, a2, a3⟩, ⟨a4, a5, a6⟩, a7, a8, a9⟩ := A
  simp only [rd2, Int.emod_emod]
theorem pw2_ok (M : M3) : ∀ n, rd2 (pw M n) = pw2 (rd2 M) n
  | 0 => rfl
  | n + 1 => by
    show rd2 (mm M (pw M n)) = rd2 (mm (rd2 M) (pw2 (rd2 M) n))
    rw [rd2_mm, pw2_ok M n]
def ck2 (B : M3) : Bool := !(pw2 B 12 == one3) || (pw2 B 4 == one3 || pw2 B 3 == one3)
theorem ck2_all : ([(0 : Int), 1].all fun a1 => [(0 : Int), 1].all fun a2 => [(0 : Int), 1].all fun a3 => [(0 : Int), 1].all fun a4 => [(0 : Int), 1].all fun a5 => [(0 : Int), 1].all fun a6 => [(0 : Int), 1].all fun a7 => [(0 : Int), 1].all fun a8 => [(0 : Int), 1].all fun a9 => ck2 ((a1, a2, a3), (a4, a5, a6), a7, a8, a9)) = true := by decide +kernel
theorem ck2_rd (M : M3) : ck2 (rd2 M) = true := by
  have m2 : ∀ x : Int, x % 2 ∈ [(0 : Int), 1] := fun x => by
    have : x % 2 = 0 ∨ x % 2 = 1 := by omega
    rcases this with h | h <;> rw [h] <;> decide
  have h := ck2_all
  simp only [List.all_eq_true] at h
  exact h _ (m2 _) _ (m2 _) _ (m2 _) _ (m2 _) _ (m2 _) _ (m2 _) _ (m2 _) _ (m2 _) _ (m2 _)
theorem oq2_of {X : M3} (h : rd2 X = one3) : ∃ N, X = oq 2 N := by
  obtain ⟨⟨a1, a2, a3⟩, ⟨a4, a5, a6⟩, a7, a8, a9⟩ := X
  simp only [rd2, one3, Prod.mk.injEq] at h
  refine ⟨((a1 / 2, a2 / 2, a3 / 2), (a4 / 2, a5 / 2, a6 / 2), a7 / 2, a8 / 2, a9 / 2), ?_⟩
  simp only [oq, Prod.mk.injEq]
  and_intros <;> omega
theorem ord12 {M : M3} (h : pw M 12 = one3) : pw M 4 = one3 ∨ pw M 6 = one3 := by
  have c := ck2_rd M
  unfold ck2 at c
  rw [← pw2_ok, ← pw2_ok, ← pw2_ok, h] at c
  have e0 : (!(rd2 one3 == one3)) = false := by decide
  rw [e0, Bool.false_or, Bool.or_eq_true, beq_iff_eq, beq_iff_eq] at c
  rcases c with c | c
  · left
    obtain ⟨N, e⟩ := oq2_of c
    rw [e]
    refine tors2 (n := 3) (by decide) ?_
    rw [← e, ← pw_mul]
    exact h
  · right
    obtain ⟨N, e⟩ := oq2_of c
    have e6 : pw M 6 = oq 4 (((N.1.1 + (mm N N).1.1, N.1.2.1 + (mm N N).1.2.1, N.1.2.2 + (mm N N).1.2.2), (N.2.1.1 + (mm N N).2.1.1, N.2.1.2.1 + (mm N N).2.1.2.1, N.2.1.2.2 + (mm N N).2.1.2.2), (N.2.2.1 + (mm N N).2.2.1, N.2.2.2.1 + (mm N N).2.2.2.1, N.2.2.2.2 + (mm N N).2.2.2.2))) := by
      rw [show 6 = 3 + 3 from rfl, pw_add, e, oq_mm]
      generalize hK : mm N N = K
      simp only [oq, cmb, hK, Prod.mk.injEq]
      and_intros <;> omega
    rw [e6]
    refine tors22 ?_
    rw [← e6, ← pw_mul]
    exact h
/-! ### order 8 -/
theorem ord8 {M : M3} (hd : det3 M = 1 ∨ det3 M = -1) (h : pw M 8 = one3) : pw M 4 = one3 := by
  obtain ⟨Z, hZ⟩ : ∃ Z, Z = mm M M := ⟨_, rfl⟩
  have p2 : pw M 2 = Z := by
    show mm M (mm M one3) = _
    rw [mmO, hZ]
  have dZ : det3 Z = 1 := by
    rw [hZ, det_mm]
    rcases hd with e | e <;> rw [e] <;> rfl
  have tZ : tr3 Z = tr3 M * tr3 M - 2 * s2 M := by
    rw [hZ]
    obtain ⟨⟨m1, m2, m3⟩, ⟨m4, m5, m6⟩, m7, m8, m9⟩ := M
    simp only [mm, rm, tp, dot, tr3, s2]
    grind
  have sZ : s2 Z = s2 M * s2 M - 2 * tr3 M * det3 M := by
    rw [hZ]
    obtain ⟨⟨m1, m2, m3⟩, ⟨m4, m5, m6⟩, m7, m8, m9⟩ := M
    simp only [mm, rm, tp, dot, tr3, s2, det3, cr]
    grind
  have q2 : ∀ n, pw M (2 * n) = pw Z n := fun n => by rw [pw_mul, p2]
  have z2 : mm Z Z = pw M 4 := by
    rw [q2 2]
    show _ = mm Z (mm Z one3)
    rw [mmO]
  have z4 : pw Z 4 = one3 := by rw [← q2 4]; exact h
  have c1 := ch Z
  rw [dZ] at c1
  have c2 := congrArg (mm Z) c1
  have c3 := congrArg (mm Z) c2
  have c4 := congrArg (mm Z) c3
  have y3 : mm Z (mm Z Z) = pw Z 3 := by show _ = mm Z (mm Z (mm Z one3)); rw [mmO]
  have y2 : mm Z Z = pw Z 2 := by show _ = mm Z (mm Z one3); rw [mmO]
  have y4 : mm Z (pw Z 3) = one3 := z4
  rw [mm_lc3, mm_lc3, mm_lc3, mmO, y3, y4, mmO, y2] at c4
  rw [mm_lc3, mm_lc3, mmO, y3, y4, mmO, y2] at c3
  rw [mm_lc3, mmO, y3, y4, y2] at c2
  rw [y3, y2] at c1
  have e4 : pw M 4 = pw Z 2 := q2 2
  rw [e4]
  generalize pw Z 2 = X2 at *
  generalize pw Z 3 = X3 at *
  generalize hT : tr3 Z = T at *
  generalize hS : s2 Z = S at *
  have key : ∀ i z x y : Int, y = T * x + -S * z + 1 * i → i = T * y + -S * x + 1 * z → z = T * i + -S * y + 1 * x → x = T * z + -S * i + 1 * y → x = i := fun i z x y f1 f2 f3 f4 => by
    have g1 : (S - 1) * (y - z) + (T - 1) * (x - i) = 0 := by grind
    have g2 : (S - 1) * (x - i) - (T - 1) * (y - z) = 0 := by grind
    have g3 : ((S - 1) * (S - 1) + (T - 1) * (T - 1)) * (x - i) = 0 := by
      have : ((S - 1) * (S - 1) + (T - 1) * (T - 1)) * (x - i) = (S - 1) * ((S - 1) * (x - i) - (T - 1) * (y - z)) + (T - 1) * ((S - 1) * (y - z) + (T - 1) * (x - i)) := by grind
      rw [this, g1, g2]; omega
    rcases Int.mul_eq_zero.mp g3 with g | g
    · exfalso
      have a1 : 0 ≤ (S - 1) * (S - 1) := by
        by_cases hs : 0 ≤ S - 1
        · exact Int.mul_nonneg hs hs
        · exact Int.mul_nonneg_of_nonpos_of_nonpos (by omega) (by omega)
      have a2 : 0 ≤ (T - 1) * (T - 1) := by
        by_cases hs : 0 ≤ T - 1
        · exact Int.mul_nonneg hs hs
        · exact Int.mul_nonneg_of_nonpos_of_nonpos (by omega) (by omega)
      have b1 : S = 1 := by
        have : (S - 1) * (S - 1) = 0 := by omega
        rcases Int.mul_eq_zero.mp this with h | h <;> omega
      have b2 : T = 1 := by
        have : (T - 1) * (T - 1) = 0 := by omega
        rcases Int.mul_eq_zero.mp this with h | h <;> omega
      rw [b2] at tZ
      rw [b1] at sZ
      generalize tr3 M = t at *
      generalize s2 M = s at *
      generalize det3 M = d at *
      -- t is odd, s is even
      obtain ⟨u, hu⟩ : ∃ u, t = 2 * u + 1 ∨ t = 2 * u := ⟨t / 2, by omega⟩
      rcases hu with hu | hu
      · subst hu
        have hs : s = 2 * (u * u + u) := by grind
        rw [hs] at sZ
        have : (2 * (u * u + u) * (2 * (u * u + u)) - 2 * (2 * u + 1) * d) = 2 * (2 * (u * u + u) * (u * u + u) - (2 * u + 1) * d) := by grind
        omega
      · subst hu
        have : (2 * u * (2 * u) - 2 * s : Int) = 2 * (2 * u * u - s) := by grind
        omega
    · omega
  obtain ⟨⟨z1, z2', z3⟩, ⟨z4', z5, z6⟩, z7, z8, z9⟩ := Z
  obtain ⟨⟨x1, x2, x3⟩, ⟨x4, x5, x6⟩, x7, x8, x9⟩ := X2
  obtain ⟨⟨y1, y2', y3'⟩, ⟨y4', y5, y6⟩, y7, y8, y9⟩ := X3
  simp only [lc3, one3, Prod.mk.injEq] at c1 c2 c3 c4 ⊢
  exact ⟨⟨key _ _ _ _ c1.1.1 c2.1.1 c3.1.1 c4.1.1, key _ _ _ _ c1.1.2.1 c2.1.2.1 c3.1.2.1 c4.1.2.1, key _ _ _ _ c1.1.2.2 c2.1.2.2 c3.1.2.2 c4.1.2.2⟩,
    ⟨key _ _ _ _ c1.2.1.1 c2.2.1.1 c3.2.1.1 c4.2.1.1, key _ _ _ _ c1.2.1.2.1 c2.2.1.2.1 c3.2.1.2.1 c4.2.1.2.1, key _ _ _ _ c1.2.1.2.2 c2.2.1.2.2 c3.2.1.2.2 c4.2.1.2.2⟩,
    key _ _ _ _ c1.2.2.1 c2.2.2.1 c3.2.2.1 c4.2.2.1, key _ _ _ _ c1.2.2.2.1 c2.2.2.2.1 c3.2.2.2.1 c4.2.2.2.1, key _ _ _ _ c1.2.2.2.2 c2.2.2.2.2 c3.2.2.2.2 c4.2.2.2.2⟩
/-! ### orders -/
theorem small {M : M3} (hd : det3 M = 1 ∨ det3 M = -1) {k : Nat} (h1 : 7 ≤ k) (h2 : k ≤ 12) (h : pw M k = one3) : pw M 2 = one3 ∨ pw M 4 = one3 ∨ pw M 6 = one3 := by
  obtain ⟨N, hN⟩ := pw_312 hd
  have : k = 7 ∨ k = 8 ∨ k = 9 ∨ k = 10 ∨ k = 11 ∨ k = 12 := by omega
  rcases this with rfl | rfl | rfl | rfl | rfl | rfl
  · have e : pw M 4 = oq 3 N := by rw [← hN]; exact (pw_mod (a := 7) (b := 44) (c := 4) h).symm
    refine .inr (.inl ?_)
    rw [e]
    refine tors3 (n := 7) (by decide) ?_
    rw [← e, ← pw_mul]
    exact pw_mod (a := 7) (b := 4) (c := 0) h
  · exact .inr (.inl (ord8 hd h))
  · have e : pw M 6 = oq 3 N := by rw [← hN]; exact (pw_mod (a := 9) (b := 34) (c := 6) h).symm
    refine .inr (.inr ?_)
    rw [e]
    refine tors33 ?_
    rw [← e, ← pw_mul]
    exact pw_mod (a := 9) (b := 2) (c := 0) h
  · have e : pw M 2 = oq 3 N := by rw [← hN]; exact (pw_mod (a := 10) (b := 31) (c := 2) h).symm
    refine .inl ?_
    rw [e]
    refine tors3 (n := 5) (by decide) ?_
    rw [← e, ← pw_mul]
    exact h
  · have e : pw M 4 = oq 3 N := by rw [← hN]; exact (pw_mod (a := 11) (b := 28) (c := 4) h).symm
    refine .inr (.inl ?_)
    rw [e]
    refine tors3 (n := 11) (by decide) ?_
    rw [← e, ← pw_mul]
    exact pw_mod (a := 11) (b := 4) (c := 0) h
  · exact (ord12 h).elim (fun h => .inr (.inl h)) fun h => .inr (.inr h)
/-- the least order up to n -/
def ordD (M : M3) : Nat → D
  | 0 => .non
  | n + 1 => if isNon (ordD M n) = true ∧ pw M (n + 1) = one3 then .int ((n + 1 : Nat) : Int) else ordD M n
theorem ordD_kind (M : M3) : ∀ n, ordD M n = .non ∨ ∃ i : Int, ordD M n = .int i
  | 0 => .inl rfl
  | n + 1 => by
    unfold ordD
    split
    · exact .inr ⟨_, rfl⟩
    · exact ordD_kind M n
theorem ordD_non {M : M3} : ∀ {n j : Nat}, 1 ≤ j → j ≤ n → pw M j = one3 → isNon (ordD M n) = false
  | 0, j, h1, h2, _ => by omega
  | n + 1, j, h1, h2, h => by
    unfold ordD
    by_cases c : isNon (ordD M n) = true ∧ pw M (n + 1) = one3
    · rw [if_pos c]; rfl
    · rw [if_neg c]
      by_cases e : j = n + 1
      · subst e
        cases hb : isNon (ordD M n) with
        | false => rfl
        | true => exact absurd ⟨hb, h⟩ c
      · exact ordD_non h1 (by omega) h
theorem ord_12_6 {M : M3} (hd : det3 M = 1 ∨ det3 M = -1) : ordD M 12 = ordD M 6 := by
  have st : ∀ n, 6 ≤ n → n < 12 → ordD M (n + 1) = ordD M n := fun n h1 h2 => by
    show (if isNon (ordD M n) = true ∧ pw M (n + 1) = one3 then _ else _) = _
    refine if_neg fun ⟨hb, h⟩ => ?_
    rcases small hd (k := n + 1) (by omega) (by omega) h with h | h | h
    · rw [ordD_non (j := 2) (by omega) (by omega) h] at hb; cases hb
    · rw [ordD_non (j := 4) (by omega) (by omega) h] at hb; cases hb
    · rw [ordD_non (j := 6) (by omega) (by omega) h] at hb; cases hb
  rw [st 11 (by omega) (by omega), st 10 (by omega) (by omega), st 9 (by omega) (by omega), st 8 (by omega) (by omega), st 7 (by omega) (by omega), st 6 (by omega) (by omega)]
end K51

set_option Elab.async false
set_option linter.all false
set_option maxRecDepth 100000
set_option maxHeartbeats 4000000
namespace K51
open PySem PySem.Spec PyProof.Rows L2 PF
def top (i : Nat) : Stmt := PySem.Challenge.pw_coneroom_k51_orders_of_tables.main.body.getD i (.Pass ⟨0, 0, 0, 0⟩)
abbrev s_transposed : Stmt := top 4
def n_transposed : List Str := ["matrix", "j", "line"]
abbrev b_transposed : SL := CM.b_transposed
theorem c_transposed : chkSs b_transposed (infoOf n_transposed (defScope s_transposed) false) (defBody s_transposed) = true := by decide +kernel
theorem sc_transposed : FnScope n_transposed ["matrix"] (defScope s_transposed) := ⟨rfl, rfl, rfl, by decide +kernel, rfl, by decide +kernel, by decide +kernel⟩
abbrev s_matrix_product : Stmt := top 5
def n_matrix_product : List Str := ["first", "second", "columns", "line", "c"]
abbrev b_matrix_product : SL := CM.b_matrix_product
theorem c_matrix_product : chkSs b_matrix_product (infoOf n_matrix_product (defScope s_matrix_product) false) (defBody s_matrix_product) = true := by decide +kernel
theorem sc_matrix_product : FnScope n_matrix_product ["first", "second"] (defScope s_matrix_product) := ⟨rfl, rfl, rfl, by decide +kernel, rfl, by decide +kernel, by decide +kernel⟩
abbrev s_cross : Stmt := top 6
def n_cross : List Str := ["v", "w"]
abbrev b_cross : SL := CM.b_cross
theorem c_cross : chkSs b_cross (infoOf n_cross (defScope s_cross) false) (defBody s_cross) = true := by decide +kernel
theorem sc_cross : FnScope n_cross ["v", "w"] (defScope s_cross) := ⟨rfl, rfl, rfl, by decide +kernel, rfl, by decide +kernel, by decide +kernel⟩
abbrev s_determinant_of : Stmt := top 7
def n_determinant_of : List Str := ["matrix", "minors"]
abbrev b_determinant_of : SL := CM.b_determinant_of
theorem c_determinant_of : chkSs b_determinant_of (infoOf n_determinant_of (defScope s_determinant_of) false) (defBody s_determinant_of) = true := by decide +kernel
theorem sc_determinant_of : FnScope n_determinant_of ["matrix"] (defScope s_determinant_of) := ⟨rfl, rfl, rfl, by decide +kernel, rfl, by decide +kernel, by decide +kernel⟩
abbrev s_order_of : Stmt := top 11
def n_order_of : List Str := ["matrix", "power", "k"]
def b_order_of : SL := .cons (.ite (.cmp .nin (.call "determinant_of" (.cons (.var 0) .nil)) (.tup (.cons (.cst (.int 1)) (.cons (.neg (.cst (.int 1))) .nil)))) (.cons (.rai "BadMatrix") .nil) .nil) (.cons (.asg 1 (.var 0)) (.cons (.forS (.name 2) (.rng2 (.cst (.int 1)) (.bin .add (.glob "MOST_ORDER") (.cst (.int 1)))) (.cons (.ite (.cmp .eq (.var 1) (.glob "UNITS")) (.cons (.ret (.var 2)) .nil) .nil) (.cons (.asg 1 (.call "matrix_product" (.cons (.var 0) (.cons (.var 1) .nil)))) .nil))) (.cons (.ret (.cst .non)) .nil)))
theorem c_order_of : chkSs b_order_of (infoOf n_order_of (defScope s_order_of) false) (defBody s_order_of) = true := by decide +kernel
theorem sc_order_of : FnScope n_order_of ["matrix"] (defScope s_order_of) := ⟨rfl, rfl, rfl, by decide +kernel, rfl, by decide +kernel, by decide +kernel⟩
abbrev s__law_numbers : Stmt := top 13
def n__law_numbers : List Str := ["script", "many", "numbers", "k", "cell", "j", "mixed"]
def b__law_numbers : SL := .cons (.asg 2 (.lst .nil)) (.cons (.forS (.name 3) (.rng1 (.bi .len (.cons (.var 0) .nil))) (.cons (.asg 4 (.bi .abs (.cons (.ix (.var 0) (.var 3)) .nil))) (.cons (.ite (.cmp .ge (.var 4) (.bin .pow (.cst (.int 10)) (.cst (.int 18)))) (.cons (.forS (.name 5) (.rng1 (.cst (.int 60))) (.cons (.ite (.band (.cons (.cmp .gt (.var 4) (.cst (.int 0))) (.cons (.cmp .lt (.bi .len (.cons (.var 2) .nil)) (.var 1)) .nil))) (.cons (.app 2 (.bin .mod (.var 4) (.cst (.int 1000)))) (.cons (.asg 4 (.bin .fdiv (.var 4) (.cst (.int 1000)))) .nil)) .nil) .nil)) .nil) (.cons (.forS (.name 5) (.rng1 (.cst (.int 5))) (.cons (.asg 6 (.bin .mod (.bi .int (.cons (.bin .add (.bin .add (.bin .add (.bin .mul (.var 4) (.cst (.int 48271))) (.bin .mul (.var 3) (.cst (.int 69621)))) (.bin .mul (.var 5) (.cst (.int 16807)))) (.cst (.int 11))) .nil)) (.cst (.int 2147483647)))) (.cons (.asg 6 (.bin .mod (.bi .int (.cons (.bin .add (.bin .mul (.var 6) (.var 6)) (.var 5)) .nil)) (.cst (.int 2147483629)))) (.cons (.app 2 (.bin .mod (.bin .fdiv (.var 6) (.cst (.int 7))) (.cst (.int 1000)))) .nil)))) .nil)) .nil))) (.cons (.ret (.sl (.var 2) .none (.some (.var 1)))) .nil))
theorem c__law_numbers : chkSs b__law_numbers (infoOf n__law_numbers (defScope s__law_numbers) false) (defBody s__law_numbers) = true := by decide +kernel
theorem sc__law_numbers : FnScope n__law_numbers ["script", "many"] (defScope s__law_numbers) := ⟨rfl, rfl, rfl, by decide +kernel, rfl, by decide +kernel, by decide +kernel⟩
abbrev s__law_take : Stmt := top 14
def n__law_take : List Str := ["numbers", "place"]
def b__law_take : SL := .cons (.ite (.cmp .lt (.ix (.var 1) (.cst (.int 0))) (.bi .len (.cons (.var 0) .nil))) (.cons (.setIx 1 (.cst (.int 0)) (.bin .add (.ix (.var 1) (.cst (.int 0))) (.cst (.int 1)))) (.cons (.ret (.ix (.var 0) (.bin .sub (.ix (.var 1) (.cst (.int 0))) (.cst (.int 1))))) .nil)) .nil) (.cons (.ret (.cst (.int 0))) .nil)
theorem c__law_take : chkSs b__law_take (infoOf n__law_take (defScope s__law_take) false) (defBody s__law_take) = true := by decide +kernel
theorem sc__law_take : FnScope n__law_take ["numbers", "place"] (defScope s__law_take) := ⟨rfl, rfl, rfl, by decide +kernel, rfl, by decide +kernel, by decide +kernel⟩
abbrev s__law_same : Stmt := top 15
def n__law_same : List Str := ["actual", "expected", "k"]
def b__law_same : SL := .cons (.ite (.isi (.var 1) "tuple") (.cons (.ite (.bor (.cons (.bnot (.isi (.var 0) "tuple")) (.cons (.cmp .ne (.bi .len (.cons (.var 0) .nil)) (.bi .len (.cons (.var 1) .nil))) .nil))) (.cons (.ret (.cst (.bl false))) .nil) .nil) (.cons (.forS (.name 2) (.rng1 (.bi .len (.cons (.var 1) .nil))) (.cons (.ite (.bnot (.call "_law_same" (.cons (.ix (.var 0) (.var 2)) (.cons (.ix (.var 1) (.var 2)) .nil)))) (.cons (.ret (.cst (.bl false))) .nil) .nil) .nil)) (.cons (.ret (.cst (.bl true))) .nil))) .nil) (.cons (.ite (.cmp .isN (.var 1) (.cst .non)) (.cons (.ret (.cmp .isN (.var 0) (.cst .non))) .nil) .nil) (.cons (.ite (.isi (.var 1) "str") (.cons (.ret (.band (.cons (.isi (.var 0) "str") (.cons (.cmp .eq (.var 0) (.var 1)) .nil)))) .nil) .nil) (.cons (.ret (.band (.cons (.isi (.var 0) "int") (.cons (.bnot (.isi (.var 0) "bool")) (.cons (.cmp .eq (.var 0) (.var 1)) .nil))))) .nil)))
theorem c__law_same : chkSs b__law_same (infoOf n__law_same (defScope s__law_same) false) (defBody s__law_same) = true := by decide +kernel
theorem sc__law_same : FnScope n__law_same ["actual", "expected"] (defScope s__law_same) := ⟨rfl, rfl, rfl, by decide +kernel, rfl, by decide +kernel, by decide +kernel⟩
abbrev s__law_menu : Stmt := top 16
def n__law_menu : List Str := ["number", "menu", "items", "base", "bound", "a", "b", "c", "d", "e", "f"]
def b__law_menu : SL := .cons (.asg 1 (.lst (.cons (.tup (.cons (.tup (.cons (.cst (.int 1)) (.cons (.cst (.int 0)) (.cons (.cst (.int 0)) (.cons (.cst (.int 1)) (.cons (.cst (.int 0)) (.cons (.neg (.cst (.int 1))) .nil))))))) (.cons (.tup (.cons (.cst (.int 0)) (.cons (.cst (.int 0)) (.cons (.cst (.int 1)) .nil)))) (.cons (.cst (.int 1)) .nil)))) (.cons (.tup (.cons (.tup (.cons (.cst (.int 1)) (.cons (.cst (.int 0)) (.cons (.cst (.int 0)) (.cons (.cst (.int 1)) (.cons (.cst (.int 0)) (.cons (.neg (.cst (.int 2))) .nil))))))) (.cons (.tup (.cons (.cst (.int 0)) (.cons (.cst (.int 0)) (.cons (.cst (.int 1)) .nil)))) (.cons (.cst (.int 2)) .nil)))) (.cons (.tup (.cons (.tup (.cons (.cst (.int 1)) (.cons (.cst (.int 0)) (.cons (.cst (.int 0)) (.cons (.cst (.int 1)) (.cons (.cst (.int 0)) (.cons (.neg (.cst (.int 3))) .nil))))))) (.cons (.tup (.cons (.cst (.int 0)) (.cons (.cst (.int 0)) (.cons (.cst (.int 1)) .nil)))) (.cons (.cst (.int 2)) .nil)))) (.cons (.tup (.cons (.tup (.cons (.cst (.int 1)) (.cons (.cst (.int 0)) (.cons (.cst (.int 0)) (.cons (.cst (.int 1)) (.cons (.cst (.int 0)) (.cons (.neg (.cst (.int 4))) .nil))))))) (.cons (.tup (.cons (.cst (.int 0)) (.cons (.cst (.int 0)) (.cons (.cst (.int 1)) .nil)))) (.cons (.cst (.int 4)) .nil)))) (.cons (.tup (.cons (.tup (.cons (.cst (.int 1)) (.cons (.cst (.int 0)) (.cons (.cst (.int 0)) (.cons (.cst (.int 2)) (.cons (.cst (.int 0)) (.cons (.neg (.cst (.int 1))) .nil))))))) (.cons (.tup (.cons (.cst (.int 0)) (.cons (.cst (.int 0)) (.cons (.cst (.int 1)) .nil)))) (.cons (.cst (.int 1)) .nil)))) (.cons (.tup (.cons (.tup (.cons (.cst (.int 1)) (.cons (.cst (.int 0)) (.cons (.cst (.int 0)) (.cons (.cst (.int 2)) (.cons (.cst (.int 0)) (.cons (.neg (.cst (.int 2))) .nil))))))) (.cons (.tup (.cons (.cst (.int 0)) (.cons (.cst (.int 0)) (.cons (.cst (.int 1)) .nil)))) (.cons (.cst (.int 1)) .nil)))) (.cons (.tup (.cons (.tup (.cons (.cst (.int 1)) (.cons (.cst (.int 0)) (.cons (.cst (.int 0)) (.cons (.cst (.int 2)) (.cons (.cst (.int 0)) (.cons (.neg (.cst (.int 3))) .nil))))))) (.cons (.tup (.cons (.cst (.int 0)) (.cons (.cst (.int 0)) (.cons (.cst (.int 1)) .nil)))) (.cons (.cst (.int 8)) .nil)))) (.cons (.tup (.cons (.tup (.cons (.cst (.int 1)) (.cons (.cst (.int 0)) (.cons (.cst (.int 0)) (.cons (.cst (.int 3)) (.cons (.cst (.int 0)) (.cons (.neg (.cst (.int 1))) .nil))))))) (.cons (.tup (.cons (.cst (.int 0)) (.cons (.cst (.int 0)) (.cons (.cst (.int 1)) .nil)))) (.cons (.cst (.int 4)) .nil)))) (.cons (.tup (.cons (.tup (.cons (.cst (.int 1)) (.cons (.cst (.int 0)) (.cons (.cst (.int 0)) (.cons (.cst (.int 3)) (.cons (.cst (.int 0)) (.cons (.neg (.cst (.int 2))) .nil))))))) (.cons (.tup (.cons (.cst (.int 0)) (.cons (.cst (.int 0)) (.cons (.cst (.int 1)) .nil)))) (.cons (.cst (.int 2)) .nil)))) (.cons (.tup (.cons (.tup (.cons (.cst (.int 2)) (.cons (.cst (.int 0)) (.cons (.cst (.int 0)) (.cons (.cst (.int 3)) (.cons (.cst (.int 0)) (.cons (.neg (.cst (.int 1))) .nil))))))) (.cons (.tup (.cons (.cst (.int 0)) (.cons (.cst (.int 0)) (.cons (.cst (.int 1)) .nil)))) (.cons (.cst (.int 1)) .nil)))) (.cons (.tup (.cons (.tup (.cons (.cst (.int 1)) (.cons (.cst (.int 0)) (.cons (.cst (.int 0)) (.cons (.cst (.int 4)) (.cons (.cst (.int 0)) (.cons (.neg (.cst (.int 1))) .nil))))))) (.cons (.tup (.cons (.cst (.int 0)) (.cons (.cst (.int 0)) (.cons (.cst (.int 1)) .nil)))) (.cons (.cst (.int 1)) .nil)))) (.cons (.tup (.cons (.tup (.cons (.cst (.int 1)) (.cons (.cst (.int 0)) (.cons (.cst (.int 0)) (.cons (.cst (.int 6)) (.cons (.cst (.int 0)) (.cons (.neg (.cst (.int 1))) .nil))))))) (.cons (.tup (.cons (.cst (.int 0)) (.cons (.cst (.int 0)) (.cons (.cst (.int 1)) .nil)))) (.cons (.cst (.int 2)) .nil)))) (.cons (.tup (.cons (.tup (.cons (.cst (.int 2)) (.cons (.cst (.int 1)) (.cons (.cst (.int 0)) (.cons (.cst (.int 2)) (.cons (.cst (.int 0)) (.cons (.neg (.cst (.int 1))) .nil))))))) (.cons (.tup (.cons (.cst (.int 0)) (.cons (.cst (.int 0)) (.cons (.cst (.int 1)) .nil)))) (.cons (.cst (.int 1)) .nil)))) (.cons (.tup (.cons (.tup (.cons (.cst (.int 2)) (.cons (.cst (.int 1)) (.cons (.cst (.int 0)) (.cons (.cst (.int 2)) (.cons (.cst (.int 0)) (.cons (.neg (.cst (.int 2))) .nil))))))) (.cons (.tup (.cons (.cst (.int 0)) (.cons (.cst (.int 0)) (.cons (.cst (.int 1)) .nil)))) (.cons (.cst (.int 8)) .nil)))) (.cons (.tup (.cons (.tup (.cons (.cst (.int 0)) (.cons (.cst (.int 1)) (.cons (.cst (.int 0)) (.cons (.cst (.int 0)) (.cons (.cst (.int 0)) (.cons (.cst (.int 1)) .nil))))))) (.cons (.tup (.cons (.cst (.int 1)) (.cons (.neg (.cst (.int 1))) (.cons (.neg (.cst (.int 1))) .nil)))) (.cons (.cst (.int 1)) .nil)))) (.cons (.tup (.cons (.tup (.cons (.cst (.int 0)) (.cons (.cst (.int 1)) (.cons (.cst (.int 0)) (.cons (.cst (.int 0)) (.cons (.cst (.int 0)) (.cons (.cst (.int 2)) .nil))))))) (.cons (.tup (.cons (.cst (.int 1)) (.cons (.neg (.cst (.int 1))) (.cons (.cst (.int 0)) .nil)))) (.cons (.cst (.int 1)) .nil)))) (.cons (.tup (.cons (.tup (.cons (.cst (.int 2)) (.cons (.neg (.cst (.int 1))) (.cons (.cst (.int 0)) (.cons (.cst (.int 2)) (.cons (.neg (.cst (.int 1))) (.cons (.neg (.cst (.int 1))) .nil))))))) (.cons (.tup (.cons (.cst (.int 0)) (.cons (.cst (.int 0)) (.cons (.cst (.int 1)) .nil)))) (.cons (.cst (.int 1)) .nil)))) (.cons (.tup (.cons (.tup (.cons (.cst (.int 0)) (.cons (.cst (.int 1)) (.cons (.cst (.int 0)) (.cons (.cst (.int 0)) (.cons (.cst (.int 0)) (.cons (.cst (.int 3)) .nil))))))) (.cons (.tup (.cons (.cst (.int 1)) (.cons (.neg (.cst (.int 1))) (.cons (.cst (.int 0)) .nil)))) (.cons (.cst (.int 4)) .nil)))) (.cons (.tup (.cons (.tup (.cons (.cst (.int 2)) (.cons (.cst (.int 1)) (.cons (.cst (.int 1)) (.cons (.cst (.int 2)) (.cons (.cst (.int 1)) (.cons (.neg (.cst (.int 1))) .nil))))))) (.cons (.tup (.cons (.cst (.int 0)) (.cons (.cst (.int 0)) (.cons (.cst (.int 1)) .nil)))) (.cons (.cst (.int 1)) .nil)))) (.cons (.tup (.cons (.tup (.cons (.cst (.int 1)) (.cons (.cst (.int 0)) (.cons (.cst (.int 0)) (.cons (.cst (.int 7)) (.cons (.cst (.int 0)) (.cons (.neg (.cst (.int 1))) .nil))))))) (.cons (.tup (.cons (.cst (.int 0)) (.cons (.cst (.int 0)) (.cons (.cst (.int 1)) .nil)))) (.cons (.cst (.int 8)) .nil)))) (.cons (.tup (.cons (.tup (.cons (.cst (.int 1)) (.cons (.cst (.int 0)) (.cons (.cst (.int 0)) (.cons (.cst (.int 1)) (.cons (.cst (.int 0)) (.cons (.neg (.cst (.int 7))) .nil))))))) (.cons (.tup (.cons (.cst (.int 2)) (.cons (.cst (.int 1)) (.cons (.cst (.int 1)) .nil)))) (.cons (.cst (.int 1)) .nil)))) (.cons (.tup (.cons (.tup (.cons (.cst (.int 2)) (.cons (.cst (.int 1)) (.cons (.cst (.int 1)) (.cons (.cst (.int 4)) (.cons (.cst (.int 1)) (.cons (.neg (.cst (.int 2))) .nil))))))) (.cons (.tup (.cons (.cst (.int 0)) (.cons (.cst (.int 0)) (.cons (.cst (.int 1)) .nil)))) (.cons (.cst (.int 2)) .nil)))) (.cons (.tup (.cons (.tup (.cons (.cst (.int 3)) (.cons (.cst (.int 1)) (.cons (.cst (.int 0)) (.cons (.cst (.int 4)) (.cons (.cst (.int 1)) (.cons (.neg (.cst (.int 1))) .nil))))))) (.cons (.tup (.cons (.cst (.int 0)) (.cons (.cst (.int 0)) (.cons (.cst (.int 1)) .nil)))) (.cons (.cst (.int 4)) .nil)))) (.cons (.tup (.cons (.tup (.cons (.cst (.int 3)) (.cons (.cst (.int 1)) (.cons (.cst (.int 0)) (.cons (.cst (.int 4)) (.cons (.cst (.int 0)) (.cons (.neg (.cst (.int 1))) .nil))))))) (.cons (.tup (.cons (.cst (.int 0)) (.cons (.cst (.int 0)) (.cons (.cst (.int 1)) .nil)))) (.cons (.cst (.int 11)) .nil)))) .nil)))))))))))))))))))))))))) (.cons (.asgT [2, 3, 4] (.ix (.var 1) (.bin .mod (.var 0) (.cst (.int 24))))) (.cons (.asgT [5, 6, 7, 8, 9, 10] (.var 2)) (.cons (.ret (.tup (.cons (.tup (.cons (.tup (.cons (.var 5) (.cons (.var 6) (.cons (.var 7) .nil)))) (.cons (.tup (.cons (.var 6) (.cons (.var 8) (.cons (.var 9) .nil)))) (.cons (.tup (.cons (.var 7) (.cons (.var 9) (.cons (.var 10) .nil)))) .nil)))) (.cons (.var 3) (.cons (.var 4) .nil))))) .nil)))
theorem c__law_menu : chkSs b__law_menu (infoOf n__law_menu (defScope s__law_menu) false) (defBody s__law_menu) = true := by decide +kernel
theorem sc__law_menu : FnScope n__law_menu ["number"] (defScope s__law_menu) := ⟨rfl, rfl, rfl, by decide +kernel, rfl, by decide +kernel, by decide +kernel⟩
abbrev s__law_dot : Stmt := top 17
def n__law_dot : List Str := ["table", "v", "w", "i", "j"]
def b__law_dot : SL := .cons (.ret (.bi .sum (.cons (.lc (.name 3) (.rng1 (.cst (.int 3))) .nil (.bin .mul (.ix (.var 1) (.var 3)) (.bi .sum (.cons (.lc (.name 4) (.rng1 (.cst (.int 3))) .nil (.bin .mul (.ix (.ix (.var 0) (.var 3)) (.var 4)) (.ix (.var 2) (.var 4)))) .nil)))) .nil))) .nil
theorem c__law_dot : chkSs b__law_dot (infoOf n__law_dot (defScope s__law_dot) false) (defBody s__law_dot) = true := by decide +kernel
theorem sc__law_dot : FnScope n__law_dot ["table", "v", "w"] (defScope s__law_dot) := ⟨rfl, rfl, rfl, by decide +kernel, rfl, by decide +kernel, by decide +kernel⟩
abbrev s__law_image : Stmt := top 18
def n__law_image : List Str := ["matrix", "v", "i", "j"]
def b__law_image : SL := .cons (.ret (.bi .tuple (.cons (.lc (.name 2) (.rng1 (.cst (.int 3))) .nil (.bi .sum (.cons (.lc (.name 3) (.rng1 (.cst (.int 3))) .nil (.bin .mul (.ix (.ix (.var 0) (.var 2)) (.var 3)) (.ix (.var 1) (.var 3)))) .nil))) .nil))) .nil
theorem c__law_image : chkSs b__law_image (infoOf n__law_image (defScope s__law_image) false) (defBody s__law_image) = true := by decide +kernel
theorem sc__law_image : FnScope n__law_image ["matrix", "v"] (defScope s__law_image) := ⟨rfl, rfl, rfl, by decide +kernel, rfl, by decide +kernel, by decide +kernel⟩
abbrev s__law_mul : Stmt := top 19
def n__law_mul : List Str := ["first", "second", "rows", "i", "j", "k"]
def b__law_mul : SL := .cons (.asg 2 (.lst .nil)) (.cons (.forS (.name 3) (.rng1 (.cst (.int 3))) (.cons (.app 2 (.bi .tuple (.cons (.lc (.name 4) (.rng1 (.cst (.int 3))) .nil (.bi .sum (.cons (.lc (.name 5) (.rng1 (.cst (.int 3))) .nil (.bin .mul (.ix (.ix (.var 0) (.var 3)) (.var 5)) (.ix (.ix (.var 1) (.var 5)) (.var 4)))) .nil))) .nil))) .nil)) (.cons (.ret (.bi .tuple (.cons (.var 2) .nil))) .nil))
theorem c__law_mul : chkSs b__law_mul (infoOf n__law_mul (defScope s__law_mul) false) (defBody s__law_mul) = true := by decide +kernel
theorem sc__law_mul : FnScope n__law_mul ["first", "second"] (defScope s__law_mul) := ⟨rfl, rfl, rfl, by decide +kernel, rfl, by decide +kernel, by decide +kernel⟩
abbrev s__law_det : Stmt := top 20
def n__law_det : List Str := ["m", "one", "two"]
abbrev b__law_det : SL := CM.b__law_det
theorem c__law_det : chkSs b__law_det (infoOf n__law_det (defScope s__law_det) false) (defBody s__law_det) = true := by decide +kernel
theorem sc__law_det : FnScope n__law_det ["m"] (defScope s__law_det) := ⟨rfl, rfl, rfl, by decide +kernel, rfl, by decide +kernel, by decide +kernel⟩
abbrev s__law_adjugate : Stmt := top 21
def n__law_adjugate : List Str := ["m", "rows", "i", "row", "j", "a", "b", "c", "d"]
def b__law_adjugate : SL := .cons (.asg 1 (.lst .nil)) (.cons (.forS (.name 2) (.rng1 (.cst (.int 3))) (.cons (.asg 3 (.lst .nil)) (.cons (.forS (.name 4) (.rng1 (.cst (.int 3))) (.cons (.par2 5 6 (.bin .mod (.bin .add (.var 4) (.cst (.int 1))) (.cst (.int 3))) (.bin .mod (.bin .add (.var 4) (.cst (.int 2))) (.cst (.int 3)))) (.cons (.par2 7 8 (.bin .mod (.bin .add (.var 2) (.cst (.int 1))) (.cst (.int 3))) (.bin .mod (.bin .add (.var 2) (.cst (.int 2))) (.cst (.int 3)))) (.cons (.app 3 (.bin .sub (.bin .mul (.ix (.ix (.var 0) (.var 5)) (.var 7)) (.ix (.ix (.var 0) (.var 6)) (.var 8))) (.bin .mul (.ix (.ix (.var 0) (.var 5)) (.var 8)) (.ix (.ix (.var 0) (.var 6)) (.var 7))))) .nil)))) (.cons (.app 1 (.bi .tuple (.cons (.var 3) .nil))) .nil)))) (.cons (.ret (.bi .tuple (.cons (.var 1) .nil))) .nil))
theorem c__law_adjugate : chkSs b__law_adjugate (infoOf n__law_adjugate (defScope s__law_adjugate) false) (defBody s__law_adjugate) = true := by decide +kernel
theorem sc__law_adjugate : FnScope n__law_adjugate ["m"] (defScope s__law_adjugate) := ⟨rfl, rfl, rfl, by decide +kernel, rfl, by decide +kernel, by decide +kernel⟩
abbrev s__law_back : Stmt := top 22
def n__law_back : List Str := ["m", "sign", "row", "item"]
def b__law_back : SL := .cons (.asg 1 (.call "_law_det" (.cons (.var 0) .nil))) (.cons (.ret (.bi .tuple (.cons (.lc (.name 2) (.of (.call "_law_adjugate" (.cons (.var 0) .nil))) .nil (.bi .tuple (.cons (.lc (.name 3) (.of (.var 2)) .nil (.bin .mul (.var 1) (.var 3))) .nil))) .nil))) .nil)
theorem c__law_back : chkSs b__law_back (infoOf n__law_back (defScope s__law_back) false) (defBody s__law_back) = true := by decide +kernel
theorem sc__law_back : FnScope n__law_back ["m"] (defScope s__law_back) := ⟨rfl, rfl, rfl, by decide +kernel, rfl, by decide +kernel, by decide +kernel⟩
abbrev s__law_moved : Stmt := top 23
def n__law_moved : List Str := ["table", "m", "rows", "i", "one", "k", "j"]
def b__law_moved : SL := .cons (.asg 2 (.lst .nil)) (.cons (.forS (.name 3) (.rng1 (.cst (.int 3))) (.cons (.asg 4 (.bi .tuple (.cons (.lc (.name 5) (.rng1 (.cst (.int 3))) .nil (.ix (.ix (.var 1) (.var 5)) (.var 3))) .nil))) (.cons (.app 2 (.bi .tuple (.cons (.lc (.name 6) (.rng1 (.cst (.int 3))) .nil (.call "_law_dot" (.cons (.var 0) (.cons (.var 4) (.cons (.bi .tuple (.cons (.lc (.name 5) (.rng1 (.cst (.int 3))) .nil (.ix (.ix (.var 1) (.var 5)) (.var 6))) .nil)) .nil))))) .nil))) .nil))) (.cons (.ret (.bi .tuple (.cons (.var 2) .nil))) .nil))
theorem c__law_moved : chkSs b__law_moved (infoOf n__law_moved (defScope s__law_moved) false) (defBody s__law_moved) = true := by decide +kernel
theorem sc__law_moved : FnScope n__law_moved ["table", "m"] (defScope s__law_moved) := ⟨rfl, rfl, rfl, by decide +kernel, rfl, by decide +kernel, by decide +kernel⟩
abbrev s__law_step : Stmt := top 24
def n__law_step : List Str := ["number", "rows", "i", "j", "row"]
def b__law_step : SL := .cons (.asg 1 (.lst2 (.cons (.lst (.cons (.cst (.int 1)) (.cons (.cst (.int 0)) (.cons (.cst (.int 0)) .nil)))) (.cons (.lst (.cons (.cst (.int 0)) (.cons (.cst (.int 1)) (.cons (.cst (.int 0)) .nil)))) (.cons (.lst (.cons (.cst (.int 0)) (.cons (.cst (.int 0)) (.cons (.cst (.int 1)) .nil)))) .nil))))) (.cons (.asg 2 (.bin .mod (.var 0) (.cst (.int 3)))) (.cons (.asg 3 (.bin .mod (.bin .add (.bin .add (.var 2) (.cst (.int 1))) (.bin .mod (.bin .fdiv (.var 0) (.cst (.int 3))) (.cst (.int 2)))) (.cst (.int 3)))) (.cons (.ite (.cmp .eq (.bin .mod (.bin .fdiv (.var 0) (.cst (.int 6))) (.cst (.int 4))) (.cst (.int 0))) (.cons (.setIx2 1 (.var 2) (.var 2) (.neg (.cst (.int 1)))) .nil) (.cons (.ite (.cmp .eq (.bin .mod (.bin .fdiv (.var 0) (.cst (.int 6))) (.cst (.int 4))) (.cst (.int 1))) (.cons (.swap2 1 (.var 2) (.var 3)) .nil) (.cons (.setIx2 1 (.var 2) (.var 3) (.ix (.tup (.cons (.cst (.int 1)) (.cons (.neg (.cst (.int 1))) .nil))) (.bin .mod (.bin .fdiv (.var 0) (.cst (.int 24))) (.cst (.int 2))))) .nil)) .nil)) (.cons (.ret (.bi .tuple (.cons (.lc (.name 4) (.of (.var 1)) .nil (.bi .tuple (.cons (.var 4) .nil))) .nil))) .nil))))
theorem c__law_step : chkSs b__law_step (infoOf n__law_step (defScope s__law_step) false) (defBody s__law_step) = true := by decide +kernel
theorem sc__law_step : FnScope n__law_step ["number"] (defScope s__law_step) := ⟨rfl, rfl, rfl, by decide +kernel, rfl, by decide +kernel, by decide +kernel⟩
abbrev s__law_change : Stmt := top 25
def n__law_change : List Str := ["numbers", "place", "most", "found", "k"]
def b__law_change : SL := .cons (.asg 3 (.tup (.cons (.tup (.cons (.cst (.int 1)) (.cons (.cst (.int 0)) (.cons (.cst (.int 0)) .nil)))) (.cons (.tup (.cons (.cst (.int 0)) (.cons (.cst (.int 1)) (.cons (.cst (.int 0)) .nil)))) (.cons (.tup (.cons (.cst (.int 0)) (.cons (.cst (.int 0)) (.cons (.cst (.int 1)) .nil)))) .nil))))) (.cons (.forS (.name 4) (.rng1 (.bin .mod (.call "_law_take" (.cons (.var 0) (.cons (.var 1) .nil))) (.bin .add (.var 2) (.cst (.int 1))))) (.cons (.asg 3 (.call "_law_mul" (.cons (.var 3) (.cons (.call "_law_step" (.cons (.call "_law_take" (.cons (.var 0) (.cons (.var 1) .nil))) .nil)) .nil)))) .nil)) (.cons (.ret (.var 3)) .nil))
theorem c__law_change : chkSs b__law_change (infoOf n__law_change (defScope s__law_change) false) (defBody s__law_change) = true := by decide +kernel
theorem sc__law_change : FnScope n__law_change ["numbers", "place", "most"] (defScope s__law_change) := ⟨rfl, rfl, rfl, by decide +kernel, rfl, by decide +kernel, by decide +kernel⟩
abbrev s__law_drawn : Stmt := top 26
def n__law_drawn : List Str := ["numbers", "place", "most", "table", "base", "bound", "change"]
def b__law_drawn : SL := .cons (.asgT [3, 4, 5] (.call "_law_menu" (.cons (.call "_law_take" (.cons (.var 0) (.cons (.var 1) .nil))) .nil))) (.cons (.asg 6 (.call "_law_change" (.cons (.var 0) (.cons (.var 1) (.cons (.var 2) .nil))))) (.cons (.ret (.tup (.cons (.call "_law_moved" (.cons (.var 3) (.cons (.var 6) .nil))) (.cons (.call "_law_image" (.cons (.call "_law_back" (.cons (.var 6) .nil)) (.cons (.var 4) .nil))) (.cons (.var 5) .nil))))) .nil))
theorem c__law_drawn : chkSs b__law_drawn (infoOf n__law_drawn (defScope s__law_drawn) false) (defBody s__law_drawn) = true := by decide +kernel
theorem sc__law_drawn : FnScope n__law_drawn ["numbers", "place", "most"] (defScope s__law_drawn) := ⟨rfl, rfl, rfl, by decide +kernel, rfl, by decide +kernel, by decide +kernel⟩
abbrev s__law_is_keeper : Stmt := top 27
def n__law_is_keeper : List Str := ["table", "matrix"]
def b__law_is_keeper : SL := .cons (.ret (.cmp .eq (.call "_law_moved" (.cons (.var 0) (.cons (.var 1) .nil))) (.var 0))) .nil
theorem c__law_is_keeper : chkSs b__law_is_keeper (infoOf n__law_is_keeper (defScope s__law_is_keeper) false) (defBody s__law_is_keeper) = true := by decide +kernel
theorem sc__law_is_keeper : FnScope n__law_is_keeper ["table", "matrix"] (defScope s__law_is_keeper) := ⟨rfl, rfl, rfl, by decide +kernel, rfl, by decide +kernel, by decide +kernel⟩
abbrev s__law_reflection : Stmt := top 28
def n__law_reflection : List Str := ["table", "r", "n", "columns", "unit", "many", "i", "j"]
def b__law_reflection : SL := .cons (.asg 2 (.call "_law_dot" (.cons (.var 0) (.cons (.var 1) (.cons (.var 1) .nil))))) (.cons (.asg 3 (.lst .nil)) (.cons (.forS (.name 4) (.of (.tup (.cons (.tup (.cons (.cst (.int 1)) (.cons (.cst (.int 0)) (.cons (.cst (.int 0)) .nil)))) (.cons (.tup (.cons (.cst (.int 0)) (.cons (.cst (.int 1)) (.cons (.cst (.int 0)) .nil)))) (.cons (.tup (.cons (.cst (.int 0)) (.cons (.cst (.int 0)) (.cons (.cst (.int 1)) .nil)))) .nil))))) (.cons (.asg 5 (.bin .fdiv (.bin .mul (.cst (.int 2)) (.call "_law_dot" (.cons (.var 0) (.cons (.var 1) (.cons (.var 4) .nil))))) (.var 2))) (.cons (.app 3 (.bi .tuple (.cons (.lc (.name 6) (.rng1 (.cst (.int 3))) .nil (.bin .sub (.ix (.var 4) (.var 6)) (.bin .mul (.var 5) (.ix (.var 1) (.var 6))))) .nil))) .nil))) (.cons (.ret (.bi .tuple (.cons (.lc (.name 6) (.rng1 (.cst (.int 3))) .nil (.bi .tuple (.cons (.lc (.name 7) (.rng1 (.cst (.int 3))) .nil (.ix (.ix (.var 3) (.var 7)) (.var 6))) .nil))) .nil))) .nil)))
theorem c__law_reflection : chkSs b__law_reflection (infoOf n__law_reflection (defScope s__law_reflection) false) (defBody s__law_reflection) = true := by decide +kernel
theorem sc__law_reflection : FnScope n__law_reflection ["table", "r"] (defScope s__law_reflection) := ⟨rfl, rfl, rfl, by decide +kernel, rfl, by decide +kernel, by decide +kernel⟩
abbrev s__law_told : Stmt := top 29
def n__law_told : List Str := ["matrix", "error"]
def b__law_told : SL := .cons (.tryX (.cons (.ret (.call "order_of" (.cons (.var 0) .nil))) .nil) "BadMatrix" (some 1) (.ret (.tup2 (.cst (.str "bad")) (.band (.isE "ConeroomError") (.isE "ValueError"))))) .nil
theorem c__law_told : chkSs b__law_told (infoOf n__law_told (defScope s__law_told) false) (defBody s__law_told) = true := by decide +kernel
theorem sc__law_told : FnScope n__law_told ["matrix"] (defScope s__law_told) := ⟨rfl, rfl, rfl, by decide +kernel, rfl, by decide +kernel, by decide +kernel⟩
abbrev s_law : Stmt := top 30
def n_law : List Str := ["script", "numbers", "place", "menu", "k", "change", "matrix", "due", "power", "times", "number", "wrong", "row", "item"]
def b_law : SL := .cons (.asg 1 (.call "_law_numbers" (.cons (.var 0) (.cons (.cst (.int 40)) .nil)))) (.cons (.asg 2 (.lst (.cons (.cst (.int 0)) .nil))) (.cons (.asg 3 (.lst (.cons (.tup (.cons (.tup (.cons (.cst (.int 0)) (.cons (.cst (.int 0)) (.cons (.cst (.int 1)) .nil)))) (.cons (.tup (.cons (.cst (.int 1)) (.cons (.cst (.int 0)) (.cons (.cst (.int 0)) .nil)))) (.cons (.tup (.cons (.cst (.int 0)) (.cons (.cst (.int 1)) (.cons (.cst (.int 0)) .nil)))) .nil)))) (.cons (.tup (.cons (.tup (.cons (.cst (.int 0)) (.cons (.neg (.cst (.int 1))) (.cons (.cst (.int 0)) .nil)))) (.cons (.tup (.cons (.cst (.int 1)) (.cons (.cst (.int 0)) (.cons (.cst (.int 0)) .nil)))) (.cons (.tup (.cons (.cst (.int 0)) (.cons (.cst (.int 0)) (.cons (.cst (.int 1)) .nil)))) .nil)))) (.cons (.tup (.cons (.tup (.cons (.cst (.int 1)) (.cons (.neg (.cst (.int 1))) (.cons (.cst (.int 0)) .nil)))) (.cons (.tup (.cons (.cst (.int 1)) (.cons (.cst (.int 0)) (.cons (.cst (.int 0)) .nil)))) (.cons (.tup (.cons (.cst (.int 0)) (.cons (.cst (.int 0)) (.cons (.cst (.int 1)) .nil)))) .nil)))) (.cons (.tup (.cons (.tup (.cons (.neg (.cst (.int 1))) (.cons (.cst (.int 0)) (.cons (.cst (.int 0)) .nil)))) (.cons (.tup (.cons (.cst (.int 0)) (.cons (.neg (.cst (.int 1))) (.cons (.cst (.int 0)) .nil)))) (.cons (.tup (.cons (.cst (.int 0)) (.cons (.cst (.int 0)) (.cons (.cst (.int 1)) .nil)))) .nil)))) (.cons (.tup (.cons (.tup (.cons (.cst (.int 0)) (.cons (.neg (.cst (.int 1))) (.cons (.cst (.int 0)) .nil)))) (.cons (.tup (.cons (.cst (.int 1)) (.cons (.cst (.int 0)) (.cons (.cst (.int 0)) .nil)))) (.cons (.tup (.cons (.cst (.int 0)) (.cons (.cst (.int 0)) (.cons (.neg (.cst (.int 1))) .nil)))) .nil)))) (.cons (.tup (.cons (.tup (.cons (.cst (.int 1)) (.cons (.neg (.cst (.int 1))) (.cons (.cst (.int 0)) .nil)))) (.cons (.tup (.cons (.cst (.int 1)) (.cons (.cst (.int 0)) (.cons (.cst (.int 0)) .nil)))) (.cons (.tup (.cons (.cst (.int 0)) (.cons (.cst (.int 0)) (.cons (.neg (.cst (.int 1))) .nil)))) .nil)))) (.cons (.tup (.cons (.tup (.cons (.cst (.int 1)) (.cons (.cst (.int 1)) (.cons (.cst (.int 0)) .nil)))) (.cons (.tup (.cons (.cst (.int 0)) (.cons (.cst (.int 1)) (.cons (.cst (.int 0)) .nil)))) (.cons (.tup (.cons (.cst (.int 0)) (.cons (.cst (.int 0)) (.cons (.cst (.int 1)) .nil)))) .nil)))) (.cons (.tup (.cons (.tup (.cons (.neg (.cst (.int 1))) (.cons (.cst (.int 1)) (.cons (.cst (.int 0)) .nil)))) (.cons (.tup (.cons (.cst (.int 0)) (.cons (.neg (.cst (.int 1))) (.cons (.cst (.int 0)) .nil)))) (.cons (.tup (.cons (.cst (.int 0)) (.cons (.cst (.int 0)) (.cons (.cst (.int 1)) .nil)))) .nil)))) .nil)))))))))) (.cons (.forS (.name 4) (.rng1 (.cst (.int 3))) (.cons (.asg 5 (.call "_law_change" (.cons (.var 1) (.cons (.var 2) (.cons (.cst (.int 6)) .nil))))) (.cons (.asg 6 (.var 5)) (.cons (.ite (.cmp .lt (.var 4) (.cst (.int 2))) (.cons (.asg 6 (.call "_law_mul" (.cons (.call "_law_mul" (.cons (.var 5) (.cons (.ix (.var 3) (.bin .mod (.call "_law_take" (.cons (.var 1) (.cons (.var 2) .nil))) (.cst (.int 8)))) .nil))) (.cons (.call "_law_back" (.cons (.var 5) .nil)) .nil)))) .nil) .nil) (.cons (.asg 7 (.cst .non)) (.cons (.asg 8 (.var 6)) (.cons (.forS (.name 9) (.rng2 (.cst (.int 1)) (.cst (.int 13))) (.cons (.ite (.band (.cons (.cmp .isN (.var 7) (.cst .non)) (.cons (.cmp .eq (.var 8) (.tup (.cons (.tup (.cons (.cst (.int 1)) (.cons (.cst (.int 0)) (.cons (.cst (.int 0)) .nil)))) (.cons (.tup (.cons (.cst (.int 0)) (.cons (.cst (.int 1)) (.cons (.cst (.int 0)) .nil)))) (.cons (.tup (.cons (.cst (.int 0)) (.cons (.cst (.int 0)) (.cons (.cst (.int 1)) .nil)))) .nil))))) .nil))) (.cons (.asg 7 (.var 9)) .nil) .nil) (.cons (.asg 8 (.call "_law_mul" (.cons (.var 8) (.cons (.var 6) .nil)))) .nil))) (.cons (.ite (.bnot (.call "_law_same" (.cons (.call "_law_told" (.cons (.var 6) .nil)) (.cons (.var 7) .nil)))) (.cons (.ret (.cst (.bl false))) .nil) .nil) (.cons (.asg 10 (.call "_law_take" (.cons (.var 1) (.cons (.var 2) .nil)))) (.cons (.asg 11 (.ix (.tup (.cons (.bi .tuple (.cons (.lc (.name 12) (.of (.var 6)) .nil (.bi .tuple (.cons (.lc (.name 13) (.of (.var 12)) .nil (.bin .mul (.cst (.int 2)) (.var 13))) .nil))) .nil)) (.cons (.bin .add (.sl (.var 6) .none (.some (.cst (.int 2)))) (.tup (.cons (.ix (.var 6) (.cst (.int 0))) .nil))) (.cons (.bin .mul (.tup (.cons (.tup (.cons (.cst (.int 0)) (.cons (.cst (.int 0)) (.cons (.cst (.int 0)) .nil)))) .nil)) (.cst (.int 3))) .nil)))) (.bin .mod (.var 10) (.cst (.int 3))))) (.cons (.ite (.cmp .ne (.call "_law_told" (.cons (.var 11) .nil)) (.tup (.cons (.cst (.str "bad")) (.cons (.cst (.bl true)) .nil)))) (.cons (.ret (.cst (.bl false))) .nil) .nil) .nil))))))))))) (.cons (.ret (.band (.cons (.cmp .eq (.call "_law_told" (.cons (.tup (.cons (.tup (.cons (.cst (.int 1)) (.cons (.cst (.int 0)) (.cons (.cst (.int 0)) .nil)))) (.cons (.tup (.cons (.cst (.int 0)) (.cons (.cst (.int 1)) (.cons (.cst (.int 0)) .nil)))) (.cons (.tup (.cons (.cst (.int 0)) (.cons (.cst (.int 0)) (.cons (.cst (.int 1)) .nil)))) .nil)))) .nil)) (.cst (.int 1))) (.cons (.cmp .eq (.call "_law_told" (.cons (.tup (.cons (.tup (.cons (.neg (.cst (.int 1))) (.cons (.cst (.int 0)) (.cons (.cst (.int 0)) .nil)))) (.cons (.tup (.cons (.cst (.int 0)) (.cons (.neg (.cst (.int 1))) (.cons (.cst (.int 0)) .nil)))) (.cons (.tup (.cons (.cst (.int 0)) (.cons (.cst (.int 0)) (.cons (.neg (.cst (.int 1))) .nil)))) .nil)))) .nil)) (.cst (.int 2))) .nil)))) .nil))))
theorem c_law : chkSs b_law (infoOf n_law (defScope s_law) false) (defBody s_law) = true := by decide +kernel
theorem sc_law : FnScope n_law ["script"] (defScope s_law) := ⟨rfl, rfl, rfl, by decide +kernel, rfl, by decide +kernel, by decide +kernel⟩
end K51

set_option Elab.async false
set_option linter.all false
set_option maxRecDepth 100000
set_option maxHeartbeats 4000000
namespace K51
open PySem PySem.Spec PyProof.Rows L2 PF CM
variable {G : Tb} {T : Ft}
theorem hz (n : Nat) (h : n ≤ 5000) : n < sizeLine := Nat.lt_of_le_of_lt h (by decide)
/-! ### numbers -/
def isN3 (d : D) : Prop := ∃ x : Int, d = .int x ∧ 0 ≤ x ∧ x < 1000
def NumL (L : List Int) : Prop := (∀ x ∈ L, 0 ≤ x ∧ x < 1000) ∧ L.length ≤ 40
theorem num_of : ∀ {ds : List D}, (∀ d ∈ ds, isN3 d) → ∃ L : List Int, ds = L.map D.int ∧ ∀ x ∈ L, 0 ≤ x ∧ x < 1000
  | [], _ => ⟨[], rfl, fun _ m => nomatch m⟩
  | d :: ds, h => by
    obtain ⟨x, e, hx⟩ := h d List.mem_cons_self
    obtain ⟨L, e2, hL⟩ := num_of fun d m => h d (List.mem_cons_of_mem _ m)
    subst e e2
    refine ⟨x :: L, rfl, fun y m => ?_⟩
    rcases List.mem_cons.mp m with m | m
    · subst m; exact hx
    · exact hL y m
def rNum (a : List Int × Nat) (o : D ⊕ Str) : Prop := ∃ L, NumL L ∧ o = .inl (.lst (L.map D.int))
theorem o_numbers (F : FtOk G T) : ∀ a : List Int × Nat, (a.1.length ≤ 63 ∧ a.2 = 40) → evSs G b__law_numbers ((aDraws a).map Sl.fz ++ List.replicate 5 .no) (valPo (fun d => rNum a (.inl d)) (fun c => rNum a (.inr c))) := by
  rintro ⟨ns, many⟩ ⟨h1, h2⟩
  dsimp only at h1 h2
  subst h2
  refine x_seq (x_asg F rfl ⟨trivial, Nat.zero_le _⟩ ?_)
  refine x_seq (x_forI F (p := (PF.intsFrom 0 (((ns.map D.int).length : Nat) : Int).toNat, _)) rfl (by simp only [true_and, List.length_map]; omega) (fun k env => ∃ (ds : List D) (x3 x4 x5 x6 : Sl), env = [.fz (.klst (ns.map D.int)), .fz (.int 40), .own 0 ds, x3, x4, x5, x6] ∧ (∀ d ∈ ds, isN3 d) ∧ ds.length ≤ 60 * k) ⟨[], .no, .no, .no, .no, rfl, (fun _ m => nomatch m), Nat.le_refl _⟩ ?_ ?_)
  · rintro k d env hk ⟨ds, x3, x4, x5, x6, rfl, i1, i2⟩
    obtain ⟨rfl, hk2⟩ := intsFrom_at hk
    have hkn : k < ns.length := by simpa using hk2
    obtain ⟨c, hc⟩ : ∃ c, ns[k]? = some c := ⟨ns[k], List.getElem?_eq_getElem hkn⟩
    refine ⟨_, rfl, ?_⟩
    show evSs G _ [.fz (.klst (ns.map D.int)), .fz (.int 40), .own 0 ds, .fz (.int (0 + (k : Int))), x4, x5, x6] _
    have hx : evP T (.ix (.var 0) (.var 3)) [.fz (.klst (ns.map D.int)), .fz (.int 40), .own 0 ds, .fz (.int (0 + (k : Int))), x4, x5, x6] = some (.d (.int c), True ∧ True) := evP_ix (x := .klst (ns.map D.int)) (y := .int (0 + (k : Int))) (evP_fz rfl) (evP_fz rfl) rfl rfl (atF_nat (xs := ns.map D.int) (by rw [List.getElem?_map, hc]; rfl))
    refine x_seq (x_asg F (evP_bi1 (f := .abs) hx rfl rfl) ⟨⟨⟨trivial, trivial⟩, trivial⟩, trivial⟩ ?_)
    have hn : 0 ≤ (if c < 0 then -c else c) := by split <;> omega
    dsimp only [storeE, List.set]
    revert hn
    generalize (if c < 0 then -c else c) = num
    intro hn
    refine x_one (x_ite F (p := (decide ((10 : Int) ^ 18 ≤ num), _)) rfl (by simp only [true_and, and_true]; exact (by decide : (0 : Int) ≤ 18 ∧ (18 : Int) ≤ 1000000 ∧ (10 : Int).natAbs < 2 ^ 64)) (fun _ => ?_) (fun hb => ?_))
    · refine x_one (x_forI F rfl (by simp only [true_and]; exact ⟨by decide, by decide⟩) (fun j env => ∃ (ds : List D) (num : Int) (x5 : Sl), env = [.fz (.klst (ns.map D.int)), .fz (.int 40), .own 0 ds, .fz (.int (0 + (k : Int))), .fz (.int num), x5, x6] ∧ (∀ d ∈ ds, isN3 d) ∧ ds.length ≤ 60 * k + j ∧ 0 ≤ num) ⟨ds, num, x5, rfl, i1, by omega, hn⟩ ?_ ?_)
      · rintro j d env hj ⟨ds, num, x5, rfl, j1, j2, j3⟩
        obtain ⟨rfl, hj60⟩ := intsFrom_at hj
        have hj60' : j < 60 := hj60
        refine ⟨_, rfl, x_one (x_ite F (p := (decide (0 < num) && decide ((ds.length : Int) < 40), _)) rfl (by simp only [true_and, and_true, and_self, implies_true]) (fun hb => ?_) (fun _ => ?_))⟩
        · refine x_seq (x_app F rfl rfl (by simp only [true_and, and_true]; decide) rfl (hz _ (by omega)) ?_)
          refine x_one (x_asg F rfl (by simp only [true_and]; decide) ?_)
          refine ⟨_, _, _, rfl, fun d m => ?_, by simp; omega, Int.ediv_nonneg j3 (by decide)⟩
          rcases List.mem_append.mp m with m | m
          · exact j1 d m
          · simp only [List.mem_singleton] at m
            exact ⟨_, m, Int.emod_nonneg _ (by decide), Int.emod_lt_of_pos _ (by decide)⟩
        · exact x_done ⟨_, _, _, rfl, j1, by omega, j3⟩
      · rintro env ⟨ds, num, x5, rfl, j1, j2, j3⟩
        exact ⟨_, _, _, _, _, rfl, j1, by simp only [intsFrom_len] at j2; have : (60 : Int).toNat = 60 := rfl; omega⟩
    · have hb' : decide ((10 : Int) ^ 18 ≤ num) = false := hb
      rw [decide_eq_false_iff_not] at hb'
      have hnum : num < 1000000000000000000 := by omega
      refine x_one (x_forI F rfl (by simp only [true_and]; exact ⟨by decide, by decide⟩) (fun j env => ∃ (ds : List D) (x5 x6 : Sl), env = [.fz (.klst (ns.map D.int)), .fz (.int 40), .own 0 ds, .fz (.int (0 + (k : Int))), .fz (.int num), x5, x6] ∧ (∀ d ∈ ds, isN3 d) ∧ ds.length ≤ 60 * k + j) ⟨ds, x5, x6, rfl, i1, by omega⟩ ?_ ?_)
      · rintro j d env hj ⟨ds, x5, x6, rfl, j1, j2⟩
        obtain ⟨rfl, hj60⟩ := intsFrom_at hj
        have hj60' : j < 5 := hj60
        refine ⟨_, rfl, ?_⟩
        have q1 : CMulW num 48271 := Sm.cm (a := 60) (b := 16) (sm_nat (by omega)) (sm_nat (by decide)) (by decide)
        have q2 : CMulW (0 + (k : Int)) 69621 := Sm.cm (a := 60) (b := 17) (sm_nat (by omega)) (sm_nat (by decide)) (by decide)
        have q3 : CMulW (0 + (j : Int)) 16807 := Sm.cm (a := 60) (b := 17) (sm_nat (by omega)) (sm_nat (by decide)) (by decide)
        refine x_seq (x_asg F rfl (by simp only [true_and, and_true]; exact ⟨⟨⟨q1, q2⟩, q3⟩, by decide⟩) ?_)
        dsimp only [storeE, List.set]
        have hs2 : 0 ≤ (num * 48271 + (0 + (k : Int)) * 69621 + (0 + (j : Int)) * 16807 + 11) % 2147483647 ∧ (num * 48271 + (0 + (k : Int)) * 69621 + (0 + (j : Int)) * 16807 + 11) % 2147483647 < 2147483647 := ⟨Int.emod_nonneg _ (by decide), Int.emod_lt_of_pos _ (by decide)⟩
        revert hs2
        generalize (num * 48271 + (0 + (k : Int)) * 69621 + (0 + (j : Int)) * 16807 + 11) % 2147483647 = s
        rintro ⟨t1, t2⟩
        refine x_seq (x_asg F rfl (by simp only [true_and, and_true]; exact ⟨Sm.cm (a := 31) (b := 31) (sm_nat (by omega)) (sm_nat (by omega)) (by decide), by decide⟩) ?_)
        dsimp only [storeE, List.set]
        generalize (s * s + (0 + (j : Int))) % 2147483629 = s'
        refine x_one (x_app F rfl rfl (by simp only [true_and, and_true]; decide) rfl (hz _ (by omega)) ?_)
        refine ⟨_, _, _, rfl, fun d m => ?_, by simp; omega⟩
        rcases List.mem_append.mp m with m | m
        · exact j1 d m
        · simp only [List.mem_singleton] at m
          exact ⟨_, m, Int.emod_nonneg _ (by decide), Int.emod_lt_of_pos _ (by decide)⟩
      · rintro env ⟨ds, x5, x6, rfl, j1, j2⟩
        exact ⟨_, _, _, _, _, rfl, j1, by simp only [intsFrom_len] at j2; have : (5 : Int).toNat = 5 := rfl; omega⟩
  · rintro env ⟨ds, x3, x4, x5, x6, rfl, i1, i2⟩
    refine x_one (x_ret F (p := (.nw (cutD ds none (some 40)), _)) rfl (by simp only [and_self]) rfl ?_)
    obtain ⟨L, e, hL⟩ := num_of (ds := cutD ds none (some 40)) fun d m => i1 d (cutD_mem m)
    refine ⟨L, ⟨hL, ?_⟩, by rw [← e]⟩
    have : (cutD ds none (some 40)).length = L.length := by rw [e, List.length_map]
    rw [← this]
    by_cases h40 : 40 ≤ ds.length
    · rw [show cutD ds none (some 40) = ds.take 40 from cutD_front h40, List.length_take]; omega
    · have := cutD_len (xs := ds) (lo := none) (hi := some 40)
      omega
/-! ### a number taken -/
def fTake : Fn where
  run := fun sls Q E => ∃ (L : List Int) (t : Int), sls = [.fz (.lst (L.map D.int)), .own 1 [.int t]] ∧ NumL L ∧ 0 ≤ t ∧ ∀ n t' : Int, 0 ≤ n → n < 1000 → 0 ≤ t' → Q (.int n) [[.int t']]
  mono := fun ⟨L, t, h1, h2, h3, h4⟩ q _ => ⟨L, t, h1, h2, h3, fun n t' a b c => q _ _ (h4 n t' a b c)⟩
theorem x_setIx (F : FtOk G T) {env : En} {P : Po} {i k : Nat} {ds : List D} {a e : E} {p : Ev × Prop} {d : D} {n : Int} {ca : Prop} {j : Nat} (h0 : env[i]? = some (.own k ds)) (h : evP T e env = some p) (hc : p.2) (hd : setD p.1 = some d) (ha : evP T a env = some (.d (.int n), ca)) (hca : ca) (hj : ixN ds.length n = some j) (q : P.nx (env.set i (.own k (ds.set j d)))) : evS G (.setIx i a e) env P :=
  (ps F e).v env p h hc _ _ (setD_ok hd ⟨⟨k, ds, h0⟩, (ps F a).v env _ ha hca _ _ ⟨k, ds, n, j, h0, rfl, hj, q⟩⟩)
theorem ok_take (F : FtOk G T) : ∀ sls Q E, fTake.run sls Q E → (Fn.ofBody G 0 b__law_take).run sls Q E := by
  rintro sls Q E ⟨L, t, rfl, ⟨hL, hl⟩, ht, q⟩
  show evSs G b__law_take [.fz (.lst (L.map D.int)), .own 1 [.int t]] _
  have e1 : evP T (.ix (.var 1) (.cst (.int 0))) [.fz (.lst (L.map D.int)), .own 1 [.int t]] = some (.d (.int t), True ∧ True) := rfl
  refine x_seq (x_ite F (p := (decide (t < ((L.map D.int).length : Nat)), _)) rfl (by simp only [and_self]) (fun hb => ?_) (fun _ => x_done ?_))
  · have hb' : t < ((L.map D.int).length : Nat) := of_decide_eq_true hb
    rw [List.length_map] at hb'
    refine x_seq (x_setIx F (i := 1) (k := 1) (ds := [.int t]) (d := .int (t + 1)) (n := 0) (j := 0) (ca := True) rfl rfl (by simp only [and_self]) rfl rfl trivial rfl ?_)
    show evSs G _ [.fz (.lst (L.map D.int)), .own 1 [.int (t + 1)]] _
    obtain ⟨x, hx⟩ : ∃ x, L[t.toNat]? = some x := ⟨_, List.getElem?_eq_getElem (by omega)⟩
    have e2 : evP T (.bin .sub (.ix (.var 1) (.cst (.int 0))) (.cst (.int 1))) [.fz (.lst (L.map D.int)), .own 1 [.int (t + 1)]] = some (.d (.int (t + 1 - 1)), _) := rfl
    have e3 : t + 1 - 1 = 0 + (t.toNat : Int) := by omega
    rw [e3] at e2
    refine x_one (x_ret F (evP_ix (x := .lst (L.map D.int)) (y := .int (0 + (t.toNat : Int))) (evP_fz rfl) e2 rfl rfl (atF_nat (xs := L.map D.int) (d := .int x) (by rw [List.getElem?_map, hx]; rfl))) (by simp only [and_self]) rfl ?_)
    have hm := hL x (List.mem_of_getElem? hx)
    exact ⟨[[.int (t + 1)]], rfl, q x (t + 1) hm.1 hm.2 (by omega)⟩
  · exact x_one (x_ret F (p := (.d (.int 0), True)) rfl trivial rfl ⟨[[.int t]], rfl, q 0 t (by omega) (by omega) ht⟩)
/-- calls of it -/
theorem ev_take {env : En} {i0 i1 k : Nat} {L : List Int} {t : Int} {Q : Ev → En → Prop} {Er : KE0} (hf : G.fns "_law_take" = some ([false, true], fTake)) (h0 : env[i0]? = some (.fz (.lst (L.map D.int)))) (h1 : env[i1]? = some (.own k [.int t])) (hL : NumL L) (ht : 0 ≤ t)
    (q : ∀ n t' : Int, 0 ≤ n → n < 1000 → 0 ≤ t' → Q (.d (.int n)) (env.set i1 (.own k [.int t']))) : (ev G (.call "_law_take" (.cons (.var i0) (.cons (.var i1) .nil)))).1 env Q Er := by
  refine ⟨_, _, hf, ?_⟩
  show (match env[i0]? with | some (.fz d) => _ | some (.own _ _) => _ | some (.own2 _) => _ | _ => False)
  rw [h0]
  show (match env[i1]? with | some (.fz d) => _ | some (.own _ _) => _ | some (.own2 _) => _ | _ => False)
  rw [h1]
  refine ⟨i1, rfl, rfl, ?_⟩
  refine ⟨rfl, [.fz (.lst (L.map D.int)), .own 1 [.int t]], ?_, by simp [refs], L, t, rfl, hL, ht, fun n t' a b c => ⟨env.set i1 (.own k [.int t']), ?_, q n t' a b c⟩⟩
  · show (slsOf env 0 [.inr i1]).map _ = _
    simp only [slsOf, h1, Option.map_some]
  · show putOuts env [i1] [[.int t']] = _
    simp only [putOuts, h1]
/-! ### two answers -/
def cSame : List D → Option (D × Prop)
  | [.non, .non] => some (.bl true, True)
  | [.int _, .non] => some (.bl false, True)
  | [.non, .int _] => some (.bl false, True)
  | [.int i, .int n] => some (.bl (decide (i = n)), True)
  | _ => none
theorem o_same (F : FtOk G T) : ∀ ds p, ds.length = 2 → cSame ds = some p → p.2 → ∀ P : Po, (∀ env, P.rt p.1 env) → evSs G b__law_same (ds.map Sl.fz ++ List.replicate 1 .no) P := by
  intro ds p hn h hp P q
  unfold cSame at h
  split at h <;> cases h
  · refine x_seq (x_ite F (p := (false, _)) rfl (by simp only [and_self]) (fun h => Bool.noConfusion h) (fun _ => x_done ?_))
    exact x_seq (x_ite F (p := (true, _)) rfl (by simp only [and_self]) (fun _ => x_one (x_ret F rfl (by simp only [and_self]) rfl (q _))) (fun h => Bool.noConfusion h))
  · refine x_seq (x_ite F (p := (false, _)) rfl (by simp only [and_self]) (fun h => Bool.noConfusion h) (fun _ => x_done ?_))
    exact x_seq (x_ite F (p := (true, _)) rfl (by simp only [and_self]) (fun _ => x_one (x_ret F rfl (by simp only [and_self]) rfl (q _))) (fun h => Bool.noConfusion h))
  · refine x_seq (x_ite F (p := (false, _)) rfl (by simp only [and_self]) (fun h => Bool.noConfusion h) (fun _ => x_done ?_))
    refine x_seq (x_ite F (p := (false, _)) rfl (by simp only [and_self]) (fun h => Bool.noConfusion h) (fun _ => x_done ?_))
    refine x_seq (x_ite F (p := (false, _)) rfl (by simp only [and_self]) (fun h => Bool.noConfusion h) (fun _ => x_done ?_))
    exact x_one (x_ret F rfl (by simp only [true_and, and_true]; exact fun h => Bool.noConfusion h) rfl (q _))
  · rename_i i n
    refine x_seq (x_ite F (p := (false, _)) rfl (by simp only [and_self]) (fun h => Bool.noConfusion h) (fun _ => x_done ?_))
    refine x_seq (x_ite F (p := (false, _)) rfl (by simp only [and_self]) (fun h => Bool.noConfusion h) (fun _ => x_done ?_))
    refine x_seq (x_ite F (p := (false, _)) rfl (by simp only [and_self]) (fun h => Bool.noConfusion h) (fun _ => x_done ?_))
    refine x_one (x_ret F (p := (.d (.bl (true && (!false && decide (i = n)))), _)) rfl (by simp only [true_and, and_true, and_self, implies_true]) rfl ?_)
    rw [Bool.true_and, Bool.not_false, Bool.true_and]
    exact q _
/-! ### products -/
theorem sum3 (a b c : Int) : [a, b, c].sum = a + b + c := by
  simp only [List.sum_cons, List.sum_nil]; omega
theorem o_mul (F : FtOk G T) : ∀ ds p, ds.length = 2 → cMm ds = some p → p.2 → ∀ P : Po, (∀ env, P.rt p.1 env) → evSs G b__law_mul (ds.map Sl.fz ++ List.replicate 4 .no) P := by
  intro ds p hn h hp P q
  obtain ⟨a, b, x, y, e1, e2, e3, e4⟩ := c2_by (f := rdM) (g := rdM) (k := fun m r => (dM (mm m r), SmM 400000 m ∧ SmM 400000 r)) (fun a b => rfl) hn h
  subst e1 e4
  rw [rdM_ok e2, rdM_ok e3]
  clear e2 e3 h hn
  obtain ⟨hx, hy⟩ := hp
  have q' : ∀ env, P.rt (dM (mm x y)) env := q
  clear q
  obtain ⟨⟨a1, a2, a3⟩, ⟨a4, a5, a6⟩, a7, a8, a9⟩ := x
  obtain ⟨⟨b1, b2, b3⟩, ⟨b4, b5, b6⟩, b7, b8, b9⟩ := y
  obtain ⟨⟨ha1, ha2, ha3⟩, ⟨ha4, ha5, ha6⟩, ha7, ha8, ha9⟩ := hx
  obtain ⟨⟨hb1, hb2, hb3⟩, ⟨hb4, hb5, hb6⟩, hb7, hb8, hb9⟩ := hy
  dsimp only at ha1 ha2 ha3 ha4 ha5 ha6 ha7 ha8 ha9 hb1 hb2 hb3 hb4 hb5 hb6 hb7 hb8 hb9
  refine x_seq (x_asg F rfl ⟨trivial, Nat.zero_le _⟩ ?_)
  refine x_seq (x_for F rfl (by simp only [true_and]; exact ⟨by decide, by decide⟩) ?_)
  refine ⟨_, rfl, x_one (x_app F rfl rfl ?_ rfl (hz 0 (by decide)) ?_)⟩
  · simp only [true_and, and_true, and_self]
    repeat' (first | exact Sm.cm (a := 400000) (b := 400000) (by assumption) (by assumption) (by decide) | exact (show 3 ≤ sizeLine by decide) | decide | apply And.intro)
  refine ⟨_, rfl, x_one (x_app F rfl rfl ?_ rfl (hz 1 (by decide)) ?_)⟩
  · simp only [true_and, and_true, and_self]
    repeat' (first | exact Sm.cm (a := 400000) (b := 400000) (by assumption) (by assumption) (by decide) | exact (show 3 ≤ sizeLine by decide) | decide | apply And.intro)
  refine ⟨_, rfl, x_one (x_app F rfl rfl ?_ rfl (hz 2 (by decide)) ?_)⟩
  · simp only [true_and, and_true, and_self]
    repeat' (first | exact Sm.cm (a := 400000) (b := 400000) (by assumption) (by assumption) (by decide) | exact (show 3 ≤ sizeLine by decide) | decide | apply And.intro)
  refine x_one (x_ret F rfl (by simp only [and_self]) rfl ?_)
  show P.rt (.tup [.tup [.int ([a1 * b1, a2 * b4, a3 * b7].sum), .int ([a1 * b2, a2 * b5, a3 * b8].sum), .int ([a1 * b3, a2 * b6, a3 * b9].sum)], .tup [.int ([a4 * b1, a5 * b4, a6 * b7].sum), .int ([a4 * b2, a5 * b5, a6 * b8].sum), .int ([a4 * b3, a5 * b6, a6 * b9].sum)], .tup [.int ([a7 * b1, a8 * b4, a9 * b7].sum), .int ([a7 * b2, a8 * b5, a9 * b8].sum), .int ([a7 * b3, a8 * b6, a9 * b9].sum)]]) _
  simp only [sum3]
  exact q' _
def adj1 (m : M3) : M3 := ((m.2.1.2.1 * m.2.2.2.2 - m.2.1.2.2 * m.2.2.2.1, m.2.2.2.1 * m.1.2.2 - m.2.2.2.2 * m.1.2.1, m.1.2.1 * m.2.1.2.2 - m.1.2.2 * m.2.1.2.1), (m.2.1.2.2 * m.2.2.1 - m.2.1.1 * m.2.2.2.2, m.2.2.2.2 * m.1.1 - m.2.2.1 * m.1.2.2, m.1.2.2 * m.2.1.1 - m.1.1 * m.2.1.2.2), (m.2.1.1 * m.2.2.2.1 - m.2.1.2.1 * m.2.2.1, m.2.2.1 * m.1.2.1 - m.2.2.2.1 * m.1.1, m.1.1 * m.2.1.2.1 - m.1.2.1 * m.2.1.1))
def cAdj1 : List D → Option (D × Prop)
  | [a] => (rdM a).map fun m => (dM (adj1 m), SmM 400000 m)
  | _ => none
theorem o_adj1 (F : FtOk G T) : ∀ ds p, ds.length = 1 → cAdj1 ds = some p → p.2 → ∀ P : Po, (∀ env, P.rt p.1 env) → evSs G b__law_adjugate (ds.map Sl.fz ++ List.replicate 8 .no) P := by
  intro ds p hn h hp P q
  obtain ⟨a, x, e1, e2, e4⟩ := c1_by (f := rdM) (k := fun m => (dM (adj1 m), SmM 400000 m)) (fun a => rfl) hn h
  subst e1 e4
  rw [rdM_ok e2]
  clear e2 h hn
  have hx : SmM 400000 x := hp
  clear hp
  have q' : ∀ env, P.rt (dM (adj1 x)) env := q
  clear q
  obtain ⟨⟨m1, m2, m3⟩, ⟨m4, m5, m6⟩, m7, m8, m9⟩ := x
  obtain ⟨⟨ha1, ha2, ha3⟩, ⟨ha4, ha5, ha6⟩, ha7, ha8, ha9⟩ := hx
  dsimp only at ha1 ha2 ha3 ha4 ha5 ha6 ha7 ha8 ha9
  let M : D := dM ((m1, m2, m3), (m4, m5, m6), m7, m8, m9)
  refine x_seq (x_asg F rfl ⟨trivial, Nat.zero_le _⟩ ?_)
  refine x_seq (x_for F rfl (by simp only [true_and]; exact ⟨by decide, by decide⟩) ?_)
  refine ⟨_, rfl, ?_⟩
  show evSs G _ [.fz M, .own 0 [], .fz (.int 0), .no, .no, .no, .no, .no, .no] _
  refine x_seq (x_asg F rfl ⟨trivial, Nat.zero_le _⟩ ?_)
  refine x_seq (x_for F rfl (by simp only [true_and]; exact ⟨by decide, by decide⟩) ?_)
  refine ⟨_, rfl, ?_⟩
  show evSs G _ [.fz M, .own 0 [], .fz (.int 0), .own 0 [], .fz (.int 0), .no, .no, .no, .no] _
  refine x_seq (x_par2 F (p := ([.d (.int 1), .d (.int 2)], _)) rfl (by simp only [true_and, and_true]; decide) rfl ?_)
  refine x_seq (x_par2 F (p := ([.d (.int 1), .d (.int 2)], _)) rfl (by simp only [true_and, and_true]; decide) rfl ?_)
  show evSs G _ [.fz M, .own 0 [], .fz (.int 0), .own 0 [], .fz (.int 0), .fz (.int 1), .fz (.int 2), .fz (.int 1), .fz (.int 2)] _
  refine x_one (x_app F (p := (.d (.int (m5 * m9 - m6 * m8)), _)) rfl rfl ?_ rfl (hz 0 (by decide)) ?_)
  · simp only [true_and, and_true, and_self]
    repeat' (first | exact Sm.cm (a := 400000) (b := 400000) (by assumption) (by assumption) (by decide) | apply And.intro)
  refine ⟨_, rfl, ?_⟩
  show evSs G _ [.fz M, .own 0 [], .fz (.int 0), .own 0 [.int (m5 * m9 - m6 * m8)], .fz (.int 1), .fz (.int 1), .fz (.int 2), .fz (.int 1), .fz (.int 2)] _
  refine x_seq (x_par2 F (p := ([.d (.int 2), .d (.int 0)], _)) rfl (by simp only [true_and, and_true]; decide) rfl ?_)
  refine x_seq (x_par2 F (p := ([.d (.int 1), .d (.int 2)], _)) rfl (by simp only [true_and, and_true]; decide) rfl ?_)
  show evSs G _ [.fz M, .own 0 [], .fz (.int 0), .own 0 [.int (m5 * m9 - m6 * m8)], .fz (.int 1), .fz (.int 2), .fz (.int 0), .fz (.int 1), .fz (.int 2)] _
  refine x_one (x_app F (p := (.d (.int (m8 * m3 - m9 * m2)), _)) rfl rfl ?_ rfl (hz 1 (by decide)) ?_)
  · simp only [true_and, and_true, and_self]
    repeat' (first | exact Sm.cm (a := 400000) (b := 400000) (by assumption) (by assumption) (by decide) | apply And.intro)
  refine ⟨_, rfl, ?_⟩
  show evSs G _ [.fz M, .own 0 [], .fz (.int 0), .own 0 [.int (m5 * m9 - m6 * m8), .int (m8 * m3 - m9 * m2)], .fz (.int 2), .fz (.int 2), .fz (.int 0), .fz (.int 1), .fz (.int 2)] _
  refine x_seq (x_par2 F (p := ([.d (.int 0), .d (.int 1)], _)) rfl (by simp only [true_and, and_true]; decide) rfl ?_)
  refine x_seq (x_par2 F (p := ([.d (.int 1), .d (.int 2)], _)) rfl (by simp only [true_and, and_true]; decide) rfl ?_)
  show evSs G _ [.fz M, .own 0 [], .fz (.int 0), .own 0 [.int (m5 * m9 - m6 * m8), .int (m8 * m3 - m9 * m2)], .fz (.int 2), .fz (.int 0), .fz (.int 1), .fz (.int 1), .fz (.int 2)] _
  refine x_one (x_app F (p := (.d (.int (m2 * m6 - m3 * m5)), _)) rfl rfl ?_ rfl (hz 2 (by decide)) ?_)
  · simp only [true_and, and_true, and_self]
    repeat' (first | exact Sm.cm (a := 400000) (b := 400000) (by assumption) (by assumption) (by decide) | apply And.intro)
  refine x_one (x_app F (p := (.d (.tup [.int (m5 * m9 - m6 * m8), .int (m8 * m3 - m9 * m2), .int (m2 * m6 - m3 * m5)]), _)) rfl rfl ?_ rfl (hz 0 (by decide)) ?_)
  · simp only [true_and, and_true, and_self]
  refine ⟨_, rfl, ?_⟩
  show evSs G _ [.fz M, .own 0 [.tup [.int (m5 * m9 - m6 * m8), .int (m8 * m3 - m9 * m2), .int (m2 * m6 - m3 * m5)]], .fz (.int 1), .own 0 [.int (m5 * m9 - m6 * m8), .int (m8 * m3 - m9 * m2), .int (m2 * m6 - m3 * m5)], .fz (.int 2), .fz (.int 0), .fz (.int 1), .fz (.int 1), .fz (.int 2)] _
  refine x_seq (x_asg F rfl ⟨trivial, Nat.zero_le _⟩ ?_)
  refine x_seq (x_for F rfl (by simp only [true_and]; exact ⟨by decide, by decide⟩) ?_)
  refine ⟨_, rfl, ?_⟩
  show evSs G _ [.fz M, .own 0 [.tup [.int (m5 * m9 - m6 * m8), .int (m8 * m3 - m9 * m2), .int (m2 * m6 - m3 * m5)]], .fz (.int 1), .own 0 [], .fz (.int 0), .fz (.int 0), .fz (.int 1), .fz (.int 1), .fz (.int 2)] _
  refine x_seq (x_par2 F (p := ([.d (.int 1), .d (.int 2)], _)) rfl (by simp only [true_and, and_true]; decide) rfl ?_)
  refine x_seq (x_par2 F (p := ([.d (.int 2), .d (.int 0)], _)) rfl (by simp only [true_and, and_true]; decide) rfl ?_)
  show evSs G _ [.fz M, .own 0 [.tup [.int (m5 * m9 - m6 * m8), .int (m8 * m3 - m9 * m2), .int (m2 * m6 - m3 * m5)]], .fz (.int 1), .own 0 [], .fz (.int 0), .fz (.int 1), .fz (.int 2), .fz (.int 2), .fz (.int 0)] _
  refine x_one (x_app F (p := (.d (.int (m6 * m7 - m4 * m9)), _)) rfl rfl ?_ rfl (hz 0 (by decide)) ?_)
  · simp only [true_and, and_true, and_self]
    repeat' (first | exact Sm.cm (a := 400000) (b := 400000) (by assumption) (by assumption) (by decide) | apply And.intro)
  refine ⟨_, rfl, ?_⟩
  show evSs G _ [.fz M, .own 0 [.tup [.int (m5 * m9 - m6 * m8), .int (m8 * m3 - m9 * m2), .int (m2 * m6 - m3 * m5)]], .fz (.int 1), .own 0 [.int (m6 * m7 - m4 * m9)], .fz (.int 1), .fz (.int 1), .fz (.int 2), .fz (.int 2), .fz (.int 0)] _
  refine x_seq (x_par2 F (p := ([.d (.int 2), .d (.int 0)], _)) rfl (by simp only [true_and, and_true]; decide) rfl ?_)
  refine x_seq (x_par2 F (p := ([.d (.int 2), .d (.int 0)], _)) rfl (by simp only [true_and, and_true]; decide) rfl ?_)
  show evSs G _ [.fz M, .own 0 [.tup [.int (m5 * m9 - m6 * m8), .int (m8 * m3 - m9 * m2), .int (m2 * m6 - m3 * m5)]], .fz (.int 1), .own 0 [.int (m6 * m7 - m4 * m9)], .fz (.int 1), .fz (.int 2), .fz (.int 0), .fz (.int 2), .fz (.int 0)] _
  refine x_one (x_app F (p := (.d (.int (m9 * m1 - m7 * m3)), _)) rfl rfl ?_ rfl (hz 1 (by decide)) ?_)
  · simp only [true_and, and_true, and_self]
    repeat' (first | exact Sm.cm (a := 400000) (b := 400000) (by assumption) (by assumption) (by decide) | apply And.intro)
  refine ⟨_, rfl, ?_⟩
  show evSs G _ [.fz M, .own 0 [.tup [.int (m5 * m9 - m6 * m8), .int (m8 * m3 - m9 * m2), .int (m2 * m6 - m3 * m5)]], .fz (.int 1), .own 0 [.int (m6 * m7 - m4 * m9), .int (m9 * m1 - m7 * m3)], .fz (.int 2), .fz (.int 2), .fz (.int 0), .fz (.int 2), .fz (.int 0)] _
  refine x_seq (x_par2 F (p := ([.d (.int 0), .d (.int 1)], _)) rfl (by simp only [true_and, and_true]; decide) rfl ?_)
  refine x_seq (x_par2 F (p := ([.d (.int 2), .d (.int 0)], _)) rfl (by simp only [true_and, and_true]; decide) rfl ?_)
  show evSs G _ [.fz M, .own 0 [.tup [.int (m5 * m9 - m6 * m8), .int (m8 * m3 - m9 * m2), .int (m2 * m6 - m3 * m5)]], .fz (.int 1), .own 0 [.int (m6 * m7 - m4 * m9), .int (m9 * m1 - m7 * m3)], .fz (.int 2), .fz (.int 0), .fz (.int 1), .fz (.int 2), .fz (.int 0)] _
  refine x_one (x_app F (p := (.d (.int (m3 * m4 - m1 * m6)), _)) rfl rfl ?_ rfl (hz 2 (by decide)) ?_)
  · simp only [true_and, and_true, and_self]
    repeat' (first | exact Sm.cm (a := 400000) (b := 400000) (by assumption) (by assumption) (by decide) | apply And.intro)
  refine x_one (x_app F (p := (.d (.tup [.int (m6 * m7 - m4 * m9), .int (m9 * m1 - m7 * m3), .int (m3 * m4 - m1 * m6)]), _)) rfl rfl ?_ rfl (hz 1 (by decide)) ?_)
  · simp only [true_and, and_true, and_self]
  refine ⟨_, rfl, ?_⟩
  show evSs G _ [.fz M, .own 0 [.tup [.int (m5 * m9 - m6 * m8), .int (m8 * m3 - m9 * m2), .int (m2 * m6 - m3 * m5)], .tup [.int (m6 * m7 - m4 * m9), .int (m9 * m1 - m7 * m3), .int (m3 * m4 - m1 * m6)]], .fz (.int 2), .own 0 [.int (m6 * m7 - m4 * m9), .int (m9 * m1 - m7 * m3), .int (m3 * m4 - m1 * m6)], .fz (.int 2), .fz (.int 0), .fz (.int 1), .fz (.int 2), .fz (.int 0)] _
  refine x_seq (x_asg F rfl ⟨trivial, Nat.zero_le _⟩ ?_)
  refine x_seq (x_for F rfl (by simp only [true_and]; exact ⟨by decide, by decide⟩) ?_)
  refine ⟨_, rfl, ?_⟩
  show evSs G _ [.fz M, .own 0 [.tup [.int (m5 * m9 - m6 * m8), .int (m8 * m3 - m9 * m2), .int (m2 * m6 - m3 * m5)], .tup [.int (m6 * m7 - m4 * m9), .int (m9 * m1 - m7 * m3), .int (m3 * m4 - m1 * m6)]], .fz (.int 2), .own 0 [], .fz (.int 0), .fz (.int 0), .fz (.int 1), .fz (.int 2), .fz (.int 0)] _
  refine x_seq (x_par2 F (p := ([.d (.int 1), .d (.int 2)], _)) rfl (by simp only [true_and, and_true]; decide) rfl ?_)
  refine x_seq (x_par2 F (p := ([.d (.int 0), .d (.int 1)], _)) rfl (by simp only [true_and, and_true]; decide) rfl ?_)
  show evSs G _ [.fz M, .own 0 [.tup [.int (m5 * m9 - m6 * m8), .int (m8 * m3 - m9 * m2), .int (m2 * m6 - m3 * m5)], .tup [.int (m6 * m7 - m4 * m9), .int (m9 * m1 - m7 * m3), .int (m3 * m4 - m1 * m6)]], .fz (.int 2), .own 0 [], .fz (.int 0), .fz (.int 1), .fz (.int 2), .fz (.int 0), .fz (.int 1)] _
  refine x_one (x_app F (p := (.d (.int (m4 * m8 - m5 * m7)), _)) rfl rfl ?_ rfl (hz 0 (by decide)) ?_)
  · simp only [true_and, and_true, and_self]
    repeat' (first | exact Sm.cm (a := 400000) (b := 400000) (by assumption) (by assumption) (by decide) | apply And.intro)
  refine ⟨_, rfl, ?_⟩
  show evSs G _ [.fz M, .own 0 [.tup [.int (m5 * m9 - m6 * m8), .int (m8 * m3 - m9 * m2), .int (m2 * m6 - m3 * m5)], .tup [.int (m6 * m7 - m4 * m9), .int (m9 * m1 - m7 * m3), .int (m3 * m4 - m1 * m6)]], .fz (.int 2), .own 0 [.int (m4 * m8 - m5 * m7)], .fz (.int 1), .fz (.int 1), .fz (.int 2), .fz (.int 0), .fz (.int 1)] _
  refine x_seq (x_par2 F (p := ([.d (.int 2), .d (.int 0)], _)) rfl (by simp only [true_and, and_true]; decide) rfl ?_)
  refine x_seq (x_par2 F (p := ([.d (.int 0), .d (.int 1)], _)) rfl (by simp only [true_and, and_true]; decide) rfl ?_)
  show evSs G _ [.fz M, .own 0 [.tup [.int (m5 * m9 - m6 * m8), .int (m8 * m3 - m9 * m2), .int (m2 * m6 - m3 * m5)], .tup [.int (m6 * m7 - m4 * m9), .int (m9 * m1 - m7 * m3), .int (m3 * m4 - m1 * m6)]], .fz (.int 2), .own 0 [.int (m4 * m8 - m5 * m7)], .fz (.int 1), .fz (.int 2), .fz (.int 0), .fz (.int 0), .fz (.int 1)] _
  refine x_one (x_app F (p := (.d (.int (m7 * m2 - m8 * m1)), _)) rfl rfl ?_ rfl (hz 1 (by decide)) ?_)
  · simp only [true_and, and_true, and_self]
    repeat' (first | exact Sm.cm (a := 400000) (b := 400000) (by assumption) (by assumption) (by decide) | apply And.intro)
  refine ⟨_, rfl, ?_⟩
  show evSs G _ [.fz M, .own 0 [.tup [.int (m5 * m9 - m6 * m8), .int (m8 * m3 - m9 * m2), .int (m2 * m6 - m3 * m5)], .tup [.int (m6 * m7 - m4 * m9), .int (m9 * m1 - m7 * m3), .int (m3 * m4 - m1 * m6)]], .fz (.int 2), .own 0 [.int (m4 * m8 - m5 * m7), .int (m7 * m2 - m8 * m1)], .fz (.int 2), .fz (.int 2), .fz (.int 0), .fz (.int 0), .fz (.int 1)] _
  refine x_seq (x_par2 F (p := ([.d (.int 0), .d (.int 1)], _)) rfl (by simp only [true_and, and_true]; decide) rfl ?_)
  refine x_seq (x_par2 F (p := ([.d (.int 0), .d (.int 1)], _)) rfl (by simp only [true_and, and_true]; decide) rfl ?_)
  show evSs G _ [.fz M, .own 0 [.tup [.int (m5 * m9 - m6 * m8), .int (m8 * m3 - m9 * m2), .int (m2 * m6 - m3 * m5)], .tup [.int (m6 * m7 - m4 * m9), .int (m9 * m1 - m7 * m3), .int (m3 * m4 - m1 * m6)]], .fz (.int 2), .own 0 [.int (m4 * m8 - m5 * m7), .int (m7 * m2 - m8 * m1)], .fz (.int 2), .fz (.int 0), .fz (.int 1), .fz (.int 0), .fz (.int 1)] _
  refine x_one (x_app F (p := (.d (.int (m1 * m5 - m2 * m4)), _)) rfl rfl ?_ rfl (hz 2 (by decide)) ?_)
  · simp only [true_and, and_true, and_self]
    repeat' (first | exact Sm.cm (a := 400000) (b := 400000) (by assumption) (by assumption) (by decide) | apply And.intro)
  refine x_one (x_app F (p := (.d (.tup [.int (m4 * m8 - m5 * m7), .int (m7 * m2 - m8 * m1), .int (m1 * m5 - m2 * m4)]), _)) rfl rfl ?_ rfl (hz 2 (by decide)) ?_)
  · simp only [true_and, and_true, and_self]
  exact x_one (x_ret F rfl (by simp only [and_self]) rfl (q' _))
end K51

set_option Elab.async false
set_option linter.all false
set_option maxRecDepth 100000
set_option maxHeartbeats 4000000
namespace K51
open PySem PySem.Spec PyProof.Rows L2 PF CM
variable {G : Tb} {T : Ft}
/-! ### the inverse -/
def sm3 (s : Int) (m : M3) : M3 := ((s * m.1.1, s * m.1.2.1, s * m.1.2.2), (s * m.2.1.1, s * m.2.1.2.1, s * m.2.1.2.2), s * m.2.2.1, s * m.2.2.2.1, s * m.2.2.2.2)
def bk (m : M3) : M3 := sm3 (det3 m) (adj1 m)
theorem det_bk {m : M3} (h : det3 m = 1 ∨ det3 m = -1) : det3 (bk m) = 1 ∨ det3 (bk m) = -1 := by
  have e : det3 (adj1 m) = det3 m * det3 m := by
    obtain ⟨⟨m1, m2, m3⟩, ⟨m4, m5, m6⟩, m7, m8, m9⟩ := m
    simp only [adj1, det3, cr, dot]
    grind
  have e2 : det3 (bk m) = det3 m * det3 m * det3 m * det3 (adj1 m) := by
    unfold bk
    generalize det3 m = s
    generalize adj1 m = n
    obtain ⟨⟨m1, m2, m3⟩, ⟨m4, m5, m6⟩, m7, m8, m9⟩ := n
    simp only [sm3, det3, cr, dot]
    grind
  rw [e2, e]
  rcases h with h | h <;> rw [h] <;> decide
theorem sm_one {s : Int} (h : s = 1 ∨ s = -1) {n : Nat} {x : Int} (hx : Sm n x) : Sm n (s * x) := by
  rcases h with h | h <;> rw [h] <;> unfold Sm at * <;> omega
theorem sm_adj1 {n : Nat} {m : M3} (h : SmM n m) : SmM (n + n + 1) (adj1 m) := by
  obtain ⟨⟨h1, h2, h3⟩, ⟨h4, h5, h6⟩, h7, h8, h9⟩ := h
  have g : ∀ {a b c d : Int}, Sm n a → Sm n b → Sm n c → Sm n d → Sm (n + n + 1) (a * b - c * d) := fun ha hb hc hd => ((ha.mul hb).sub (hc.mul hd)).up (by omega)
  exact ⟨⟨g ‹_› ‹_› ‹_› ‹_›, g ‹_› ‹_› ‹_› ‹_›, g ‹_› ‹_› ‹_› ‹_›⟩, ⟨g ‹_› ‹_› ‹_› ‹_›, g ‹_› ‹_› ‹_› ‹_›, g ‹_› ‹_› ‹_› ‹_›⟩, g ‹_› ‹_› ‹_› ‹_›, g ‹_› ‹_› ‹_› ‹_›, g ‹_› ‹_› ‹_› ‹_›⟩
theorem sm_bk {n : Nat} {m : M3} (hd : det3 m = 1 ∨ det3 m = -1) (h : SmM n m) : SmM (n + n + 1) (bk m) := by
  obtain ⟨⟨h1, h2, h3⟩, ⟨h4, h5, h6⟩, h7, h8, h9⟩ := sm_adj1 h
  exact ⟨⟨sm_one hd h1, sm_one hd h2, sm_one hd h3⟩, ⟨sm_one hd h4, sm_one hd h5, sm_one hd h6⟩, sm_one hd h7, sm_one hd h8, sm_one hd h9⟩
theorem sm_dot2 {n k : Nat} {v w : R3} (hv : SmR n v) (hw : SmR k w) : Sm (n + k + 2) (dot v w) :=
  (((hv.1.mul hw.1).add (hv.2.1.mul hw.2.1)).add (hv.2.2.mul hw.2.2)).up (by omega)
theorem sm_mm2 {n k : Nat} {a b : M3} (ha : SmM n a) (hb : SmM k b) : SmM (n + k + 2) (mm a b) :=
  ⟨⟨sm_dot2 ha.1 (sm_tp hb).1, sm_dot2 ha.1 (sm_tp hb).2.1, sm_dot2 ha.1 (sm_tp hb).2.2⟩, ⟨sm_dot2 ha.2.1 (sm_tp hb).1, sm_dot2 ha.2.1 (sm_tp hb).2.1, sm_dot2 ha.2.1 (sm_tp hb).2.2⟩, sm_dot2 ha.2.2 (sm_tp hb).1, sm_dot2 ha.2.2 (sm_tp hb).2.1, sm_dot2 ha.2.2 (sm_tp hb).2.2⟩
theorem sm_one3 (n : Nat) : SmM (n + 2) one3 := by
  have z : Sm (n + 2) 0 := by unfold Sm; exact Nat.pow_pos (by decide)
  have o : Sm (n + 2) 1 := (show Sm 2 1 by unfold Sm; decide).up (by omega)
  exact ⟨⟨o, z, z⟩, ⟨z, o, z⟩, z, z, o⟩
theorem sm_pw {n : Nat} {M : M3} (h : SmM n M) : ∀ k, SmM ((n + 2) * k + 2) (pw M k)
  | 0 => sm_one3 _
  | k + 1 => (sm_mm2 h (sm_pw h k)).up (by rw [Nat.mul_succ]; omega)
def cBack : List D → Option (D × Prop)
  | [a] => (rdM a).map fun m => (dM (bk m), SmM 100000 m ∧ (det3 m = 1 ∨ det3 m = -1))
  | _ => none
theorem o_back (F : FtOk G T) (hd : T.fn "_law_det" = some (fun ds => if ds.length = 1 then cDet ds else none)) (ha : T.fn "_law_adjugate" = some (fun ds => if ds.length = 1 then cAdj1 ds else none)) : ∀ ds p, ds.length = 1 → cBack ds = some p → p.2 → ∀ P : Po, (∀ env, P.rt p.1 env) → evSs G b__law_back (ds.map Sl.fz ++ List.replicate 3 .no) P := by
  intro ds p hn h hp P q
  obtain ⟨a, x, e1, e2, e4⟩ := c1_by (f := rdM) (k := fun m => (dM (bk m), SmM 100000 m ∧ (det3 m = 1 ∨ det3 m = -1))) (fun a => rfl) hn h
  subst e1 e4
  rw [rdM_ok e2]
  clear e2 h hn
  have hx : SmM 100000 x ∧ (det3 x = 1 ∨ det3 x = -1) := hp
  clear hp
  obtain ⟨hx, hdx⟩ := hx
  have q' : ∀ env, P.rt (dM (bk x)) env := q
  clear q
  refine x_seq (x_asg F (evP_call hd (evPM_cons (evP_fz (i := 0) (d := dM x) rfl) rfl evPM_nil) (p := (.int (det3 x), SmM 190000 x)) rfl) ⟨⟨trivial, trivial⟩, hx.up (by omega)⟩ ?_)
  show evSs G _ [.fz (dM x), .fz (.int (det3 x)), .no, .no] _
  have e1 := evP_call (T := T) (f := "_law_adjugate") (l := .cons (.var 0) .nil) (env := [.fz (dM x), .fz (.int (det3 x)), .no, .no]) ha (evPM_cons (evP_fz (i := 0) (d := dM x) rfl) rfl evPM_nil) (p := (dM (adj1 x), SmM 400000 x)) rfl
  have hI : evPI T (.of (.call "_law_adjugate" (.cons (.var 0) .nil))) [.fz (dM x), .fz (.int (det3 x)), .no, .no] = some ([dR (adj1 x).1, dR (adj1 x).2.1, dR (adj1 x).2.2], (True ∧ True) ∧ SmM 400000 x) := by
    show ((evQ T _).1 _).bind _ = _
    rw [show (evQ T (.call "_law_adjugate" (.cons (.var 0) .nil))).1 [.fz (dM x), .fz (.int (det3 x)), .no, .no] = _ from e1]
    rfl
  have hl : lcF [2] (.name 2) (evPC T .nil) (evQ T (.bi .tuple (.cons (.lc (.name 3) (.of (.var 2)) .nil (.bin .mul (.var 1) (.var 3))) .nil))).1 [.fz (dM x), .fz (.int (det3 x)), .no, .no] [dR (adj1 x).1, dR (adj1 x).2.1, dR (adj1 x).2.2] = some ([dR (bk x).1, dR (bk x).2.1, dR (bk x).2.2], _) := rfl
  refine x_one (x_ret F (evP_bi1 (f := .tuple) (evP_lc hI rfl hl) rfl rfl) ?_ rfl (q' _))
  have hs : Sm 400000 (det3 x) := by rcases hdx with e | e <;> rw [e] <;> exact (show Sm 2 _ by unfold Sm; decide).up (by omega)
  obtain ⟨⟨h1, h2, h3⟩, ⟨h4, h5, h6⟩, h7, h8, h9⟩ := (sm_adj1 hx).up (show 100000 + 100000 + 1 ≤ 400000 by omega)
  simp only [true_and, and_true, and_self]
  refine ⟨hx.up (by omega), ?_⟩
  repeat' (first | exact hs.cm (by assumption) (by decide) | exact (show 3 ≤ sizeLine by decide) | apply And.intro)
/-! ### a step -/
def StepOk (S : M3) : Prop := (det3 S = 1 ∨ det3 S = -1) ∧ BdM 1 S
instance (S : M3) : Decidable (StepOk S) := by unfold StepOk BdM BdR; exact inferInstance
def aInt (a : Int) : List D := [.int a]
def rStep (_ : Int) (o : D ⊕ Str) : Prop := ∃ S, StepOk S ∧ o = .inl (dM S)
theorem o_step (F : FtOk G T) : ∀ a : Int, (0 ≤ a ∧ a < 1000) → evSs G b__law_step ((aInt a).map Sl.fz ++ List.replicate 4 .no) (valPo (fun d => rStep a (.inl d)) (fun c => rStep a (.inr c))) := by
  intro a ha
  have s3 : 3 ≤ sizeLine := by decide
  have hi : a % 3 = 0 ∨ a % 3 = 1 ∨ a % 3 = 2 := by omega
  have hb : a / 3 % 2 = 0 ∨ a / 3 % 2 = 1 := by omega
  have he : a / 24 % 2 = 0 ∨ a / 24 % 2 = 1 := by omega
  have hv : ∀ (x1 x2 x3 x4 : Sl), ∃ z : Int, (z = 1 ∨ z = -1) ∧ ∃ c, c ∧ evP T (.ix (.tup (.cons (.cst (.int 1)) (.cons (.neg (.cst (.int 1))) .nil))) (.bin .mod (.bin .fdiv (.var 0) (.cst (.int 24))) (.cst (.int 2)))) [.fz (.int a), x1, x2, x3, x4] = some (.d (.int z), c) := fun x1 x2 x3 x4 => by
    have e0 : ∃ c, c ∧ evP T (.bin .mod (.bin .fdiv (.var 0) (.cst (.int 24))) (.cst (.int 2))) [.fz (.int a), x1, x2, x3, x4] = some (.d (.int (a / 24 % 2)), c) := ⟨_, (by simp only [true_and, and_true]; decide), rfl⟩
    have et : ∃ c, c ∧ evP T (.tup (.cons (.cst (.int 1)) (.cons (.neg (.cst (.int 1))) .nil))) [.fz (.int a), x1, x2, x3, x4] = some (.d (.tup [.int 1, .int (-1)]), c) := ⟨_, (by simp only [true_and, and_true]; exact (show 2 ≤ sizeLine by decide)), rfl⟩
    obtain ⟨c, hc, e0⟩ := e0
    obtain ⟨c2, hc2, et⟩ := et
    rcases he with he | he <;> rw [he] at e0
    · exact ⟨1, .inl rfl, _, ⟨hc2, hc⟩, evP_ix et e0 rfl rfl rfl⟩
    · exact ⟨-1, .inr rfl, _, ⟨hc2, hc⟩, evP_ix et e0 rfl rfl rfl⟩
  refine x_seq (x_asg F (p := (.nw2 [[.int 1, .int 0, .int 0], [.int 0, .int 1, .int 0], [.int 0, .int 0, .int 1]], _)) rfl (by simp only [true_and, and_true]; and_intros <;> exact s3) ?_)
  refine x_seq (x_asg F (p := (.d (.int (a % 3)), _)) rfl (by simp only [true_and, and_true]; decide) ?_)
  refine x_seq (x_asg F (p := (.d (.int ((a % 3 + 1 + a / 3 % 2) % 3)), _)) rfl (by simp only [true_and, and_true]; decide) ?_)
  show evSs G _ [.fz (.int a), .own2 [[.int 1, .int 0, .int 0], [.int 0, .int 1, .int 0], [.int 0, .int 0, .int 1]], .fz (.int (a % 3)), .fz (.int ((a % 3 + 1 + a / 3 % 2) % 3)), .no] _
  have fin : ∀ (r1 r2 r3 : R3) (x2 x3 : Sl), StepOk (r1, r2, r3) → evSs G (.cons (.ret (.bi .tuple (.cons (.lc (.name 4) (.of (.var 1)) .nil (.bi .tuple (.cons (.var 4) .nil))) .nil))) .nil) [.fz (.int a), .own2 [[.int r1.1, .int r1.2.1, .int r1.2.2], [.int r2.1, .int r2.2.1, .int r2.2.2], [.int r3.1, .int r3.2.1, .int r3.2.2]], x2, x3, .no] (valPo (fun d => rStep a (.inl d)) (fun c => rStep a (.inr c))) := fun r1 r2 r3 x2 x3 h =>
    x_fz [1] (x_ret F (p := (.d (dM (r1, r2, r3)), _)) rfl (by simp only [true_and, and_true, and_self]; exact s3) rfl ⟨_, h, rfl⟩)
  rcases hi with hi | hi | hi <;> rcases hb with hb | hb <;> rw [hi, hb] <;> refine x_seq (x_ite F (p := (decide (a / 6 % 4 = 0), _)) rfl (by simp only [true_and, and_true]; decide) (fun _ => ?_) (fun _ => ?_))
  all_goals first
    | exact x_one (x_setIx2 F (i := 1) (p := (.d (.int (-1)), _)) rfl (by simp only [and_self]) rfl rfl rfl rfl rfl rfl rfl (fin (-1, 0, 0) (0, 1, 0) (0, 0, 1) _ _ (by decide)))
    | exact x_one (x_setIx2 F (i := 1) (p := (.d (.int (-1)), _)) rfl (by simp only [and_self]) rfl rfl rfl rfl rfl rfl rfl (fin (1, 0, 0) (0, -1, 0) (0, 0, 1) _ _ (by decide)))
    | exact x_one (x_setIx2 F (i := 1) (p := (.d (.int (-1)), _)) rfl (by simp only [and_self]) rfl rfl rfl rfl rfl rfl rfl (fin (1, 0, 0) (0, 1, 0) (0, 0, -1) _ _ (by decide)))
    | refine x_one (x_ite F (p := (decide (a / 6 % 4 = 1), _)) rfl (by simp only [true_and, and_true]; decide) (fun _ => ?_) (fun _ => ?_))
  all_goals first
    | exact x_one ⟨_, _, _, _, _, _, _, rfl, rfl, rfl, rfl, rfl, rfl, rfl, fin (0, 1, 0) (1, 0, 0) (0, 0, 1) _ _ (by decide)⟩
    | exact x_one ⟨_, _, _, _, _, _, _, rfl, rfl, rfl, rfl, rfl, rfl, rfl, fin (0, 0, 1) (0, 1, 0) (1, 0, 0) _ _ (by decide)⟩
    | exact x_one ⟨_, _, _, _, _, _, _, rfl, rfl, rfl, rfl, rfl, rfl, rfl, fin (1, 0, 0) (0, 0, 1) (0, 1, 0) _ _ (by decide)⟩
    | skip
  all_goals (
    obtain ⟨z, hz1, c, hc, ez⟩ := hv _ _ _ _
    first
    | exact x_one (x_setIx2 F (i := 1) (p := (.d (.int z), c)) ez hc rfl rfl rfl rfl rfl rfl rfl (fin (1, z, 0) (0, 1, 0) (0, 0, 1) _ _ (by rcases hz1 with rfl | rfl <;> decide)))
    | exact x_one (x_setIx2 F (i := 1) (p := (.d (.int z), c)) ez hc rfl rfl rfl rfl rfl rfl rfl (fin (1, 0, z) (0, 1, 0) (0, 0, 1) _ _ (by rcases hz1 with rfl | rfl <;> decide)))
    | exact x_one (x_setIx2 F (i := 1) (p := (.d (.int z), c)) ez hc rfl rfl rfl rfl rfl rfl rfl (fin (1, 0, 0) (0, 1, z) (0, 0, 1) _ _ (by rcases hz1 with rfl | rfl <;> decide)))
    | exact x_one (x_setIx2 F (i := 1) (p := (.d (.int z), c)) ez hc rfl rfl rfl rfl rfl rfl rfl (fin (1, 0, 0) (z, 1, 0) (0, 0, 1) _ _ (by rcases hz1 with rfl | rfl <;> decide)))
    | exact x_one (x_setIx2 F (i := 1) (p := (.d (.int z), c)) ez hc rfl rfl rfl rfl rfl rfl rfl (fin (1, 0, 0) (0, 1, 0) (z, 0, 1) _ _ (by rcases hz1 with rfl | rfl <;> decide)))
    | exact x_one (x_setIx2 F (i := 1) (p := (.d (.int z), c)) ez hc rfl rfl rfl rfl rfl rfl rfl (fin (1, 0, 0) (0, 1, 0) (0, z, 1) _ _ (by rcases hz1 with rfl | rfl <;> decide))))
/-! ### calls with values at hand -/
theorem callR_fu {n : Nat} {r : List D → Option (D × Prop)} {ds : List D} {p : D × Prop} {env : En} {Q : Ev → En → Prop} {Er : KE0} (hn : ds.length = n) (h : r ds = some p) (hc : p.2) (q : Q (.d p.1) env) : callR n (Fn.fu n r) (ds.map .inl) env Q Er :=
  ⟨by simp [hn], _, sls_vals env _ 0, by rw [refs_vals]; exact .nil, fu_run hn h hc (by rw [refs_vals]; exact ⟨env, rfl, q⟩)⟩
theorem callR_rl {α : Type} {arg : α → List D} {Pr : α → Prop} {R : α → D ⊕ Str → Prop} {n : Nat} {ds : List D} {env : En} {Q : Ev → En → Prop} {Er : KE0} (a : α) (ha : ds = arg a) (hn : ds.length = n) (hP : Pr a) (q : ∀ d, R a (.inl d) → Q (.d d) env) (qe : ∀ c, R a (.inr c) → Er c env) : callR n (Fn.rl arg Pr R) (ds.map .inl) env Q Er :=
  ⟨by simp [hn], _, sls_vals env _ 0, by rw [refs_vals]; exact .nil, a, by rw [ha], hP, fun d r => by rw [refs_vals]; exact ⟨env, rfl, q d r⟩, fun c r => by rw [refs_vals]; exact ⟨env, rfl, qe c r⟩⟩
/-! ### a product of steps -/
def ChOk (M : M3) : Prop := (det3 M = 1 ∨ det3 M = -1) ∧ BdM 729 M
theorem det_ok {A B : M3} (ha : det3 A = 1 ∨ det3 A = -1) (hb : det3 B = 1 ∨ det3 B = -1) : det3 (mm A B) = 1 ∨ det3 (mm A B) = -1 := by
  rw [det_mm]
  rcases ha with h | h <;> rcases hb with g | g <;> rw [h, g] <;> decide
theorem bd_dot {n : Int} {v w : R3} (hv : BdR n v) (hw : BdR 1 w) : -(n * 3) ≤ dot v w ∧ dot v w ≤ n * 3 := by
  obtain ⟨a, b, c⟩ := v
  obtain ⟨x, y, z⟩ := w
  obtain ⟨⟨a1, a2⟩, ⟨b1, b2⟩, c1, c2⟩ := hv
  obtain ⟨⟨x1, x2⟩, ⟨y1, y2⟩, z1, z2⟩ := hw
  dsimp only at *
  have g : ∀ {p q : Int}, -n ≤ p → p ≤ n → -1 ≤ q → q ≤ 1 → -n ≤ p * q ∧ p * q ≤ n := fun {p q} h1 h2 h3 h4 => by
    have : q = -1 ∨ q = 0 ∨ q = 1 := by omega
    rcases this with e | e | e <;> rw [e] <;> omega
  have g1 := g a1 a2 x1 x2
  have g2 := g b1 b2 y1 y2
  have g3 := g c1 c2 z1 z2
  simp only [dot]
  omega
theorem bd_tp {S : M3} (h : BdM 1 S) : BdM 1 (tp S) := ⟨⟨h.1.1, h.2.1.1, h.2.2.1⟩, ⟨h.1.2.1, h.2.1.2.1, h.2.2.2.1⟩, h.1.2.2, h.2.1.2.2, h.2.2.2.2⟩
theorem bd_mm1 {n : Int} {A S : M3} (ha : BdM n A) (hs : BdM 1 S) : BdM (n * 3) (mm A S) := by
  have t := bd_tp hs
  exact ⟨⟨bd_dot ha.1 t.1, bd_dot ha.1 t.2.1, bd_dot ha.1 t.2.2⟩, ⟨bd_dot ha.2.1 t.1, bd_dot ha.2.1 t.2.1, bd_dot ha.2.1 t.2.2⟩, bd_dot ha.2.2 t.1, bd_dot ha.2.2 t.2.1, bd_dot ha.2.2 t.2.2⟩
def fChange : Fn where
  run := fun sls Q E => ∃ (L : List Int) (t : Int), sls = [.fz (.lst (L.map D.int)), .own 1 [.int t], .fz (.int 6)] ∧ NumL L ∧ 0 ≤ t ∧ ∀ (M : M3) (t' : Int), ChOk M → 0 ≤ t' → Q (dM M) [[.int t']]
  mono := fun ⟨L, t, h1, h2, h3, h4⟩ q _ => ⟨L, t, h1, h2, h3, fun M t' a b => q _ _ (h4 M t' a b)⟩
theorem ok_change (F : FtOk G T) (hf : G.fns "_law_take" = some ([false, true], fTake)) (hm : G.fns "_law_mul" = some ([false, false], Fn.fu 2 cMm)) (hs : G.fns "_law_step" = some ([false], Fn.rl aInt (fun a => 0 ≤ a ∧ a < 1000) rStep)) : ∀ sls Q E, fChange.run sls Q E → (Fn.ofBody G 2 b__law_change).run sls Q E := by
  rintro sls Q E ⟨L, t, rfl, hL, ht, q⟩
  show evSs G b__law_change [.fz (.lst (L.map D.int)), .own 1 [.int t], .fz (.int 6), .no, .no] _
  refine x_seq (x_asg F (p := (.d (dM one3), _)) rfl (by simp only [true_and, and_true]; and_intros <;> exact (show 3 ≤ sizeLine by decide)) ?_)
  show evSs G _ [.fz (.lst (L.map D.int)), .own 1 [.int t], .fz (.int 6), .fz (dM one3), .no] _
  refine x_mid (fun env => ∃ M t x4, env = [.fz (.lst (L.map D.int)), .own 1 [.int t], .fz (.int 6), .fz (dM M), x4] ∧ ChOk M ∧ 0 ≤ t) ?_ ?_
  · show (ev G (.call "_law_take" (.cons (.var 0) (.cons (.var 1) .nil)))).1 _ _ _
    refine ev_take hf rfl rfl hL ht (fun n t' n0 n1 t0 => ?_)
    show (ev G (.bin .add (.var 2) (.cst (.int 1)))).1 [.fz (.lst (L.map D.int)), .own 1 [.int t'], .fz (.int 6), .fz (dM one3), .no] _ _
    refine (ps F (.bin .add (.var 2) (.cst (.int 1)))).v _ (.d (.int (6 + 1)), _) rfl (by simp only [and_self]) _ _ ?_
    refine ⟨n % (6 + 1), rfl, by omega, by omega, ?_⟩
    refine forL_inv (evSs_mono _) (k := 0) (fun j env => ∃ M t x4, env = [.fz (.lst (L.map D.int)), .own 1 [.int t], .fz (.int 6), .fz (dM M), x4] ∧ (det3 M = 1 ∨ det3 M = -1) ∧ BdM (3 ^ j) M ∧ 0 ≤ t) ⟨one3, t', _, rfl, by decide, ⟨⟨by decide, by decide, by decide⟩, ⟨by decide, by decide, by decide⟩, by decide, by decide, by decide⟩, t0⟩ (fun j d env hj hi => ?_) (fun env hi => ?_)
    · obtain ⟨M, t, x4, rfl, dM', bM, ht⟩ := hi
      obtain ⟨rfl, hj2⟩ := intsFrom_at hj
      have hj6 : j ≤ 5 := by omega
      rw [Nat.zero_add] at bM
      refine ⟨_, rfl, x_one ?_⟩
      show evS G _ [.fz (.lst (L.map D.int)), .own 1 [.int t], .fz (.int 6), .fz (dM M), .fz (.int (0 + (j : Int)))] _
      refine ⟨_, _, hm, ?_⟩
      refine ⟨_, _, hs, ?_⟩
      refine ev_take hf rfl rfl hL ht (fun n t' n0 n1 t0 => ?_)
      refine ⟨rfl, callR_rl (ds := [.int n]) n rfl rfl ⟨n0, n1⟩ (fun d hd => ?_) (fun c hc => ?_)⟩
      rotate_left
      · obtain ⟨_, _, e⟩ := hc; cases e
      obtain ⟨S, hS, e⟩ := hd
      cases e
      have s1 : SmM 400000 M := by
        have : (3 : Int) ^ j ≤ 3 ^ 5 := by
          have := Nat.pow_le_pow_right (show 0 < 3 by decide) hj6
          exact_mod_cast this
        exact (BdM.sm (n := 3 ^ j) (k := 10) bM (by omega)).up (by omega)
      have s2 : SmM 400000 S := (BdM.sm (k := 2) hS.2 (by decide)).up (by omega)
      refine ⟨rfl, callR_fu (ds := [dM M, dM S]) (p := (dM (mm M S), SmM 400000 M ∧ SmM 400000 S)) rfl rfl ⟨s1, s2⟩ ?_⟩
      refine ⟨mm M S, t', _, rfl, det_ok dM' hS.1, ?_, t0⟩
      have := bd_mm1 bM hS.2
      rw [← Int.pow_succ] at this
      rw [Nat.zero_add]
      exact this
    · obtain ⟨M, t, x4, rfl, dM', bM, ht⟩ := hi
      refine ⟨M, t, x4, rfl, ⟨dM', ?_⟩, ht⟩
      rw [intsFrom_len, Nat.zero_add] at bM
      have h6 : (n % (6 + 1)).toNat ≤ 6 := by omega
      have : (3 : Int) ^ (n % (6 + 1)).toNat ≤ 3 ^ 6 := by
        have := Nat.pow_le_pow_right (show 0 < 3 by decide) h6
        exact_mod_cast this
      have up : ∀ {a b : Int} {X : M3}, a ≤ b → BdM a X → BdM b X := fun h ⟨⟨⟨a1, a2⟩, ⟨a3, a4⟩, a5, a6⟩, ⟨⟨b1, b2⟩, ⟨b3, b4⟩, b5, b6⟩, ⟨c1, c2⟩, ⟨c3, c4⟩, c5, c6⟩ => ⟨⟨⟨by omega, by omega⟩, ⟨by omega, by omega⟩, by omega, by omega⟩, ⟨⟨by omega, by omega⟩, ⟨by omega, by omega⟩, by omega, by omega⟩, ⟨by omega, by omega⟩, ⟨by omega, by omega⟩, by omega, by omega⟩
      exact up (by omega) bM
  · rintro env ⟨M, t, x4, rfl, hM, ht⟩
    exact x_one (x_ret F (p := (.d (dM M), True)) rfl trivial rfl ⟨[[.int t]], rfl, q M t hM ht⟩)
/-- calls of it -/
theorem ev_change {env : En} {i0 i1 k : Nat} {L : List Int} {t : Int} {Q : Ev → En → Prop} {Er : KE0} (hf : G.fns "_law_change" = some ([false, true, false], fChange)) (h0 : env[i0]? = some (.fz (.lst (L.map D.int)))) (h1 : env[i1]? = some (.own k [.int t])) (hL : NumL L) (ht : 0 ≤ t)
    (q : ∀ (M : M3) (t' : Int), ChOk M → 0 ≤ t' → Q (.d (dM M)) (env.set i1 (.own k [.int t']))) : (ev G (.call "_law_change" (.cons (.var i0) (.cons (.var i1) (.cons (.cst (.int 6)) .nil))))).1 env Q Er := by
  refine ⟨_, _, hf, ?_⟩
  show (match env[i0]? with | some (.fz d) => _ | some (.own _ _) => _ | some (.own2 _) => _ | _ => False)
  rw [h0]
  show (match env[i1]? with | some (.fz d) => _ | some (.own _ _) => _ | some (.own2 _) => _ | _ => False)
  rw [h1]
  refine ⟨i1, rfl, rfl, ?_⟩
  refine ⟨rfl, [.fz (.lst (L.map D.int)), .own 1 [.int t], .fz (.int 6)], ?_, by simp [refs], L, t, rfl, hL, ht, fun M t' a b => ⟨env.set i1 (.own k [.int t']), ?_, q M t' a b⟩⟩
  · show (slsOf env 0 [.inr i1, .inl (.int 6)]).map _ = _
    simp only [slsOf, h1, Option.map_some]
  · show putOuts env [i1] [[.int t']] = _
    simp only [putOuts, h1]
/-! ### the order -/
theorem evPI_rg2 {a b : E} {env : En} {i j : Int} {ca cb : Prop} (h1 : evP T a env = some (.d (.int i), ca)) (h2 : evP T b env = some (.d (.int j), cb)) : evPI T (.rng2 a b) env = some (PF.intsFrom i (j - i).toNat, ca ∧ cb ∧ (-(2 ^ 62) ≤ i ∧ i < 2 ^ 62 ∧ -(2 ^ 62) ≤ j ∧ j < 2 ^ 62)) := by
  show ((evP T a env).bind _) = _
  rw [h1]
  show ((evP T b env).bind _) = _
  rw [h2]; rfl

def rOrd (m : M3) (o : D ⊕ Str) : Prop := o = if det3 m = 1 ∨ det3 m = -1 then .inl (ordD m 6) else .inr "BadMatrix"
theorem ordD_stay {M : M3} {i : Int} : ∀ {n k : Nat}, ordD M n = .int i → ordD M (n + k) = .int i
  | n, 0, h => h
  | n, k + 1, h => by
    have ih := ordD_stay (k := k) h
    exact (if_neg (fun z => by have z1 : isNon (ordD M (n + k)) = true := z.1; rw [ih] at z1; cases z1)).trans ih
theorem o_order (F : FtOk G T) (hd : T.fn "determinant_of" = some (fun ds => if ds.length = 1 then cDet ds else none)) (hp : T.fn "matrix_product" = some (fun ds => if ds.length = 2 then cMm ds else none)) (hu : T.cst "UNITS" = some (dM one3)) (ho : T.cst "MOST_ORDER" = some (.int 6)) (he : G.exc "BadMatrix" = true) : ∀ a : M3, SmM 1000 a → evSs G b_order_of ((aM a).map Sl.fz ++ List.replicate 2 .no) (valPo (fun d => rOrd a (.inl d)) (fun c => rOrd a (.inr c))) := by
  intro m sm
  have s2 : 2 ≤ sizeLine := by decide
  have ed := pv_true (evP_call (T := T) (f := "determinant_of") (l := .cons (.var 0) .nil) (env := [.fz (dM m), .no, .no]) hd (evPM_cons (evP_fz (i := 0) (d := dM m) rfl) rfl evPM_nil) (p := (.int (det3 m), SmM 190000 m)) rfl) ⟨⟨trivial, trivial⟩, sm.up (by omega)⟩
  have ec := pv_true (evPT_cmp (op := .nin) ed (b := .tup (.cons (.cst (.int 1)) (.cons (.neg (.cst (.int 1))) .nil))) (vb := .d (.tup [.int 1, .int (-1)])) (y := .tup [.int 1, .int (-1)]) (r := !([1, -1] : List Int).any fun z => z == det3 m) (c := True) rfl rfl rfl rfl) (by simp only [true_and, and_true]; exact s2)
  refine x_seq (x_ite F ec trivial (fun hb => x_one (x_rai he ?_)) (fun hb => x_done ?_))
  · have hb' : (!([1, -1] : List Int).any fun z => z == det3 m) = true := hb
    show rOrd m _
    unfold rOrd
    rw [if_neg]
    rintro (h | h) <;> rw [h] at hb' <;> exact absurd hb' (by decide)
  have hdet : det3 m = 1 ∨ det3 m = -1 := by
    have hb' : (!([1, -1] : List Int).any fun z => z == det3 m) = false := hb
    simp only [List.any_cons, List.any_nil, Bool.or_false, Bool.not_eq_false', Bool.or_eq_true, beq_iff_eq] at hb'
    omega
  clear ed ec hb
  have fin : ∀ d, d = ordD m 6 → rOrd m (.inl d) := fun d h => by unfold rOrd; rw [if_pos hdet, h]
  refine x_seq (x_asg F (p := (.d (dM m), True)) (evP_fz rfl) trivial ?_)
  show evSs G _ [.fz (dM m), .fz (dM m), .no] _
  have e1 : pw m 1 = m := mmO m
  have em : evP T (.bin .add (.glob "MOST_ORDER") (.cst (.int 1))) [.fz (dM m), .fz (dM m), .no] = some (.d (.int (6 + 1)), True) := pv_true (evP_bin (op := .add) (evP_glob ho) (b := .cst (.int 1)) (vb := .d (.int 1)) (cb := True) rfl rfl rfl rfl) (by simp only [and_self])
  have hI := evPI_rg2 (T := T) (a := .cst (.int 1)) (env := [.fz (dM m), .fz (dM m), .no]) (i := 1) (ca := True) rfl em
  refine x_seq (x_forI F hI ⟨trivial, trivial, by decide⟩ (fun j env => ∃ x2, env = [.fz (dM m), .fz (dM (pw m (j + 1))), x2] ∧ isNon (ordD m j) = true) ⟨_, by rw [e1], rfl⟩ ?_ ?_)
  · rintro j d env hj ⟨x2, rfl, hn⟩
    obtain ⟨rfl, hj2⟩ := intsFrom_at hj
    have hj6 : j < 6 := by
      have : ((6 : Int) + 1 - 1).toNat = 6 := rfl
      omega
    refine ⟨_, rfl, ?_⟩
    show evSs G _ [.fz (dM m), .fz (dM (pw m (j + 1))), .fz (.int (1 + (j : Int)))] _
    have c1 := pv_true (evPT_cmp (T := T) (op := .eq) (env := [.fz (dM m), .fz (dM (pw m (j + 1))), .fz (.int (1 + (j : Int)))]) (evP_fz (i := 1) (d := dM (pw m (j + 1))) rfl) (evP_glob hu) (x := dM (pw m (j + 1))) (y := dM one3) rfl rfl rfl) ⟨⟨trivial, trivial, rfl, rfl⟩, trivial⟩
    rw [eqD_M] at c1
    refine x_seq (x_ite F c1 trivial (fun hb => ?_) (fun hb => x_done ?_))
    · have hb' : pw m (j + 1) = one3 := of_decide_eq_true hb
      refine x_one (x_ret F (p := (.d (.int (1 + (j : Int))), True)) (evP_fz rfl) trivial rfl (fin _ ?_))
      have a1 : ordD m (j + 1) = .int ((j + 1 : Nat) : Int) := by
        show (if _ then _ else _) = _
        rw [if_pos ⟨hn, hb'⟩]
      have a2 := ordD_stay (k := 5 - j) a1
      rw [show j + 1 + (5 - j) = 6 by omega] at a2
      rw [a2]
      congr 1
      push_cast
      omega
    · have hb' : ¬ pw m (j + 1) = one3 := of_decide_eq_false hb
      have c2 := pv_true (evP_call (T := T) (f := "matrix_product") (l := .cons (.var 0) (.cons (.var 1) .nil)) (env := [.fz (dM m), .fz (dM (pw m (j + 1))), .fz (.int (1 + (j : Int)))]) hp (evPM_cons (evP_fz (i := 0) (d := dM m) rfl) rfl (evPM_cons (evP_fz (i := 1) (d := dM (pw m (j + 1))) rfl) rfl evPM_nil)) (p := (dM (mm m (pw m (j + 1))), SmM 400000 m ∧ SmM 400000 (pw m (j + 1)))) rfl) ⟨⟨trivial, trivial, trivial⟩, sm.up (by omega), (sm_pw sm (j + 1)).up (by
        have : (1000 + 2) * (j + 1) ≤ (1000 + 2) * 6 := Nat.mul_le_mul_left _ (by omega)
        omega)⟩
      refine x_one (x_asg F c2 trivial ⟨_, rfl, ?_⟩)
      show isNon (if _ then _ else ordD m j) = true
      rw [if_neg (fun z => hb' z.2)]
      exact hn
  · rintro env ⟨x2, rfl, hn⟩
    have hl : (PF.intsFrom 1 ((6 : Int) + 1 - 1).toNat).length = 6 := rfl
    have hn' : isNon (ordD m 6) = true := hn
    refine x_one (x_ret F (p := (.d .non, True)) rfl trivial rfl (fin _ ?_))
    rcases ordD_kind m 6 with h | ⟨i, h⟩
    · exact h.symm
    · rw [h] at hn'; cases hn'
/-! ### what the law is told -/
def toldV (m : M3) : D := if det3 m = 1 ∨ det3 m = -1 then ordD m 6 else .tup [.str "bad", .bl true]
def cTold : List D → Option (D × Prop)
  | [a] => (rdM a).map fun m => (toldV m, SmM 1000 m)
  | _ => none
theorem o_told (F : FtOk G T) (ho : G.fns "order_of" = some (List.replicate 1 false, Fn.rl aM (SmM 1000) rOrd)) (he : G.exc "BadMatrix" = true) (hc : G.exc "ConeroomError" = true) (hs : G.sub "BadMatrix" "BadMatrix" = true) (hs2 : G.sub "BadMatrix" "ConeroomError" = true) : ∀ ds p, ds.length = 1 → cTold ds = some p → p.2 → ∀ P : Po, (∀ env, P.rt p.1 env) → evSs G b__law_told (ds.map Sl.fz ++ List.replicate 1 .no) P := by
  intro ds p hn h hp P q
  obtain ⟨a, x, e1, e2, e4⟩ := c1_by (f := rdM) (k := fun m => (toldV m, SmM 1000 m)) (fun a => rfl) hn h
  subst e1 e4
  rw [rdM_ok e2]
  clear e2 h hn
  have sx : SmM 1000 x := hp
  clear hp
  have q' : ∀ env, P.rt (toldV x) env := q
  clear q
  unfold toldV at q'
  refine x_one ⟨he, ?_⟩
  refine x_one (x_retR F ho (p := ([dM x], True ∧ True)) rfl ⟨trivial, trivial⟩ x rfl rfl sx (fun d hd => ?_) (fun c hc' => ?_))
  · have hd' : Sum.inl d = if det3 x = 1 ∨ det3 x = -1 then (.inl (ordD x 6) : D ⊕ Str) else .inr "BadMatrix" := hd
    by_cases hx : det3 x = 1 ∨ det3 x = -1
    · rw [if_pos hx] at hd'
      cases hd'
      have := q' [.fz (dM x), .no]
      rw [if_pos hx] at this
      exact this
    · rw [if_neg hx] at hd'; cases hd'
  · have hd' : Sum.inr c = if det3 x = 1 ∨ det3 x = -1 then (.inl (ordD x 6) : D ⊕ Str) else .inr "BadMatrix" := hc'
    by_cases hx : det3 x = 1 ∨ det3 x = -1
    · rw [if_pos hx] at hd'; cases hd'
    · rw [if_neg hx] at hd'
      cases hd'
      refine ⟨he, fun i hi => by cases hi; exact (by decide : 1 < 2), ?_⟩
      rw [if_pos hs]
      refine ⟨.tup [.str "bad", .bl (true && true)], ⟨.str "bad", .bl (true && true), rfl, ⟨true, true, ?_, ?_, rfl⟩, rfl⟩, ?_⟩
      · unfold evX
        rw [if_neg (by decide)]
        exact ⟨hc, by rw [hs2]⟩
      · unfold evX
        rw [if_pos rfl]
      · have := q' (clrN (some 1) [.fz (dM x), .no])
        rw [if_neg hx] at this
        exact this
end K51

set_option Elab.async false
set_option linter.all false
set_option maxRecDepth 100000
set_option maxHeartbeats 4000000

namespace K51
open PySem PySem.Spec PyProof.Rows L2 PF
def subT (c C : Str) : Bool := ([("BadMatrix", "BadMatrix"), ("BadMatrix", "ConeroomError"), ("ConeroomError", "ConeroomError")] : List (Str × Str)).contains (c, C)
def exT : List Str := ["BadMatrix", "ConeroomError"]
def Gz : Tb := Tb.zero false exT subT
def Gc_UNITS : Tb := Gz.addC "UNITS" (dM CM.one3)
def Gc_MOST_ORDER : Tb := Gc_UNITS.addC "MOST_ORDER" (.int 6)
def G0 : Tb := Gc_MOST_ORDER
def T0 : Ft := Ft.ofs ⟨[], [("UNITS", dM CM.one3), ("MOST_ORDER", .int 6)], [], [], []⟩
theorem f0 : FtOk G0 T0 := ftOk_ofs (fun _ h => nomatch h) (List.forall_mem_cons.mpr ⟨rfl, List.forall_mem_cons.mpr ⟨rfl, fun _ h => nomatch h⟩⟩) (fun _ h => nomatch h) (fun _ h => nomatch h) (fun _ h => nomatch h)
def F_transposed : Fn := Fn.fu 1 cTp
theorem ok_transposed : ∀ sls Q E, F_transposed.run sls Q E → (Fn.ofBody G0 (n_transposed.length - 1) b_transposed).run sls Q E := fu_ok (CM.o_transposed f0)
def G1 : Tb := G0.add "transposed" [false] F_transposed
def T1 : Ft := Ft.ofs ⟨[("transposed", 1, cTp)], [("UNITS", dM CM.one3), ("MOST_ORDER", .int 6)], [], [], []⟩
theorem f1 : FtOk G1 T1 := ftOk_ofs (List.forall_mem_cons.mpr ⟨⟨_, rfl, fuOf_fu⟩, fun _ h => nomatch h⟩) (List.forall_mem_cons.mpr ⟨rfl, List.forall_mem_cons.mpr ⟨rfl, fun _ h => nomatch h⟩⟩) (fun _ h => nomatch h) (fun _ h => nomatch h) (fun _ h => nomatch h)
def F_matrix_product : Fn := Fn.fu 2 cMm
theorem ok_matrix_product : ∀ sls Q E, F_matrix_product.run sls Q E → (Fn.ofBody G1 (n_matrix_product.length - 2) b_matrix_product).run sls Q E := fu_ok (CM.o_matrix_product f1 rfl)
def G2 : Tb := G1.add "matrix_product" [false, false] F_matrix_product
def T2 : Ft := Ft.ofs ⟨[("transposed", 1, cTp), ("matrix_product", 2, cMm)], [("UNITS", dM CM.one3), ("MOST_ORDER", .int 6)], [], [], []⟩
theorem f2 : FtOk G2 T2 := ftOk_ofs (List.forall_mem_cons.mpr ⟨⟨_, rfl, fuOf_fu⟩, List.forall_mem_cons.mpr ⟨⟨_, rfl, fuOf_fu⟩, fun _ h => nomatch h⟩⟩) (List.forall_mem_cons.mpr ⟨rfl, List.forall_mem_cons.mpr ⟨rfl, fun _ h => nomatch h⟩⟩) (fun _ h => nomatch h) (fun _ h => nomatch h) (fun _ h => nomatch h)
def F_cross : Fn := Fn.fu 2 cCr
theorem ok_cross : ∀ sls Q E, F_cross.run sls Q E → (Fn.ofBody G2 (n_cross.length - 2) b_cross).run sls Q E := fu_ok (CM.o_cross f2)
def G3 : Tb := G2.add "cross" [false, false] F_cross
def T3 : Ft := Ft.ofs ⟨[("transposed", 1, cTp), ("matrix_product", 2, cMm), ("cross", 2, cCr)], [("UNITS", dM CM.one3), ("MOST_ORDER", .int 6)], [], [], []⟩
theorem f3 : FtOk G3 T3 := ftOk_ofs (List.forall_mem_cons.mpr ⟨⟨_, rfl, fuOf_fu⟩, List.forall_mem_cons.mpr ⟨⟨_, rfl, fuOf_fu⟩, List.forall_mem_cons.mpr ⟨⟨_, rfl, fuOf_fu⟩, fun _ h => nomatch h⟩⟩⟩) (List.forall_mem_cons.mpr ⟨rfl, List.forall_mem_cons.mpr ⟨rfl, fun _ h => nomatch h⟩⟩) (fun _ h => nomatch h) (fun _ h => nomatch h) (fun _ h => nomatch h)
def F_determinant_of : Fn := Fn.fu 1 cDet
theorem ok_determinant_of : ∀ sls Q E, F_determinant_of.run sls Q E → (Fn.ofBody G3 (n_determinant_of.length - 1) b_determinant_of).run sls Q E := fu_ok (CM.o_determinant_of f3 rfl)
def G4 : Tb := G3.add "determinant_of" [false] F_determinant_of
def T4 : Ft := Ft.ofs ⟨[("transposed", 1, cTp), ("matrix_product", 2, cMm), ("cross", 2, cCr), ("determinant_of", 1, cDet)], [("UNITS", dM CM.one3), ("MOST_ORDER", .int 6)], [], [], []⟩
theorem f4 : FtOk G4 T4 := ftOk_ofs (List.forall_mem_cons.mpr ⟨⟨_, rfl, fuOf_fu⟩, List.forall_mem_cons.mpr ⟨⟨_, rfl, fuOf_fu⟩, List.forall_mem_cons.mpr ⟨⟨_, rfl, fuOf_fu⟩, List.forall_mem_cons.mpr ⟨⟨_, rfl, fuOf_fu⟩, fun _ h => nomatch h⟩⟩⟩⟩) (List.forall_mem_cons.mpr ⟨rfl, List.forall_mem_cons.mpr ⟨rfl, fun _ h => nomatch h⟩⟩) (fun _ h => nomatch h) (fun _ h => nomatch h) (fun _ h => nomatch h)
def F_order_of : Fn := Fn.rl CM.aM (SmM 1000) rOrd
theorem ok_order_of : ∀ sls Q E, F_order_of.run sls Q E → (Fn.ofBody G4 (n_order_of.length - 1) b_order_of).run sls Q E := rl_ok (o_order f4 rfl rfl rfl rfl rfl)
def G5 : Tb := G4.add "order_of" [false] F_order_of
def T5 : Ft := Ft.ofs ⟨[("transposed", 1, cTp), ("matrix_product", 2, cMm), ("cross", 2, cCr), ("determinant_of", 1, cDet)], [("UNITS", dM CM.one3), ("MOST_ORDER", .int 6)], [], [], []⟩
theorem f5 : FtOk G5 T5 := ftOk_ofs (List.forall_mem_cons.mpr ⟨⟨_, rfl, fuOf_fu⟩, List.forall_mem_cons.mpr ⟨⟨_, rfl, fuOf_fu⟩, List.forall_mem_cons.mpr ⟨⟨_, rfl, fuOf_fu⟩, List.forall_mem_cons.mpr ⟨⟨_, rfl, fuOf_fu⟩, fun _ h => nomatch h⟩⟩⟩⟩) (List.forall_mem_cons.mpr ⟨rfl, List.forall_mem_cons.mpr ⟨rfl, fun _ h => nomatch h⟩⟩) (fun _ h => nomatch h) (fun _ h => nomatch h) (fun _ h => nomatch h)
def F__law_numbers : Fn := Fn.rl CM.aDraws (fun a => a.1.length ≤ 63 ∧ a.2 = 40) rNum
theorem ok__law_numbers : ∀ sls Q E, F__law_numbers.run sls Q E → (Fn.ofBody G5 (n__law_numbers.length - 2) b__law_numbers).run sls Q E := rl_ok (o_numbers f5)
def G6 : Tb := G5.add "_law_numbers" [false, false] F__law_numbers
def T6 : Ft := Ft.ofs ⟨[("transposed", 1, cTp), ("matrix_product", 2, cMm), ("cross", 2, cCr), ("determinant_of", 1, cDet)], [("UNITS", dM CM.one3), ("MOST_ORDER", .int 6)], [], [], []⟩
theorem f6 : FtOk G6 T6 := ftOk_ofs (List.forall_mem_cons.mpr ⟨⟨_, rfl, fuOf_fu⟩, List.forall_mem_cons.mpr ⟨⟨_, rfl, fuOf_fu⟩, List.forall_mem_cons.mpr ⟨⟨_, rfl, fuOf_fu⟩, List.forall_mem_cons.mpr ⟨⟨_, rfl, fuOf_fu⟩, fun _ h => nomatch h⟩⟩⟩⟩) (List.forall_mem_cons.mpr ⟨rfl, List.forall_mem_cons.mpr ⟨rfl, fun _ h => nomatch h⟩⟩) (fun _ h => nomatch h) (fun _ h => nomatch h) (fun _ h => nomatch h)
def F__law_take : Fn := fTake
theorem ok__law_take : ∀ sls Q E, F__law_take.run sls Q E → (Fn.ofBody G6 (n__law_take.length - 2) b__law_take).run sls Q E := ok_take f6
def G7 : Tb := G6.add "_law_take" [false, true] F__law_take
def T7 : Ft := Ft.ofs ⟨[("transposed", 1, cTp), ("matrix_product", 2, cMm), ("cross", 2, cCr), ("determinant_of", 1, cDet)], [("UNITS", dM CM.one3), ("MOST_ORDER", .int 6)], [], [], []⟩
theorem f7 : FtOk G7 T7 := ftOk_ofs (List.forall_mem_cons.mpr ⟨⟨_, rfl, fuOf_fu⟩, List.forall_mem_cons.mpr ⟨⟨_, rfl, fuOf_fu⟩, List.forall_mem_cons.mpr ⟨⟨_, rfl, fuOf_fu⟩, List.forall_mem_cons.mpr ⟨⟨_, rfl, fuOf_fu⟩, fun _ h => nomatch h⟩⟩⟩⟩) (List.forall_mem_cons.mpr ⟨rfl, List.forall_mem_cons.mpr ⟨rfl, fun _ h => nomatch h⟩⟩) (fun _ h => nomatch h) (fun _ h => nomatch h) (fun _ h => nomatch h)
def F__law_same : Fn := Fn.fu 2 cSame
theorem ok__law_same : ∀ sls Q E, F__law_same.run sls Q E → (Fn.ofBody G7 (n__law_same.length - 2) b__law_same).run sls Q E := fu_ok (o_same f7)
def G8 : Tb := G7.add "_law_same" [false, false] F__law_same
def T8 : Ft := Ft.ofs ⟨[("transposed", 1, cTp), ("matrix_product", 2, cMm), ("cross", 2, cCr), ("determinant_of", 1, cDet), ("_law_same", 2, cSame)], [("UNITS", dM CM.one3), ("MOST_ORDER", .int 6)], [], [], []⟩
theorem f8 : FtOk G8 T8 := ftOk_ofs (List.forall_mem_cons.mpr ⟨⟨_, rfl, fuOf_fu⟩, List.forall_mem_cons.mpr ⟨⟨_, rfl, fuOf_fu⟩, List.forall_mem_cons.mpr ⟨⟨_, rfl, fuOf_fu⟩, List.forall_mem_cons.mpr ⟨⟨_, rfl, fuOf_fu⟩, List.forall_mem_cons.mpr ⟨⟨_, rfl, fuOf_fu⟩, fun _ h => nomatch h⟩⟩⟩⟩⟩) (List.forall_mem_cons.mpr ⟨rfl, List.forall_mem_cons.mpr ⟨rfl, fun _ h => nomatch h⟩⟩) (fun _ h => nomatch h) (fun _ h => nomatch h) (fun _ h => nomatch h)
def F__law_mul : Fn := Fn.fu 2 cMm
theorem ok__law_mul : ∀ sls Q E, F__law_mul.run sls Q E → (Fn.ofBody G8 (n__law_mul.length - 2) b__law_mul).run sls Q E := fu_ok (o_mul f8)
def G9 : Tb := G8.add "_law_mul" [false, false] F__law_mul
def T9 : Ft := Ft.ofs ⟨[("transposed", 1, cTp), ("matrix_product", 2, cMm), ("cross", 2, cCr), ("determinant_of", 1, cDet), ("_law_same", 2, cSame), ("_law_mul", 2, cMm)], [("UNITS", dM CM.one3), ("MOST_ORDER", .int 6)], [], [], []⟩
theorem f9 : FtOk G9 T9 := ftOk_ofs (List.forall_mem_cons.mpr ⟨⟨_, rfl, fuOf_fu⟩, List.forall_mem_cons.mpr ⟨⟨_, rfl, fuOf_fu⟩, List.forall_mem_cons.mpr ⟨⟨_, rfl, fuOf_fu⟩, List.forall_mem_cons.mpr ⟨⟨_, rfl, fuOf_fu⟩, List.forall_mem_cons.mpr ⟨⟨_, rfl, fuOf_fu⟩, List.forall_mem_cons.mpr ⟨⟨_, rfl, fuOf_fu⟩, fun _ h => nomatch h⟩⟩⟩⟩⟩⟩) (List.forall_mem_cons.mpr ⟨rfl, List.forall_mem_cons.mpr ⟨rfl, fun _ h => nomatch h⟩⟩) (fun _ h => nomatch h) (fun _ h => nomatch h) (fun _ h => nomatch h)
def F__law_det : Fn := Fn.fu 1 cDet
theorem ok__law_det : ∀ sls Q E, F__law_det.run sls Q E → (Fn.ofBody G9 (n__law_det.length - 1) b__law_det).run sls Q E := fu_ok (CM.o__law_det f9)
def G10 : Tb := G9.add "_law_det" [false] F__law_det
def T10 : Ft := Ft.ofs ⟨[("transposed", 1, cTp), ("matrix_product", 2, cMm), ("cross", 2, cCr), ("determinant_of", 1, cDet), ("_law_same", 2, cSame), ("_law_mul", 2, cMm), ("_law_det", 1, cDet)], [("UNITS", dM CM.one3), ("MOST_ORDER", .int 6)], [], [], []⟩
theorem f10 : FtOk G10 T10 := ftOk_ofs (List.forall_mem_cons.mpr ⟨⟨_, rfl, fuOf_fu⟩, List.forall_mem_cons.mpr ⟨⟨_, rfl, fuOf_fu⟩, List.forall_mem_cons.mpr ⟨⟨_, rfl, fuOf_fu⟩, List.forall_mem_cons.mpr ⟨⟨_, rfl, fuOf_fu⟩, List.forall_mem_cons.mpr ⟨⟨_, rfl, fuOf_fu⟩, List.forall_mem_cons.mpr ⟨⟨_, rfl, fuOf_fu⟩, List.forall_mem_cons.mpr ⟨⟨_, rfl, fuOf_fu⟩, fun _ h => nomatch h⟩⟩⟩⟩⟩⟩⟩) (List.forall_mem_cons.mpr ⟨rfl, List.forall_mem_cons.mpr ⟨rfl, fun _ h => nomatch h⟩⟩) (fun _ h => nomatch h) (fun _ h => nomatch h) (fun _ h => nomatch h)
def F__law_adjugate : Fn := Fn.fu 1 cAdj1
theorem ok__law_adjugate : ∀ sls Q E, F__law_adjugate.run sls Q E → (Fn.ofBody G10 (n__law_adjugate.length - 1) b__law_adjugate).run sls Q E := fu_ok (o_adj1 f10)
def G11 : Tb := G10.add "_law_adjugate" [false] F__law_adjugate
def T11 : Ft := Ft.ofs ⟨[("transposed", 1, cTp), ("matrix_product", 2, cMm), ("cross", 2, cCr), ("determinant_of", 1, cDet), ("_law_same", 2, cSame), ("_law_mul", 2, cMm), ("_law_det", 1, cDet), ("_law_adjugate", 1, cAdj1)], [("UNITS", dM CM.one3), ("MOST_ORDER", .int 6)], [], [], []⟩
theorem f11 : FtOk G11 T11 := ftOk_ofs (List.forall_mem_cons.mpr ⟨⟨_, rfl, fuOf_fu⟩, List.forall_mem_cons.mpr ⟨⟨_, rfl, fuOf_fu⟩, List.forall_mem_cons.mpr ⟨⟨_, rfl, fuOf_fu⟩, List.forall_mem_cons.mpr ⟨⟨_, rfl, fuOf_fu⟩, List.forall_mem_cons.mpr ⟨⟨_, rfl, fuOf_fu⟩, List.forall_mem_cons.mpr ⟨⟨_, rfl, fuOf_fu⟩, List.forall_mem_cons.mpr ⟨⟨_, rfl, fuOf_fu⟩, List.forall_mem_cons.mpr ⟨⟨_, rfl, fuOf_fu⟩, fun _ h => nomatch h⟩⟩⟩⟩⟩⟩⟩⟩) (List.forall_mem_cons.mpr ⟨rfl, List.forall_mem_cons.mpr ⟨rfl, fun _ h => nomatch h⟩⟩) (fun _ h => nomatch h) (fun _ h => nomatch h) (fun _ h => nomatch h)
def F__law_back : Fn := Fn.fu 1 cBack
theorem ok__law_back : ∀ sls Q E, F__law_back.run sls Q E → (Fn.ofBody G11 (n__law_back.length - 1) b__law_back).run sls Q E := fu_ok (o_back f11 rfl rfl)
def G12 : Tb := G11.add "_law_back" [false] F__law_back
def T12 : Ft := Ft.ofs ⟨[("transposed", 1, cTp), ("matrix_product", 2, cMm), ("cross", 2, cCr), ("determinant_of", 1, cDet), ("_law_same", 2, cSame), ("_law_mul", 2, cMm), ("_law_det", 1, cDet), ("_law_adjugate", 1, cAdj1), ("_law_back", 1, cBack)], [("UNITS", dM CM.one3), ("MOST_ORDER", .int 6)], [], [], []⟩
theorem f12 : FtOk G12 T12 := ftOk_ofs (List.forall_mem_cons.mpr ⟨⟨_, rfl, fuOf_fu⟩, List.forall_mem_cons.mpr ⟨⟨_, rfl, fuOf_fu⟩, List.forall_mem_cons.mpr ⟨⟨_, rfl, fuOf_fu⟩, List.forall_mem_cons.mpr ⟨⟨_, rfl, fuOf_fu⟩, List.forall_mem_cons.mpr ⟨⟨_, rfl, fuOf_fu⟩, List.forall_mem_cons.mpr ⟨⟨_, rfl, fuOf_fu⟩, List.forall_mem_cons.mpr ⟨⟨_, rfl, fuOf_fu⟩, List.forall_mem_cons.mpr ⟨⟨_, rfl, fuOf_fu⟩, List.forall_mem_cons.mpr ⟨⟨_, rfl, fuOf_fu⟩, fun _ h => nomatch h⟩⟩⟩⟩⟩⟩⟩⟩⟩) (List.forall_mem_cons.mpr ⟨rfl, List.forall_mem_cons.mpr ⟨rfl, fun _ h => nomatch h⟩⟩) (fun _ h => nomatch h) (fun _ h => nomatch h) (fun _ h => nomatch h)
def F__law_step : Fn := Fn.rl aInt (fun a => 0 ≤ a ∧ a < 1000) rStep
theorem ok__law_step : ∀ sls Q E, F__law_step.run sls Q E → (Fn.ofBody G12 (n__law_step.length - 1) b__law_step).run sls Q E := rl_ok (o_step f12)
def G13 : Tb := G12.add "_law_step" [false] F__law_step
def T13 : Ft := Ft.ofs ⟨[("transposed", 1, cTp), ("matrix_product", 2, cMm), ("cross", 2, cCr), ("determinant_of", 1, cDet), ("_law_same", 2, cSame), ("_law_mul", 2, cMm), ("_law_det", 1, cDet), ("_law_adjugate", 1, cAdj1), ("_law_back", 1, cBack)], [("UNITS", dM CM.one3), ("MOST_ORDER", .int 6)], [], [], []⟩
theorem f13 : FtOk G13 T13 := ftOk_ofs (List.forall_mem_cons.mpr ⟨⟨_, rfl, fuOf_fu⟩, List.forall_mem_cons.mpr ⟨⟨_, rfl, fuOf_fu⟩, List.forall_mem_cons.mpr ⟨⟨_, rfl, fuOf_fu⟩, List.forall_mem_cons.mpr ⟨⟨_, rfl, fuOf_fu⟩, List.forall_mem_cons.mpr ⟨⟨_, rfl, fuOf_fu⟩, List.forall_mem_cons.mpr ⟨⟨_, rfl, fuOf_fu⟩, List.forall_mem_cons.mpr ⟨⟨_, rfl, fuOf_fu⟩, List.forall_mem_cons.mpr ⟨⟨_, rfl, fuOf_fu⟩, List.forall_mem_cons.mpr ⟨⟨_, rfl, fuOf_fu⟩, fun _ h => nomatch h⟩⟩⟩⟩⟩⟩⟩⟩⟩) (List.forall_mem_cons.mpr ⟨rfl, List.forall_mem_cons.mpr ⟨rfl, fun _ h => nomatch h⟩⟩) (fun _ h => nomatch h) (fun _ h => nomatch h) (fun _ h => nomatch h)
def F__law_change : Fn := fChange
theorem ok__law_change : ∀ sls Q E, F__law_change.run sls Q E → (Fn.ofBody G13 (n__law_change.length - 3) b__law_change).run sls Q E := ok_change f13 rfl rfl rfl
def G14 : Tb := G13.add "_law_change" [false, true, false] F__law_change
def T14 : Ft := Ft.ofs ⟨[("transposed", 1, cTp), ("matrix_product", 2, cMm), ("cross", 2, cCr), ("determinant_of", 1, cDet), ("_law_same", 2, cSame), ("_law_mul", 2, cMm), ("_law_det", 1, cDet), ("_law_adjugate", 1, cAdj1), ("_law_back", 1, cBack)], [("UNITS", dM CM.one3), ("MOST_ORDER", .int 6)], [], [], []⟩
theorem f14 : FtOk G14 T14 := ftOk_ofs (List.forall_mem_cons.mpr ⟨⟨_, rfl, fuOf_fu⟩, List.forall_mem_cons.mpr ⟨⟨_, rfl, fuOf_fu⟩, List.forall_mem_cons.mpr ⟨⟨_, rfl, fuOf_fu⟩, List.forall_mem_cons.mpr ⟨⟨_, rfl, fuOf_fu⟩, List.forall_mem_cons.mpr ⟨⟨_, rfl, fuOf_fu⟩, List.forall_mem_cons.mpr ⟨⟨_, rfl, fuOf_fu⟩, List.forall_mem_cons.mpr ⟨⟨_, rfl, fuOf_fu⟩, List.forall_mem_cons.mpr ⟨⟨_, rfl, fuOf_fu⟩, List.forall_mem_cons.mpr ⟨⟨_, rfl, fuOf_fu⟩, fun _ h => nomatch h⟩⟩⟩⟩⟩⟩⟩⟩⟩) (List.forall_mem_cons.mpr ⟨rfl, List.forall_mem_cons.mpr ⟨rfl, fun _ h => nomatch h⟩⟩) (fun _ h => nomatch h) (fun _ h => nomatch h) (fun _ h => nomatch h)
def F__law_told : Fn := Fn.fu 1 cTold
theorem ok__law_told : ∀ sls Q E, F__law_told.run sls Q E → (Fn.ofBody G14 (n__law_told.length - 1) b__law_told).run sls Q E := fu_ok (o_told f14 rfl rfl rfl rfl rfl)
def G15 : Tb := G14.add "_law_told" [false] F__law_told
def T15 : Ft := Ft.ofs ⟨[("transposed", 1, cTp), ("matrix_product", 2, cMm), ("cross", 2, cCr), ("determinant_of", 1, cDet), ("_law_same", 2, cSame), ("_law_mul", 2, cMm), ("_law_det", 1, cDet), ("_law_adjugate", 1, cAdj1), ("_law_back", 1, cBack), ("_law_told", 1, cTold)], [("UNITS", dM CM.one3), ("MOST_ORDER", .int 6)], [], [], []⟩
theorem f15 : FtOk G15 T15 := ftOk_ofs (List.forall_mem_cons.mpr ⟨⟨_, rfl, fuOf_fu⟩, List.forall_mem_cons.mpr ⟨⟨_, rfl, fuOf_fu⟩, List.forall_mem_cons.mpr ⟨⟨_, rfl, fuOf_fu⟩, List.forall_mem_cons.mpr ⟨⟨_, rfl, fuOf_fu⟩, List.forall_mem_cons.mpr ⟨⟨_, rfl, fuOf_fu⟩, List.forall_mem_cons.mpr ⟨⟨_, rfl, fuOf_fu⟩, List.forall_mem_cons.mpr ⟨⟨_, rfl, fuOf_fu⟩, List.forall_mem_cons.mpr ⟨⟨_, rfl, fuOf_fu⟩, List.forall_mem_cons.mpr ⟨⟨_, rfl, fuOf_fu⟩, List.forall_mem_cons.mpr ⟨⟨_, rfl, fuOf_fu⟩, fun _ h => nomatch h⟩⟩⟩⟩⟩⟩⟩⟩⟩⟩) (List.forall_mem_cons.mpr ⟨rfl, List.forall_mem_cons.mpr ⟨rfl, fun _ h => nomatch h⟩⟩) (fun _ h => nomatch h) (fun _ h => nomatch h) (fun _ h => nomatch h)
abbrev G : Tb := G15
abbrev T : Ft := T15
theorem f : FtOk G T := f15
end K51

set_option Elab.async false
set_option linter.all false
set_option maxRecDepth 100000
set_option maxHeartbeats 1000000
namespace K51
open PySem PySem.Spec PyProof.Rows L2 PF CM
theorem ev_bin {G : Tb} {op : Bop} {a b : E} {env : En} {Q : Ev → En → Prop} {Er : KE0} : (ev G (.bin op a b)).1 env Q Er = (ev G a).1 env (fun ea env1 => (ev G b).1 env1 (fun eb env2 => peekW env2 ea fun x => peekW env2 eb fun y => opBin op x y fun e => Q e env2) Er) Er := rfl
def MENU : List M3 := [((0, 0, 1), (1, 0, 0), (0, 1, 0)), ((0, -1, 0), (1, 0, 0), (0, 0, 1)), ((1, -1, 0), (1, 0, 0), (0, 0, 1)),
  ((-1, 0, 0), (0, -1, 0), (0, 0, 1)), ((0, -1, 0), (1, 0, 0), (0, 0, -1)), ((1, -1, 0), (1, 0, 0), (0, 0, -1)), ((1, 1, 0), (0, 1, 0), (0, 0, 1)), ((-1, 1, 0), (0, -1, 0), (0, 0, 1))]
theorem menu_at (n : Int) : ∃ S : M3, atI (MENU.map dM) (n % 8) = some (dM S) ∧ StepOk S := by
  have h : n % 8 = 0 ∨ n % 8 = 1 ∨ n % 8 = 2 ∨ n % 8 = 3 ∨ n % 8 = 4 ∨ n % 8 = 5 ∨ n % 8 = 6 ∨ n % 8 = 7 := by omega
  rcases h with h | h | h | h | h | h | h | h <;> rw [h] <;> exact ⟨_, rfl, by decide⟩
theorem told_bad {W : M3} (h : ¬ (det3 W = 1 ∨ det3 W = -1)) : toldV W = .tup [.str "bad", .bl true] := if_neg h
theorem pw_mm (M : M3) (n : Nat) : mm (pw M n) M = pw M (n + 1) := by
  rw [pw_add]
  congr 1
  exact (mmO M).symm
theorem p_law : ∀ ns : List Int, ns.length ≤ 63 → (Fn.ofBody G (n_law.length - (["script"] : List Str).length) b_law).run [.fz (.klst (ns.map D.int))] (fun d _ => d = .bl true) (fun _ _ => False) := by
  intro ns hns
  refine law_ok ?_
  have s2 : 2 ≤ sizeLine := by decide
  have s3 : 3 ≤ sizeLine := by decide
  refine x_seq (x_asgR f (α := List Int × Nat) (n := 2) rfl rfl ⟨trivial, trivial, trivial⟩ (ns, 40) rfl rfl ⟨hns, rfl⟩ ?_ (fun c ⟨_, _, hc⟩ => by cases hc))
  rintro d ⟨L, hL, hd⟩
  cases hd
  show evSs G _ [.fz (.klst (ns.map D.int)), .fz (.lst (L.map D.int)), .no, .no, .no, .no, .no, .no, .no, .no, .no, .no, .no, .no] _
  refine x_seq (x_asg f (p := (.nw [.int 0], _)) rfl (by simp only [true_and, and_true]; decide) ?_)
  refine x_seq (x_asg f (p := (.nw (MENU.map dM), _)) rfl (by
    simp only [true_and, and_true]
    repeat' (first | exact s3 | exact (show 8 ≤ sizeLine by decide) | apply And.intro)) ?_)
  show evSs G _ [.fz (.klst (ns.map D.int)), .fz (.lst (L.map D.int)), .own 0 [.int 0], .own 0 (MENU.map dM), .no, .no, .no, .no, .no, .no, .no, .no, .no, .no] _
  have htk : G.fns "_law_take" = some ([false, true], fTake) := rfl
  have hmu : G.fns "_law_mul" = some ([false, false], Fn.fu 2 cMm) := rfl
  have hbk : G.fns "_law_back" = some ([false], Fn.fu 1 cBack) := rfl
  have sto : ∀ (W : M3) (e : En) (i : Nat), SmM 1000 W → e[i]? = some (.fz (dM W)) → evP T (.call "_law_told" (.cons (.var i) .nil)) e = some (.d (toldV W), True) := fun W e i h1 h2 =>
    pv_true (evP_call (T := T) (f := "_law_told") (l := .cons (.var i) .nil) rfl (evPM_cons (evP_fz (i := i) (d := dM W) h2) rfl evPM_nil) (p := (toldV W, SmM 1000 W)) rfl) ⟨⟨trivial, trivial⟩, h1⟩
  refine x_seq (x_forI f rfl (by simp only [true_and]; exact ⟨by decide, by decide⟩) (fun _ env => ∃ t x4 x5 x6 x7 x8 x9 x10 x11, 0 ≤ t ∧ env = [.fz (.klst (ns.map D.int)), .fz (.lst (L.map D.int)), .own 0 [.int t], .own 0 (MENU.map dM), x4, x5, x6, x7, x8, x9, x10, x11, .no, .no]) ⟨0, _, _, _, _, _, _, _, _, by decide, rfl⟩ ?_ ?_)
  · rintro k d env hk ⟨t, x4, x5, x6, x7, x8, x9, x10, x11, ht, rfl⟩
    obtain ⟨rfl, _⟩ := intsFrom_at hk
    refine ⟨_, rfl, ?_⟩
    show evSs G _ [.fz (.klst (ns.map D.int)), .fz (.lst (L.map D.int)), .own 0 [.int t], .own 0 (MENU.map dM), .fz (.int (0 + (k : Int))), x5, x6, x7, x8, x9, x10, x11, .no, .no] _
    refine x_seq (ev_change (i0 := 1) (i1 := 2) (k := 0) rfl rfl rfl hL ht fun M t hM ht => ?_)
    obtain ⟨dM', bM⟩ := hM
    have sM : SmM 10 M := bM.sm (by decide)
    show evSs G _ [.fz (.klst (ns.map D.int)), .fz (.lst (L.map D.int)), .own 0 [.int t], .own 0 (MENU.map dM), .fz (.int (0 + (k : Int))), .fz (dM M), x6, x7, x8, x9, x10, x11, .no, .no] _
    refine x_seq (x_asg f (p := (.d (dM M), True)) (evP_fz rfl) trivial ?_)
    show evSs G _ [.fz (.klst (ns.map D.int)), .fz (.lst (L.map D.int)), .own 0 [.int t], .own 0 (MENU.map dM), .fz (.int (0 + (k : Int))), .fz (dM M), .fz (dM M), x7, x8, x9, x10, x11, .no, .no] _
    refine x_mid (fun env => ∃ t, 0 ≤ t ∧ ∃ N : M3, (det3 N = 1 ∨ det3 N = -1) ∧ SmM 60 N ∧ env = [.fz (.klst (ns.map D.int)), .fz (.lst (L.map D.int)), .own 0 [.int t], .own 0 (MENU.map dM), .fz (.int (0 + (k : Int))), .fz (dM M), .fz (dM N), x7, x8, x9, x10, x11, .no, .no]) ?_ ?_
    · refine x_ite f rfl (by simp only [and_self]) (fun _ => ?_) (fun _ => x_done ⟨t, ht, M, dM', sM.up (by omega), rfl⟩)
      refine x_one ?_
      refine ⟨_, _, hmu, ?_⟩
      refine ⟨_, _, hmu, ?_⟩
      refine ev_take (i0 := 1) (i1 := 2) (k := 0) htk rfl rfl hL ht (fun n t n0 n1 ht => ?_)
      obtain ⟨S, hS, dS⟩ := menu_at n
      refine ⟨dM S, hS, rfl, ?_⟩
      have sS : SmM 2 S := dS.2.sm (by decide)
      refine callR_fu (ds := [dM M, dM S]) (p := (dM (mm M S), SmM 400000 M ∧ SmM 400000 S)) rfl rfl ⟨sM.up (by omega), sS.up (by omega)⟩ ?_
      have s1 : SmM 14 (mm M S) := (sm_mm2 sM sS).up (by omega)
      refine ⟨_, _, hbk, ?_⟩
      refine ⟨rfl, callR_fu (ds := [dM M]) (p := (dM (bk M), SmM 100000 M ∧ (det3 M = 1 ∨ det3 M = -1))) rfl rfl ⟨sM.up (by omega), dM'⟩ ?_⟩
      have s4 : SmM 21 (bk M) := sm_bk dM' sM
      refine ⟨rfl, callR_fu (ds := [dM (mm M S), dM (bk M)]) (p := (dM (mm (mm M S) (bk M)), SmM 400000 (mm M S) ∧ SmM 400000 (bk M))) rfl rfl ⟨s1.up (by omega), s4.up (by omega)⟩ ?_⟩
      exact ⟨t, ht, _, det_ok (det_ok dM' dS.1) (det_bk dM'), (sm_mm2 s1 s4).up (by omega), rfl⟩
    rintro env ⟨t, ht, N, dN, sN, rfl⟩
    refine x_seq (x_asg f (p := (.d .non, True)) rfl trivial ?_)
    refine x_seq (x_asg f (p := (.d (dM N), True)) (evP_fz rfl) trivial ?_)
    have sP : ∀ j, j ≤ 13 → SmM 400000 (pw N j) := fun j hj => (sm_pw sN j).up (by
      have : (60 + 2) * j ≤ (60 + 2) * 13 := Nat.mul_le_mul_left _ hj
      omega)
    refine x_seq (x_forI f rfl (by simp only [true_and]; exact ⟨by decide, by decide, by decide, by decide⟩) (fun j env => ∃ x9, env = [.fz (.klst (ns.map D.int)), .fz (.lst (L.map D.int)), .own 0 [.int t], .own 0 (MENU.map dM), .fz (.int (0 + (k : Int))), .fz (dM M), .fz (dM N), .fz (ordD N j), .fz (dM (pw N (j + 1))), x9, x10, x11, .no, .no]) ⟨_, by rw [show pw N (0 + 1) = N from mmO N]; rfl⟩ ?_ ?_)
    · rintro j d env hj ⟨x9, rfl⟩
      obtain ⟨rfl, hj2⟩ := intsFrom_at hj
      have hj12 : j < 12 := by
        have : ((13 : Int) - 1).toNat = 12 := rfl
        omega
      refine ⟨_, rfl, ?_⟩
      show evSs G _ [.fz (.klst (ns.map D.int)), .fz (.lst (L.map D.int)), .own 0 [.int t], .own 0 (MENU.map dM), .fz (.int (0 + (k : Int))), .fz (dM M), .fz (dM N), .fz (ordD N j), .fz (dM (pw N (j + 1))), .fz (.int (1 + (j : Int))), x10, x11, .no, .no] _
      have c1 := pv_true (evPT_cmp (T := T) (op := .isN) (env := [.fz (.klst (ns.map D.int)), .fz (.lst (L.map D.int)), .own 0 [.int t], .own 0 (MENU.map dM), .fz (.int (0 + (k : Int))), .fz (dM M), .fz (dM N), .fz (ordD N j), .fz (dM (pw N (j + 1))), .fz (.int (1 + (j : Int))), x10, x11, .no, .no]) (evP_fz (i := 7) (d := ordD N j) rfl) (b := .cst .non) (vb := .d .non) (cb := True) rfl rfl rfl (r := isNon (ordD N j)) (c := True) (by rcases ordD_kind N j with h | ⟨i, h⟩ <;> rw [h] <;> rfl)) ⟨⟨trivial, trivial, trivial⟩, trivial⟩
      have eo : evP T (.tup (.cons (.tup (.cons (.cst (.int 1)) (.cons (.cst (.int 0)) (.cons (.cst (.int 0)) .nil)))) (.cons (.tup (.cons (.cst (.int 0)) (.cons (.cst (.int 1)) (.cons (.cst (.int 0)) .nil)))) (.cons (.tup (.cons (.cst (.int 0)) (.cons (.cst (.int 0)) (.cons (.cst (.int 1)) .nil)))) .nil)))) [.fz (.klst (ns.map D.int)), .fz (.lst (L.map D.int)), .own 0 [.int t], .own 0 (MENU.map dM), .fz (.int (0 + (k : Int))), .fz (dM M), .fz (dM N), .fz (ordD N j), .fz (dM (pw N (j + 1))), .fz (.int (1 + (j : Int))), x10, x11, .no, .no] = some (.d (dM one3), True) := pv_true (v := Ev.d (dM one3)) rfl (by simp only [true_and, and_true]; and_intros <;> exact s3)
      have c2 := pv_true (evPT_cmp (T := T) (op := .eq) (evP_fz (i := 8) (d := dM (pw N (j + 1))) rfl) eo (x := dM (pw N (j + 1))) (y := dM one3) rfl rfl rfl) ⟨⟨trivial, trivial, rfl, rfl⟩, trivial⟩
      rw [eqD_M] at c2
      refine x_mid (fun env => env = [.fz (.klst (ns.map D.int)), .fz (.lst (L.map D.int)), .own 0 [.int t], .own 0 (MENU.map dM), .fz (.int (0 + (k : Int))), .fz (dM M), .fz (dM N), .fz (ordD N (j + 1)), .fz (dM (pw N (j + 1))), .fz (.int (1 + (j : Int))), x10, x11, .no, .no]) ?_ ?_
      · refine x_ite f (evPT_band (evPA_c c1 (evPA_1 c2))) ⟨trivial, fun _ => trivial⟩ (fun hb => ?_) (fun hb => x_done ?_)
        · have hb' : (isNon (ordD N j) && decide (pw N (j + 1) = one3)) = true := hb
          rw [Bool.and_eq_true, decide_eq_true_eq] at hb'
          have e1 : ordD N (j + 1) = .int (1 + (j : Int)) := by
            refine (if_pos hb').trans ?_
            congr 1
            push_cast
            omega
          rw [e1]
          exact x_one (x_asg f (p := (.d (.int (1 + (j : Int))), True)) (evP_fz rfl) trivial rfl)
        · have hb' : (isNon (ordD N j) && decide (pw N (j + 1) = one3)) = false := hb
          have e1 : ordD N (j + 1) = ordD N j := if_neg (fun z => by
            rw [z.1, decide_eq_true z.2] at hb'
            cases hb')
          rw [e1]
      · rintro env rfl
        have c3 := pv_true (evP_call (T := T) (f := "_law_mul") (l := .cons (.var 8) (.cons (.var 6) .nil)) (env := [.fz (.klst (ns.map D.int)), .fz (.lst (L.map D.int)), .own 0 [.int t], .own 0 (MENU.map dM), .fz (.int (0 + (k : Int))), .fz (dM M), .fz (dM N), .fz (ordD N (j + 1)), .fz (dM (pw N (j + 1))), .fz (.int (1 + (j : Int))), x10, x11, .no, .no]) rfl (evPM_cons (evP_fz (i := 8) (d := dM (pw N (j + 1))) rfl) rfl (evPM_cons (evP_fz (i := 6) (d := dM N) rfl) rfl evPM_nil)) (p := (dM (mm (pw N (j + 1)) N), SmM 400000 (pw N (j + 1)) ∧ SmM 400000 N)) rfl) ⟨⟨trivial, trivial, trivial⟩, sP _ (by omega), sN.up (by omega)⟩
        rw [pw_mm] at c3
        exact x_one (x_asg f c3 trivial ⟨_, rfl⟩)
    rintro env ⟨x9, rfl⟩
    show evSs G _ [.fz (.klst (ns.map D.int)), .fz (.lst (L.map D.int)), .own 0 [.int t], .own 0 (MENU.map dM), .fz (.int (0 + (k : Int))), .fz (dM M), .fz (dM N), .fz (ordD N 12), .fz (dM (pw N 13)), x9, x10, x11, .no, .no] _
    have eT : toldV N = ordD N 12 := by rw [ord_12_6 dN]; exact if_pos dN
    have t1 := sto N [.fz (.klst (ns.map D.int)), .fz (.lst (L.map D.int)), .own 0 [.int t], .own 0 (MENU.map dM), .fz (.int (0 + (k : Int))), .fz (dM M), .fz (dM N), .fz (ordD N 12), .fz (dM (pw N 13)), x9, x10, x11, .no, .no] 6 (sN.up (by omega)) rfl
    rw [eT] at t1
    have hcs : cSame [ordD N 12, ordD N 12] = some (.bl true, True) := by
      rcases ordD_kind N 12 with h | ⟨i, h⟩ <;> rw [h]
      · rfl
      · show some (D.bl (decide (i = i)), True) = _
        rw [decide_eq_true rfl]
    have t2 := pv_true (evP_call (T := T) (f := "_law_same") (l := .cons (.call "_law_told" (.cons (.var 6) .nil)) (.cons (.var 7) .nil)) rfl (evPM_cons t1 rfl (evPM_cons (evP_fz (i := 7) (d := ordD N 12) rfl) rfl evPM_nil)) (p := (.bl true, True)) hcs) ⟨⟨trivial, trivial, trivial⟩, trivial⟩
    have t3 := pv_true (evPT_bnot (evPT_of (T := T) rfl t2 rfl (b := true) (cb := True) rfl)) ⟨trivial, trivial⟩
    refine x_seq (x_ite f t3 trivial (fun hb => Bool.noConfusion hb) (fun _ => x_done ?_))
    clear t1 t2 t3
    refine x_seq (ev_take (i0 := 1) (i1 := 2) (k := 0) htk rfl rfl hL ht (fun n t n0 n1 ht => ?_))
    show evSs G _ [.fz (.klst (ns.map D.int)), .fz (.lst (L.map D.int)), .own 0 [.int t], .own 0 (MENU.map dM), .fz (.int (0 + (k : Int))), .fz (dM M), .fz (dM N), .fz (ordD N 12), .fz (dM (pw N 13)), x9, .fz (.int n), x11, .no, .no] _
    obtain ⟨⟨n1', n2, n3⟩, ⟨n4, n5, n6⟩, n7, n8, n9⟩ := N
    obtain ⟨⟨q1, q2, q3⟩, ⟨q4, q5, q6⟩, q7, q8, q9⟩ := sN
    dsimp only at q1 q2 q3 q4 q5 q6 q7 q8 q9
    have h22 : Sm 2 2 := by unfold Sm; decide
    have sN : SmM 60 ((n1', n2, n3), (n4, n5, n6), n7, n8, n9) := ⟨⟨q1, q2, q3⟩, ⟨q4, q5, q6⟩, q7, q8, q9⟩
    have w1 : evP T (.bi .tuple (.cons (.lc (.name 12) (.of (.var 6)) .nil (.bi .tuple (.cons (.lc (.name 13) (.of (.var 12)) .nil (.bin .mul (.cst (.int 2)) (.var 13))) .nil))) .nil)) [.fz (.klst (ns.map D.int)), .fz (.lst (L.map D.int)), .own 0 [.int t], .own 0 (MENU.map dM), .fz (.int (0 + (k : Int))), .fz (dM M), .fz (dM ((n1', n2, n3), (n4, n5, n6), n7, n8, n9)), .fz (ordD ((n1', n2, n3), (n4, n5, n6), n7, n8, n9) 12), .fz (dM (pw ((n1', n2, n3), (n4, n5, n6), n7, n8, n9) 13)), x9, .fz (.int n), x11, .no, .no] = some (.d (dM (sm3 2 ((n1', n2, n3), (n4, n5, n6), n7, n8, n9))), True) := by
      refine pv_true (v := Ev.d (dM (sm3 2 ((n1', n2, n3), (n4, n5, n6), n7, n8, n9)))) rfl ?_
      simp only [true_and, and_true, and_self]
      repeat' (first | exact h22.cm (by assumption) (by decide) | exact s3 | apply And.intro)
    have w2 : evP T (.bin .add (.sl (.var 6) .none (.some (.cst (.int 2)))) (.tup (.cons (.ix (.var 6) (.cst (.int 0))) .nil))) [.fz (.klst (ns.map D.int)), .fz (.lst (L.map D.int)), .own 0 [.int t], .own 0 (MENU.map dM), .fz (.int (0 + (k : Int))), .fz (dM M), .fz (dM ((n1', n2, n3), (n4, n5, n6), n7, n8, n9)), .fz (ordD ((n1', n2, n3), (n4, n5, n6), n7, n8, n9) 12), .fz (dM (pw ((n1', n2, n3), (n4, n5, n6), n7, n8, n9) 13)), x9, .fz (.int n), x11, .no, .no] = some (.d (dM ((n1', n2, n3), (n4, n5, n6), n1', n2, n3)), True) := by
      refine pv_true (v := Ev.d (dM ((n1', n2, n3), (n4, n5, n6), n1', n2, n3))) rfl ?_
      simp only [true_and, and_true, and_self]
      repeat' (first | exact s3 | exact (show 1 ≤ sizeLine by decide) | apply And.intro)
    have w3 : evP T (.tup (.cons (.tup (.cons (.cst (.int 0)) (.cons (.cst (.int 0)) (.cons (.cst (.int 0)) .nil)))) .nil)) [.fz (.klst (ns.map D.int)), .fz (.lst (L.map D.int)), .own 0 [.int t], .own 0 (MENU.map dM), .fz (.int (0 + (k : Int))), .fz (dM M), .fz (dM ((n1', n2, n3), (n4, n5, n6), n7, n8, n9)), .fz (ordD ((n1', n2, n3), (n4, n5, n6), n7, n8, n9) 12), .fz (dM (pw ((n1', n2, n3), (n4, n5, n6), n7, n8, n9) 13)), x9, .fz (.int n), x11, .no, .no] = some (.d (.tup [.tup [.int 0, .int 0, .int 0]]), True) := by
      refine pv_true (v := Ev.d (.tup [.tup [.int 0, .int 0, .int 0]])) rfl ?_
      simp only [true_and, and_true, and_self]
      repeat' (first | exact s3 | exact (show 1 ≤ sizeLine by decide) | apply And.intro)
    have b1 : ¬ (det3 (sm3 2 ((n1', n2, n3), (n4, n5, n6), n7, n8, n9)) = 1 ∨ det3 (sm3 2 ((n1', n2, n3), (n4, n5, n6), n7, n8, n9)) = -1) := by
      have : det3 (sm3 2 ((n1', n2, n3), (n4, n5, n6), n7, n8, n9)) = 8 * det3 ((n1', n2, n3), (n4, n5, n6), n7, n8, n9) := by
        simp only [sm3, det3, cr, dot]
        grind
      omega
    have b2 : ¬ (det3 ((n1', n2, n3), (n4, n5, n6), n1', n2, n3) = 1 ∨ det3 ((n1', n2, n3), (n4, n5, n6), n1', n2, n3) = -1) := by
      have : det3 ((n1', n2, n3), (n4, n5, n6), n1', n2, n3) = 0 := by
        simp only [det3, cr, dot]
        grind
      omega
    have b3 : ¬ (det3 zer3 = 1 ∨ det3 zer3 = -1) := by decide
    have hw : ∃ W : M3, ¬ (det3 W = 1 ∨ det3 W = -1) ∧ SmM 1000 W ∧ atI [dM (sm3 2 ((n1', n2, n3), (n4, n5, n6), n7, n8, n9)), dM ((n1', n2, n3), (n4, n5, n6), n1', n2, n3), dM zer3] (n % 3) = some (dM W) := by
      have h3 : n % 3 = 0 ∨ n % 3 = 1 ∨ n % 3 = 2 := by omega
      rcases h3 with h | h | h <;> rw [h]
      · exact ⟨_, b1, ⟨⟨(h22.mul q1).up (by omega), (h22.mul q2).up (by omega), (h22.mul q3).up (by omega)⟩, ⟨(h22.mul q4).up (by omega), (h22.mul q5).up (by omega), (h22.mul q6).up (by omega)⟩, (h22.mul q7).up (by omega), (h22.mul q8).up (by omega), (h22.mul q9).up (by omega)⟩, rfl⟩
      · exact ⟨_, b2, ⟨sN.1.up (by omega), sN.2.1.up (by omega), sN.1.up (by omega)⟩, rfl⟩
      · have z : Sm 1000 0 := by unfold Sm; exact Nat.pow_pos (by decide)
        exact ⟨_, b3, ⟨⟨z, z, z⟩, ⟨z, z, z⟩, z, z, z⟩, rfl⟩
    obtain ⟨W, dW, sW, hix⟩ := hw
    have w4 : evP T (.bin .mod (.var 10) (.cst (.int 3))) [.fz (.klst (ns.map D.int)), .fz (.lst (L.map D.int)), .own 0 [.int t], .own 0 (MENU.map dM), .fz (.int (0 + (k : Int))), .fz (dM M), .fz (dM ((n1', n2, n3), (n4, n5, n6), n7, n8, n9)), .fz (ordD ((n1', n2, n3), (n4, n5, n6), n7, n8, n9) 12), .fz (dM (pw ((n1', n2, n3), (n4, n5, n6), n7, n8, n9) 13)), x9, .fz (.int n), x11, .no, .no] = some (.d (.int (n % 3)), True) := pv_true rfl (by simp only [true_and, and_true]; decide)
    refine x_seq ?_
    refine (ps f (.bi .tuple (.cons (.lc (.name 12) (.of (.var 6)) .nil (.bi .tuple (.cons (.lc (.name 13) (.of (.var 12)) .nil (.bin .mul (.cst (.int 2)) (.var 13))) .nil))) .nil))).v _ _ w1 trivial _ _ ?_
    show (ev G (.bin .add (.sl (.var 6) .none (.some (.cst (.int 2)))) (.tup (.cons (.ix (.var 6) (.cst (.int 0))) .nil)))).1 [.fz (.klst (ns.map D.int)), .fz (.lst (L.map D.int)), .own 0 [.int t], .own 0 (MENU.map dM), .fz (.int (0 + (k : Int))), .fz (dM M), .fz (dM ((n1', n2, n3), (n4, n5, n6), n7, n8, n9)), .fz (ordD ((n1', n2, n3), (n4, n5, n6), n7, n8, n9) 12), .fz (dM (pw ((n1', n2, n3), (n4, n5, n6), n7, n8, n9) 13)), x9, .fz (.int n), x11, .no, .no] _ _
    refine (ps f (.bin .add (.sl (.var 6) .none (.some (.cst (.int 2)))) (.tup (.cons (.ix (.var 6) (.cst (.int 0))) .nil)))).v _ _ w2 trivial _ _ ?_
    show (ev G (.bin .mul (.tup (.cons (.tup (.cons (.cst (.int 0)) (.cons (.cst (.int 0)) (.cons (.cst (.int 0)) .nil)))) .nil)) (.cst (.int 3)))).1 [.fz (.klst (ns.map D.int)), .fz (.lst (L.map D.int)), .own 0 [.int t], .own 0 (MENU.map dM), .fz (.int (0 + (k : Int))), .fz (dM M), .fz (dM ((n1', n2, n3), (n4, n5, n6), n7, n8, n9)), .fz (ordD ((n1', n2, n3), (n4, n5, n6), n7, n8, n9) 12), .fz (dM (pw ((n1', n2, n3), (n4, n5, n6), n7, n8, n9) 13)), x9, .fz (.int n), x11, .no, .no] _ _
    rw [ev_bin]
    refine (ps f (.tup (.cons (.tup (.cons (.cst (.int 0)) (.cons (.cst (.int 0)) (.cons (.cst (.int 0)) .nil)))) .nil))).v _ _ w3 trivial _ _ ?_
    refine ⟨List.cons_ne_nil _ _, by decide, by decide, by decide, ?_⟩
    refine ⟨s3, ?_⟩
    show (ev G (.bin .mod (.var 10) (.cst (.int 3)))).1 [.fz (.klst (ns.map D.int)), .fz (.lst (L.map D.int)), .own 0 [.int t], .own 0 (MENU.map dM), .fz (.int (0 + (k : Int))), .fz (dM M), .fz (dM ((n1', n2, n3), (n4, n5, n6), n7, n8, n9)), .fz (ordD ((n1', n2, n3), (n4, n5, n6), n7, n8, n9) 12), .fz (dM (pw ((n1', n2, n3), (n4, n5, n6), n7, n8, n9) 13)), x9, .fz (.int n), x11, .no, .no] _ _
    refine (ps f (.bin .mod (.var 10) (.cst (.int 3)))).v _ _ w4 trivial _ _ ?_
    refine ⟨dM W, hix, ?_⟩
    clear w1 w2 w3 w4 hix b1 b2 b3
    show evSs G _ [.fz (.klst (ns.map D.int)), .fz (.lst (L.map D.int)), .own 0 [.int t], .own 0 (MENU.map dM), .fz (.int (0 + (k : Int))), .fz (dM M), .fz (dM ((n1', n2, n3), (n4, n5, n6), n7, n8, n9)), .fz (ordD ((n1', n2, n3), (n4, n5, n6), n7, n8, n9) 12), .fz (dM (pw ((n1', n2, n3), (n4, n5, n6), n7, n8, n9) 13)), x9, .fz (.int n), .fz (dM W), .no, .no] _
    have t1 := sto W [.fz (.klst (ns.map D.int)), .fz (.lst (L.map D.int)), .own 0 [.int t], .own 0 (MENU.map dM), .fz (.int (0 + (k : Int))), .fz (dM M), .fz (dM ((n1', n2, n3), (n4, n5, n6), n7, n8, n9)), .fz (ordD ((n1', n2, n3), (n4, n5, n6), n7, n8, n9) 12), .fz (dM (pw ((n1', n2, n3), (n4, n5, n6), n7, n8, n9) 13)), x9, .fz (.int n), .fz (dM W), .no, .no] 11 sW rfl
    rw [told_bad dW] at t1
    have t2 := pv_true (evPT_cmp (T := T) (op := .ne) t1 (b := (.tup (.cons (.cst (.str "bad")) (.cons (.cst (.bl true)) .nil)))) (vb := .d (.tup [.str "bad", .bl true])) (x := .tup [.str "bad", .bl true]) (y := .tup [.str "bad", .bl true]) (r := false) (c := shp (.tup [.str "bad", .bl true]) = true ∧ shp (.tup [.str "bad", .bl true]) = true) rfl rfl rfl rfl) ⟨⟨trivial, (by simp only [true_and, and_true]; exact s2), (by decide +kernel), (by decide +kernel)⟩, trivial⟩
    exact x_one (x_ite f t2 trivial (fun hb => Bool.noConfusion hb) (fun _ => x_done ⟨t, _, _, _, _, _, _, _, _, ht, rfl⟩))
  rintro env ⟨t, x4, x5, x6, x7, x8, x9, x10, x11, ht, rfl⟩
  have so : SmM 1000 one3 := sm_one3 998
  have sn : SmM 1000 ((-1, 0, 0), (0, -1, 0), (0, 0, -1)) := by
    have z : Sm 1000 0 := by unfold Sm; exact Nat.pow_pos (by decide)
    have o : Sm 1000 (-1) := (show Sm 2 (-1) by unfold Sm; decide).up (by omega)
    exact ⟨⟨o, z, z⟩, ⟨z, o, z⟩, z, z, o⟩
  have v1 : toldV one3 = .int 1 := rfl
  have v2 : toldV ((-1, 0, 0), (0, -1, 0), (0, 0, -1)) = .int 2 := rfl
  have e1 : evP T (.tup (.cons (.tup (.cons (.cst (.int 1)) (.cons (.cst (.int 0)) (.cons (.cst (.int 0)) .nil)))) (.cons (.tup (.cons (.cst (.int 0)) (.cons (.cst (.int 1)) (.cons (.cst (.int 0)) .nil)))) (.cons (.tup (.cons (.cst (.int 0)) (.cons (.cst (.int 0)) (.cons (.cst (.int 1)) .nil)))) .nil)))) [.fz (.klst (ns.map D.int)), .fz (.lst (L.map D.int)), .own 0 [.int t], .own 0 (MENU.map dM), x4, x5, x6, x7, x8, x9, x10, x11, .no, .no] = some (.d (dM one3), True) := pv_true (v := Ev.d (dM one3)) rfl (by simp only [true_and, and_true]; and_intros <;> exact s3)
  have e2 : evP T (.tup (.cons (.tup (.cons (.neg (.cst (.int 1))) (.cons (.cst (.int 0)) (.cons (.cst (.int 0)) .nil)))) (.cons (.tup (.cons (.cst (.int 0)) (.cons (.neg (.cst (.int 1))) (.cons (.cst (.int 0)) .nil)))) (.cons (.tup (.cons (.cst (.int 0)) (.cons (.cst (.int 0)) (.cons (.neg (.cst (.int 1))) .nil)))) .nil)))) [.fz (.klst (ns.map D.int)), .fz (.lst (L.map D.int)), .own 0 [.int t], .own 0 (MENU.map dM), x4, x5, x6, x7, x8, x9, x10, x11, .no, .no] = some (.d (dM ((-1, 0, 0), (0, -1, 0), (0, 0, -1))), True) := pv_true (v := Ev.d (dM ((-1, 0, 0), (0, -1, 0), (0, 0, -1)))) rfl (by simp only [true_and, and_true]; and_intros <;> exact s3)
  have t1 := pv_true (evP_call (T := T) (f := "_law_told") (l := .cons (.tup (.cons (.tup (.cons (.cst (.int 1)) (.cons (.cst (.int 0)) (.cons (.cst (.int 0)) .nil)))) (.cons (.tup (.cons (.cst (.int 0)) (.cons (.cst (.int 1)) (.cons (.cst (.int 0)) .nil)))) (.cons (.tup (.cons (.cst (.int 0)) (.cons (.cst (.int 0)) (.cons (.cst (.int 1)) .nil)))) .nil)))) .nil) rfl (evPM_cons e1 rfl evPM_nil) (p := (toldV one3, SmM 1000 one3)) rfl) ⟨⟨trivial, trivial⟩, so⟩
  have t2 := pv_true (evP_call (T := T) (f := "_law_told") (l := .cons (.tup (.cons (.tup (.cons (.neg (.cst (.int 1))) (.cons (.cst (.int 0)) (.cons (.cst (.int 0)) .nil)))) (.cons (.tup (.cons (.cst (.int 0)) (.cons (.neg (.cst (.int 1))) (.cons (.cst (.int 0)) .nil)))) (.cons (.tup (.cons (.cst (.int 0)) (.cons (.cst (.int 0)) (.cons (.neg (.cst (.int 1))) .nil)))) .nil)))) .nil) rfl (evPM_cons e2 rfl evPM_nil) (p := (toldV ((-1, 0, 0), (0, -1, 0), (0, 0, -1)), SmM 1000 ((-1, 0, 0), (0, -1, 0), (0, 0, -1)))) rfl) ⟨⟨trivial, trivial⟩, sn⟩
  rw [v1] at t1
  rw [v2] at t2
  have u1 := pv_true (evP_cmp (T := T) (op := .eq) t1 (b := .cst (.int 1)) (vb := .d (.int 1)) (cb := True) (r := true) (c := True) rfl rfl rfl rfl) ⟨trivial, trivial, trivial⟩
  have u2 := pv_true (evP_cmp (T := T) (op := .eq) t2 (b := .cst (.int 2)) (vb := .d (.int 2)) (cb := True) (r := true) (c := True) rfl rfl rfl rfl) ⟨trivial, trivial, trivial⟩
  exact x_one (x_ret f (evP_band (evPAV_c u1 (evPAV_1 u2))) ⟨trivial, fun _ => trivial⟩ rfl rfl)
end K51

set_option Elab.async false
set_option linter.all false
set_option maxRecDepth 100000
set_option maxHeartbeats 4000000

namespace K51
open PySem PySem.Spec PyProof.Rows L2 PF
theorem all_mk {w : World} {K : PySem.W.Frag} {h : Heap} {mg : Str → Option Value} {fa : Addr} (X : K.In h) (Gn : h.Ns mainGlobals mg) (hfa : mg "law" = some (.ref fa)) {E0 E1 : Addr} {tk_MOST_ORDER : Tok} {f0 f1 f2 f3 f4 f5 f6 f7 f8 f9 f10 f11 f12 f13 f14 f15 : Addr} {od0 an0 od1 an1 od2 an2 od3 an3 od4 an4 od5 an5 od6 an6 od7 an7 od8 an8 od9 an9 od10 an10 od11 an11 od12 an12 od13 an13 od14 an14 od15 an15 : Option Addr} {sl0 sl1 sl2 sl3 sl4 sl5 sl6 sl7 sl8 sl9 sl10 sl11 sl12 sl13 sl14 sl15 : Array (Option Value)} {oc0 kV0 dc0 pm0 cd0 ct0 oc1 kV1 dc1 pm1 cd1 ct1 oc2 kV2 dc2 pm2 cd2 ct2 oc3 kV3 dc3 pm3 cd3 ct3 oc4 kV4 dc4 pm4 cd4 ct4 oc5 kV5 dc5 pm5 cd5 ct5 oc6 kV6 dc6 pm6 cd6 ct6 oc7 kV7 dc7 pm7 cd7 ct7 oc8 kV8 dc8 pm8 cd8 ct8 oc9 kV9 dc9 pm9 cd9 ct9 oc10 kV10 dc10 pm10 cd10 ct10 oc11 kV11 dc11 pm11 cd11 ct11 oc12 kV12 dc12 pm12 cd12 ct12 oc13 kV13 dc13 pm13 cd13 ct13 oc14 kV14 dc14 pm14 cd14 ct14 oc15 kV15 dc15 pm15 cd15 ct15 : Value} {tk_UNITS_0_0 tk_UNITS_0_1 tk_UNITS_0_2 tk_UNITS_1_0 tk_UNITS_1_1 tk_UNITS_1_2 tk_UNITS_2_0 tk_UNITS_2_1 tk_UNITS_2_2 : Tok} {u_UNITS_0 u_UNITS_1 u_UNITS_2 u_UNITS : Addr} {ud_UNITS_0 ud_UNITS_1 ud_UNITS_2 ud_UNITS : Option Addr} {un_UNITS_0 un_UNITS_1 un_UNITS_2 un_UNITS : Nat} {us_UNITS_0 us_UNITS_1 us_UNITS_2 us_UNITS : Array (Option Value)}
    (a0 : PySem.W.nsIn K mainGlobals "transposed" = some (some (.ref f0)))
    (l0 : K.lookup f0 = some ⟨oc0, od0, .func (PySem.W.fnOf "transposed" "transposed" (defArgs s_transposed) (defBody s_transposed) (defScope s_transposed) .none kV0 dc0 pm0 an0 cd0 ct0), sl0⟩)
    (c0 : PySem.W.codeIn K cd0 "transposed" = true)
    (k0 : PySem.W.keepIn K (.ref f0) = true)
    (a1 : PySem.W.nsIn K mainGlobals "matrix_product" = some (some (.ref f1)))
    (l1 : K.lookup f1 = some ⟨oc1, od1, .func (PySem.W.fnOf "matrix_product" "matrix_product" (defArgs s_matrix_product) (defBody s_matrix_product) (defScope s_matrix_product) .none kV1 dc1 pm1 an1 cd1 ct1), sl1⟩)
    (c1 : PySem.W.codeIn K cd1 "matrix_product" = true)
    (k1 : PySem.W.keepIn K (.ref f1) = true)
    (a2 : PySem.W.nsIn K mainGlobals "cross" = some (some (.ref f2)))
    (l2 : K.lookup f2 = some ⟨oc2, od2, .func (PySem.W.fnOf "cross" "cross" (defArgs s_cross) (defBody s_cross) (defScope s_cross) .none kV2 dc2 pm2 an2 cd2 ct2), sl2⟩)
    (c2 : PySem.W.codeIn K cd2 "cross" = true)
    (k2 : PySem.W.keepIn K (.ref f2) = true)
    (a3 : PySem.W.nsIn K mainGlobals "determinant_of" = some (some (.ref f3)))
    (l3 : K.lookup f3 = some ⟨oc3, od3, .func (PySem.W.fnOf "determinant_of" "determinant_of" (defArgs s_determinant_of) (defBody s_determinant_of) (defScope s_determinant_of) .none kV3 dc3 pm3 an3 cd3 ct3), sl3⟩)
    (c3 : PySem.W.codeIn K cd3 "determinant_of" = true)
    (k3 : PySem.W.keepIn K (.ref f3) = true)
    (a4 : PySem.W.nsIn K mainGlobals "order_of" = some (some (.ref f4)))
    (l4 : K.lookup f4 = some ⟨oc4, od4, .func (PySem.W.fnOf "order_of" "order_of" (defArgs s_order_of) (defBody s_order_of) (defScope s_order_of) .none kV4 dc4 pm4 an4 cd4 ct4), sl4⟩)
    (c4 : PySem.W.codeIn K cd4 "order_of" = true)
    (k4 : PySem.W.keepIn K (.ref f4) = true)
    (a5 : PySem.W.nsIn K mainGlobals "_law_numbers" = some (some (.ref f5)))
    (l5 : K.lookup f5 = some ⟨oc5, od5, .func (PySem.W.fnOf "_law_numbers" "_law_numbers" (defArgs s__law_numbers) (defBody s__law_numbers) (defScope s__law_numbers) .none kV5 dc5 pm5 an5 cd5 ct5), sl5⟩)
    (c5 : PySem.W.codeIn K cd5 "_law_numbers" = true)
    (k5 : PySem.W.keepIn K (.ref f5) = true)
    (a6 : PySem.W.nsIn K mainGlobals "_law_take" = some (some (.ref f6)))
    (l6 : K.lookup f6 = some ⟨oc6, od6, .func (PySem.W.fnOf "_law_take" "_law_take" (defArgs s__law_take) (defBody s__law_take) (defScope s__law_take) .none kV6 dc6 pm6 an6 cd6 ct6), sl6⟩)
    (c6 : PySem.W.codeIn K cd6 "_law_take" = true)
    (k6 : PySem.W.keepIn K (.ref f6) = true)
    (a7 : PySem.W.nsIn K mainGlobals "_law_same" = some (some (.ref f7)))
    (l7 : K.lookup f7 = some ⟨oc7, od7, .func (PySem.W.fnOf "_law_same" "_law_same" (defArgs s__law_same) (defBody s__law_same) (defScope s__law_same) .none kV7 dc7 pm7 an7 cd7 ct7), sl7⟩)
    (c7 : PySem.W.codeIn K cd7 "_law_same" = true)
    (k7 : PySem.W.keepIn K (.ref f7) = true)
    (a8 : PySem.W.nsIn K mainGlobals "_law_mul" = some (some (.ref f8)))
    (l8 : K.lookup f8 = some ⟨oc8, od8, .func (PySem.W.fnOf "_law_mul" "_law_mul" (defArgs s__law_mul) (defBody s__law_mul) (defScope s__law_mul) .none kV8 dc8 pm8 an8 cd8 ct8), sl8⟩)
    (c8 : PySem.W.codeIn K cd8 "_law_mul" = true)
    (k8 : PySem.W.keepIn K (.ref f8) = true)
    (a9 : PySem.W.nsIn K mainGlobals "_law_det" = some (some (.ref f9)))
    (l9 : K.lookup f9 = some ⟨oc9, od9, .func (PySem.W.fnOf "_law_det" "_law_det" (defArgs s__law_det) (defBody s__law_det) (defScope s__law_det) .none kV9 dc9 pm9 an9 cd9 ct9), sl9⟩)
    (c9 : PySem.W.codeIn K cd9 "_law_det" = true)
    (k9 : PySem.W.keepIn K (.ref f9) = true)
    (a10 : PySem.W.nsIn K mainGlobals "_law_adjugate" = some (some (.ref f10)))
    (l10 : K.lookup f10 = some ⟨oc10, od10, .func (PySem.W.fnOf "_law_adjugate" "_law_adjugate" (defArgs s__law_adjugate) (defBody s__law_adjugate) (defScope s__law_adjugate) .none kV10 dc10 pm10 an10 cd10 ct10), sl10⟩)
    (c10 : PySem.W.codeIn K cd10 "_law_adjugate" = true)
    (k10 : PySem.W.keepIn K (.ref f10) = true)
    (a11 : PySem.W.nsIn K mainGlobals "_law_back" = some (some (.ref f11)))
    (l11 : K.lookup f11 = some ⟨oc11, od11, .func (PySem.W.fnOf "_law_back" "_law_back" (defArgs s__law_back) (defBody s__law_back) (defScope s__law_back) .none kV11 dc11 pm11 an11 cd11 ct11), sl11⟩)
    (c11 : PySem.W.codeIn K cd11 "_law_back" = true)
    (k11 : PySem.W.keepIn K (.ref f11) = true)
    (a12 : PySem.W.nsIn K mainGlobals "_law_step" = some (some (.ref f12)))
    (l12 : K.lookup f12 = some ⟨oc12, od12, .func (PySem.W.fnOf "_law_step" "_law_step" (defArgs s__law_step) (defBody s__law_step) (defScope s__law_step) .none kV12 dc12 pm12 an12 cd12 ct12), sl12⟩)
    (c12 : PySem.W.codeIn K cd12 "_law_step" = true)
    (k12 : PySem.W.keepIn K (.ref f12) = true)
    (a13 : PySem.W.nsIn K mainGlobals "_law_change" = some (some (.ref f13)))
    (l13 : K.lookup f13 = some ⟨oc13, od13, .func (PySem.W.fnOf "_law_change" "_law_change" (defArgs s__law_change) (defBody s__law_change) (defScope s__law_change) .none kV13 dc13 pm13 an13 cd13 ct13), sl13⟩)
    (c13 : PySem.W.codeIn K cd13 "_law_change" = true)
    (k13 : PySem.W.keepIn K (.ref f13) = true)
    (a14 : PySem.W.nsIn K mainGlobals "_law_told" = some (some (.ref f14)))
    (l14 : K.lookup f14 = some ⟨oc14, od14, .func (PySem.W.fnOf "_law_told" "_law_told" (defArgs s__law_told) (defBody s__law_told) (defScope s__law_told) .none kV14 dc14 pm14 an14 cd14 ct14), sl14⟩)
    (c14 : PySem.W.codeIn K cd14 "_law_told" = true)
    (k14 : PySem.W.keepIn K (.ref f14) = true)
    (a15 : PySem.W.nsIn K mainGlobals "law" = some (some (.ref f15)))
    (l15 : K.lookup f15 = some ⟨oc15, od15, .func (PySem.W.fnOf "law" "law" (defArgs s_law) (defBody s_law) (defScope s_law) .none kV15 dc15 pm15 an15 cd15 ct15), sl15⟩)
    (c15 : PySem.W.codeIn K cd15 "law" = true)
    (k15 : PySem.W.keepIn K (.ref f15) = true)
    (eg0 : PySem.W.nsIn K mainGlobals "BadMatrix" = some (some (.ref E0)))
    (ex0 : PySem.W.excIn K E0 [.type "ValueError", .type "Exception", .type "BaseException", .type "object"] "ValueError.__new__" = true)
    (ek0 : PySem.W.keepIn K (.ref E0) = true)
    (eb0 : PySem.W.subIn K (.ref E0) (.type "BaseException") = some true)
    (et0 : PySem.W.typeIn K (.ref E0) = some (.type "type"))
    (eh0 : PySem.W.findIn K (.ref E0) "__getattribute__" = some (some (.builtin "BaseException.__getattribute__")))
    (ei0 : PySem.W.findIn K (.ref E0) "__getattr__" = some none)
    (ed0 : PySem.W.hasDictIn K E0 = true)
    (ea0 : PySem.W.findIn K (.ref E0) "__class__" = some (some (.builtin "object.__class__")))
    (em0 : PySem.W.mroIn K E0 (.type "object") = some true)
    (ev0 : PySem.W.subIn K (.ref E0) (.type "ValueError") = some true)
    (eg1 : PySem.W.nsIn K mainGlobals "ConeroomError" = some (some (.ref E1)))
    (ex1 : PySem.W.excIn K E1 [.type "ValueError", .type "Exception", .type "BaseException", .type "object"] "ValueError.__new__" = true)
    (ek1 : PySem.W.keepIn K (.ref E1) = true)
    (eb1 : PySem.W.subIn K (.ref E1) (.type "BaseException") = some true)
    (et1 : PySem.W.typeIn K (.ref E1) = some (.type "type"))
    (eh1 : PySem.W.findIn K (.ref E1) "__getattribute__" = some (some (.builtin "BaseException.__getattribute__")))
    (ei1 : PySem.W.findIn K (.ref E1) "__getattr__" = some none)
    (ed1 : PySem.W.hasDictIn K E1 = true)
    (ea1 : PySem.W.findIn K (.ref E1) "__class__" = some (some (.builtin "object.__class__")))
    (em1 : PySem.W.mroIn K E1 (.type "object") = some true)
    (ev1 : PySem.W.subIn K (.ref E1) (.type "ValueError") = some true)
    (su0_0 : PySem.W.subIn K (.ref E0) (.ref E0) = some true)
    (su0_1 : PySem.W.subIn K (.ref E0) (.ref E1) = some true)
    (su1_0 : PySem.W.subIn K (.ref E1) (.ref E0) = some false)
    (ne1_0 : E1 ≠ E0)
    (su1_1 : PySem.W.subIn K (.ref E1) (.ref E1) = some true)
    (sn : PySem.W.specialIn K (.builtin "object.__class__") "__get__" = some (some (.builtin "getset_descriptor.__get__")))
    (st : PySem.W.takesIn K (.builtin "object.__class__") = some true)
    (z_len : PySem.W.nsIn K mainGlobals "len" = some none)
    (z_tuple : PySem.W.nsIn K mainGlobals "tuple" = some none)
    (z_list : PySem.W.nsIn K mainGlobals "list" = some none)
    (z_abs : PySem.W.nsIn K mainGlobals "abs" = some none)
    (z_int : PySem.W.nsIn K mainGlobals "int" = some none)
    (z_sum : PySem.W.nsIn K mainGlobals "sum" = some none)
    (z_all : PySem.W.nsIn K mainGlobals "all" = some none)
    (z_any : PySem.W.nsIn K mainGlobals "any" = some none)
    (z_max : PySem.W.nsIn K mainGlobals "max" = some none)
    (z_min : PySem.W.nsIn K mainGlobals "min" = some none)
    (z_sorted : PySem.W.nsIn K mainGlobals "sorted" = some none)
    (z_str : PySem.W.nsIn K mainGlobals "str" = some none)
    (z_range : PySem.W.nsIn K mainGlobals "range" = some none)
    (z_enumerate : PySem.W.nsIn K mainGlobals "enumerate" = some none)
    (z_zip : PySem.W.nsIn K mainGlobals "zip" = some none)
    (z_isinstance : PySem.W.nsIn K mainGlobals "isinstance" = some none)
    (z_bool : PySem.W.nsIn K mainGlobals "bool" = some none)
    (z_ValueError : PySem.W.nsIn K mainGlobals "ValueError" = some none)
    (cc_MOST_ORDER : PySem.W.nsIn K mainGlobals "MOST_ORDER" = some (some (.int 6 tk_MOST_ORDER)))
    (cc_UNITS : PySem.W.nsIn K mainGlobals "UNITS" = some (some (.ref u_UNITS)))
    (lk_UNITS : K.lookup u_UNITS = some ⟨.type "tuple", ud_UNITS, .seq #[.ref u_UNITS_0, .ref u_UNITS_1, .ref u_UNITS_2] un_UNITS, us_UNITS⟩)
    (lk_UNITS_2 : K.lookup u_UNITS_2 = some ⟨.type "tuple", ud_UNITS_2, .seq #[.int (0) tk_UNITS_2_0, .int (0) tk_UNITS_2_1, .int (1) tk_UNITS_2_2] un_UNITS_2, us_UNITS_2⟩)
    (lk_UNITS_1 : K.lookup u_UNITS_1 = some ⟨.type "tuple", ud_UNITS_1, .seq #[.int (0) tk_UNITS_1_0, .int (1) tk_UNITS_1_1, .int (0) tk_UNITS_1_2] un_UNITS_1, us_UNITS_1⟩)
    (lk_UNITS_0 : K.lookup u_UNITS_0 = some ⟨.type "tuple", ud_UNITS_0, .seq #[.int (1) tk_UNITS_0_0, .int (0) tk_UNITS_0_1, .int (0) tk_UNITS_0_2] un_UNITS_0, us_UNITS_0⟩) :
    ∃ fd : FuncData, (∀ (s : Shared) (u : Value), BindsTo s fd ⟨[u], []⟩ [("script", u)]) ∧ ∀ base : Heap, K.In base → base.Ns mainGlobals mg → FnOk PySem.Challenge.pw_coneroom_k51_orders_of_tables w K mg base (L2.CX PySem.Challenge.pw_coneroom_k51_orders_of_tables w) 16 fa fd ["script"] (spLaw K) := by
  have e := hfa.symm.trans (PySem.W.mg_of X Gn a15)
  cases e
  have D0 := fun_mk (st := s_transposed) l0 c0 k0
  have b0 := D0.binds (ps := ["matrix"]) fun _ _ _ _ _ _ us hl => match us, hl with | [_], _ => rfl
  have D1 := fun_mk (st := s_matrix_product) l1 c1 k1
  have b1 := D1.binds (ps := ["first", "second"]) fun _ _ _ _ _ _ us hl => match us, hl with | [_, _], _ => rfl
  have D2 := fun_mk (st := s_cross) l2 c2 k2
  have b2 := D2.binds (ps := ["v", "w"]) fun _ _ _ _ _ _ us hl => match us, hl with | [_, _], _ => rfl
  have D3 := fun_mk (st := s_determinant_of) l3 c3 k3
  have b3 := D3.binds (ps := ["matrix"]) fun _ _ _ _ _ _ us hl => match us, hl with | [_], _ => rfl
  have D4 := fun_mk (st := s_order_of) l4 c4 k4
  have b4 := D4.binds (ps := ["matrix"]) fun _ _ _ _ _ _ us hl => match us, hl with | [_], _ => rfl
  have D5 := fun_mk (st := s__law_numbers) l5 c5 k5
  have b5 := D5.binds (ps := ["script", "many"]) fun _ _ _ _ _ _ us hl => match us, hl with | [_, _], _ => rfl
  have D6 := fun_mk (st := s__law_take) l6 c6 k6
  have b6 := D6.binds (ps := ["numbers", "place"]) fun _ _ _ _ _ _ us hl => match us, hl with | [_, _], _ => rfl
  have D7 := fun_mk (st := s__law_same) l7 c7 k7
  have b7 := D7.binds (ps := ["actual", "expected"]) fun _ _ _ _ _ _ us hl => match us, hl with | [_, _], _ => rfl
  have D8 := fun_mk (st := s__law_mul) l8 c8 k8
  have b8 := D8.binds (ps := ["first", "second"]) fun _ _ _ _ _ _ us hl => match us, hl with | [_, _], _ => rfl
  have D9 := fun_mk (st := s__law_det) l9 c9 k9
  have b9 := D9.binds (ps := ["m"]) fun _ _ _ _ _ _ us hl => match us, hl with | [_], _ => rfl
  have D10 := fun_mk (st := s__law_adjugate) l10 c10 k10
  have b10 := D10.binds (ps := ["m"]) fun _ _ _ _ _ _ us hl => match us, hl with | [_], _ => rfl
  have D11 := fun_mk (st := s__law_back) l11 c11 k11
  have b11 := D11.binds (ps := ["m"]) fun _ _ _ _ _ _ us hl => match us, hl with | [_], _ => rfl
  have D12 := fun_mk (st := s__law_step) l12 c12 k12
  have b12 := D12.binds (ps := ["number"]) fun _ _ _ _ _ _ us hl => match us, hl with | [_], _ => rfl
  have D13 := fun_mk (st := s__law_change) l13 c13 k13
  have b13 := D13.binds (ps := ["numbers", "place", "most"]) fun _ _ _ _ _ _ us hl => match us, hl with | [_, _, _], _ => rfl
  have D14 := fun_mk (st := s__law_told) l14 c14 k14
  have b14 := D14.binds (ps := ["matrix"]) fun _ _ _ _ _ _ us hl => match us, hl with | [_], _ => rfl
  have D15 := fun_mk (st := s_law) l15 c15 k15
  refine ⟨PySem.W.fnOf "law" "law" (defArgs s_law) (defBody s_law) (defScope s_law) .none kV15 dc15 pm15 an15 cd15 ct15, fun s v => .of_eq rfl, fun base _ _ => ?_⟩
  let cl : Str → Option Addr := fun x => ([("BadMatrix", E0), ("ConeroomError", E1)] : List (Str × Addr)).lookup x
  have cl0 : cl "BadMatrix" = some E0 := rfl
  have X0 : ExC K mg "BadMatrix" E0 := ⟨PySem.W.mg_of X Gn eg0, ex0, ek0, eb0, et0, ⟨eh0, ei0, eb0, ed0, ea0, sn, st, em0⟩⟩
  have cl1 : cl "ConeroomError" = some E1 := rfl
  have X1 : ExC K mg "ConeroomError" E1 := ⟨PySem.W.mg_of X Gn eg1, ex1, ek1, eb1, et1, ⟨eh1, ei1, eb1, ed1, ea1, sn, st, em1⟩⟩
  have gz : GW PySem.Challenge.pw_coneroom_k51_orders_of_tables w K mg base Gz cl 0 := by
    refine gw_zero (fun x hx => ?_) (fun h => nomatch h) (fun C hC => ?_) (fun C hC D hD Ca Da h1 h2 => ?_) (fun C hC Ca h1 => ?_)
    · simp only [biNames, List.mem_cons, List.not_mem_nil, or_false] at hx
      rcases hx with h | h | h | h | h | h | h | h | h | h | h | h | h | h | h | h | h | h
      · subst h; exact PySem.W.mg_none_of X Gn z_len
      · subst h; exact PySem.W.mg_none_of X Gn z_tuple
      · subst h; exact PySem.W.mg_none_of X Gn z_list
      · subst h; exact PySem.W.mg_none_of X Gn z_abs
      · subst h; exact PySem.W.mg_none_of X Gn z_int
      · subst h; exact PySem.W.mg_none_of X Gn z_sum
      · subst h; exact PySem.W.mg_none_of X Gn z_all
      · subst h; exact PySem.W.mg_none_of X Gn z_any
      · subst h; exact PySem.W.mg_none_of X Gn z_max
      · subst h; exact PySem.W.mg_none_of X Gn z_min
      · subst h; exact PySem.W.mg_none_of X Gn z_sorted
      · subst h; exact PySem.W.mg_none_of X Gn z_str
      · subst h; exact PySem.W.mg_none_of X Gn z_range
      · subst h; exact PySem.W.mg_none_of X Gn z_enumerate
      · subst h; exact PySem.W.mg_none_of X Gn z_zip
      · subst h; exact PySem.W.mg_none_of X Gn z_isinstance
      · subst h; exact PySem.W.mg_none_of X Gn z_bool
      · subst h; exact PySem.W.mg_none_of X Gn z_ValueError
    · simp only [exT, List.mem_cons, List.not_mem_nil, or_false] at hC
      rcases hC with hC | hC
      · subst hC; exact ⟨E0, cl0, X0⟩
      · subst hC; exact ⟨E1, cl1, X1⟩
    · simp only [exT, List.mem_cons, List.not_mem_nil, or_false] at hC
      rcases hC with hC | hC
      · subst hC; rw [cl0] at h1; cases h1
        simp only [exT, List.mem_cons, List.not_mem_nil, or_false] at hD
        rcases hD with hD | hD
        · subst hD; rw [cl0] at h2; cases h2; exact ⟨PySem.W.exm_ref eb0 ed0 et0 su0_0, kit_ref ed0 et0 su0_0 (fun e => rfl)⟩
        · subst hD; rw [cl1] at h2; cases h2; exact ⟨PySem.W.exm_ref eb1 ed1 et1 su0_1, kit_ref ed1 et1 su0_1 (fun e => rfl)⟩
      · subst hC; rw [cl1] at h1; cases h1
        simp only [exT, List.mem_cons, List.not_mem_nil, or_false] at hD
        rcases hD with hD | hD
        · subst hD; rw [cl0] at h2; cases h2; exact ⟨PySem.W.exm_ref eb0 ed0 et0 su1_0, kit_ref ed0 et0 su1_0 (fun e => absurd (Value.ref.inj e) ne1_0)⟩
        · subst hD; rw [cl1] at h2; cases h2; exact ⟨PySem.W.exm_ref eb1 ed1 et1 su1_1, kit_ref ed1 et1 su1_1 (fun e => rfl)⟩
    · simp only [exT, List.mem_cons, List.not_mem_nil, or_false] at hC
      rcases hC with hC | hC
      · subst hC; rw [cl0] at h1; cases h1; exact kit_ve ev0
      · subst hC; rw [cl1] at h1; cases h1; exact kit_ve ev1
  have gGc_UNITS : GW PySem.Challenge.pw_coneroom_k51_orders_of_tables w K mg base Gc_UNITS cl 0 := gz.addC (v := .ref u_UNITS) (PySem.W.mg_of X Gn cc_UNITS) rfl (fun F => .tup (vs := [(.ref u_UNITS_0), (.ref u_UNITS_1), (.ref u_UNITS_2)]) (.inr ⟨_, _, _, lk_UNITS, rfl, rfl, (show 3 ≤ sizeLine by decide), (.cons rfl (.cons rfl (.cons rfl .nil)))⟩) (.cons (.tup (vs := [(.int (1)), (.int (0)), (.int (0))]) (.inr ⟨_, _, _, lk_UNITS_0, rfl, rfl, (show 3 ≤ sizeLine by decide), (.cons ⟨_, rfl⟩ (.cons ⟨_, rfl⟩ (.cons ⟨_, rfl⟩ .nil)))⟩) (.cons (.int _) (.cons (.int _) (.cons (.int _) .nil)))) (.cons (.tup (vs := [(.int (0)), (.int (1)), (.int (0))]) (.inr ⟨_, _, _, lk_UNITS_1, rfl, rfl, (show 3 ≤ sizeLine by decide), (.cons ⟨_, rfl⟩ (.cons ⟨_, rfl⟩ (.cons ⟨_, rfl⟩ .nil)))⟩) (.cons (.int _) (.cons (.int _) (.cons (.int _) .nil)))) (.cons (.tup (vs := [(.int (0)), (.int (0)), (.int (1))]) (.inr ⟨_, _, _, lk_UNITS_2, rfl, rfl, (show 3 ≤ sizeLine by decide), (.cons ⟨_, rfl⟩ (.cons ⟨_, rfl⟩ (.cons ⟨_, rfl⟩ .nil)))⟩) (.cons (.int _) (.cons (.int _) (.cons (.int _) .nil)))) .nil))))
  have gGc_MOST_ORDER : GW PySem.Challenge.pw_coneroom_k51_orders_of_tables w K mg base Gc_MOST_ORDER cl 0 := gGc_UNITS.addC (v := .int 6) (PySem.W.mg_of X Gn cc_MOST_ORDER) ⟨_, rfl⟩ (fun F => .int _)
  have g0 : GW PySem.Challenge.pw_coneroom_k51_orders_of_tables w K mg base G0 cl 0 := gGc_MOST_ORDER
  have g1 : GW PySem.Challenge.pw_coneroom_k51_orders_of_tables w K mg base G1 cl 1 := g0.step (ms := [false]) (fn := F_transposed) D0 (PySem.W.mg_of X Gn a0) b0 sc_transposed c_transposed (fun h => nomatch h) rfl ok_transposed
  have g2 : GW PySem.Challenge.pw_coneroom_k51_orders_of_tables w K mg base G2 cl 2 := g1.step (ms := [false, false]) (fn := F_matrix_product) D1 (PySem.W.mg_of X Gn a1) b1 sc_matrix_product c_matrix_product (fun h => nomatch h) rfl ok_matrix_product
  have g3 : GW PySem.Challenge.pw_coneroom_k51_orders_of_tables w K mg base G3 cl 3 := g2.step (ms := [false, false]) (fn := F_cross) D2 (PySem.W.mg_of X Gn a2) b2 sc_cross c_cross (fun h => nomatch h) rfl ok_cross
  have g4 : GW PySem.Challenge.pw_coneroom_k51_orders_of_tables w K mg base G4 cl 4 := g3.step (ms := [false]) (fn := F_determinant_of) D3 (PySem.W.mg_of X Gn a3) b3 sc_determinant_of c_determinant_of (fun h => nomatch h) rfl ok_determinant_of
  have g5 : GW PySem.Challenge.pw_coneroom_k51_orders_of_tables w K mg base G5 cl 5 := g4.step (ms := [false]) (fn := F_order_of) D4 (PySem.W.mg_of X Gn a4) b4 sc_order_of c_order_of (fun h => nomatch h) rfl ok_order_of
  have g6 : GW PySem.Challenge.pw_coneroom_k51_orders_of_tables w K mg base G6 cl 6 := g5.step (ms := [false, false]) (fn := F__law_numbers) D5 (PySem.W.mg_of X Gn a5) b5 sc__law_numbers c__law_numbers (fun h => nomatch h) rfl ok__law_numbers
  have g7 : GW PySem.Challenge.pw_coneroom_k51_orders_of_tables w K mg base G7 cl 7 := g6.step (ms := [false, true]) (fn := F__law_take) D6 (PySem.W.mg_of X Gn a6) b6 sc__law_take c__law_take (fun h => nomatch h) rfl ok__law_take
  have g8 : GW PySem.Challenge.pw_coneroom_k51_orders_of_tables w K mg base G8 cl 8 := g7.step (ms := [false, false]) (fn := F__law_same) D7 (PySem.W.mg_of X Gn a7) b7 sc__law_same c__law_same (fun h => nomatch h) rfl ok__law_same
  have g9 : GW PySem.Challenge.pw_coneroom_k51_orders_of_tables w K mg base G9 cl 9 := g8.step (ms := [false, false]) (fn := F__law_mul) D8 (PySem.W.mg_of X Gn a8) b8 sc__law_mul c__law_mul (fun h => nomatch h) rfl ok__law_mul
  have g10 : GW PySem.Challenge.pw_coneroom_k51_orders_of_tables w K mg base G10 cl 10 := g9.step (ms := [false]) (fn := F__law_det) D9 (PySem.W.mg_of X Gn a9) b9 sc__law_det c__law_det (fun h => nomatch h) rfl ok__law_det
  have g11 : GW PySem.Challenge.pw_coneroom_k51_orders_of_tables w K mg base G11 cl 11 := g10.step (ms := [false]) (fn := F__law_adjugate) D10 (PySem.W.mg_of X Gn a10) b10 sc__law_adjugate c__law_adjugate (fun h => nomatch h) rfl ok__law_adjugate
  have g12 : GW PySem.Challenge.pw_coneroom_k51_orders_of_tables w K mg base G12 cl 12 := g11.step (ms := [false]) (fn := F__law_back) D11 (PySem.W.mg_of X Gn a11) b11 sc__law_back c__law_back (fun h => nomatch h) rfl ok__law_back
  have g13 : GW PySem.Challenge.pw_coneroom_k51_orders_of_tables w K mg base G13 cl 13 := g12.step (ms := [false]) (fn := F__law_step) D12 (PySem.W.mg_of X Gn a12) b12 sc__law_step c__law_step (fun h => nomatch h) rfl ok__law_step
  have g14 : GW PySem.Challenge.pw_coneroom_k51_orders_of_tables w K mg base G14 cl 14 := g13.step (ms := [false, true, false]) (fn := F__law_change) D13 (PySem.W.mg_of X Gn a13) b13 sc__law_change c__law_change (fun h => nomatch h) rfl ok__law_change
  have g15 : GW PySem.Challenge.pw_coneroom_k51_orders_of_tables w K mg base G15 cl 15 := g14.step (ms := [false]) (fn := F__law_told) D14 (PySem.W.mg_of X Gn a14) b14 sc__law_told c__law_told (fun h => nomatch h) rfl ok__law_told
  exact law_end rfl (fn_pf D15 sc_law c_law g15 (fun h => nomatch h)) p_law
end K51
open PySem PySem.W PyProof.Rows in
set_option maxRecDepth 100000 in
set_option maxHeartbeats 0 in
theorem PySem.Challenge.cw_coneroom_k51_orders_of_tables_holds : PySem.Challenge.rw_coneroom_k51_orders_of_tables.Holds := by
  w_on; o_law; k_head; (case hw => w_witness2)
  k_fill
  refine PF.walk (l := PySem.Challenge.rw_coneroom_k51_orders_of_tables) (k := 16) ⟨rfl, by decide, by decide⟩ rfl rfl (fun w h Y => PySem.W.kIn_of Y) ?F
  case F =>
    intro w mg fa h KX G hmg
    refine' K51.all_mk KX G hmg ?a0 ?l0 ?c0 ?k0 ?a1 ?l1 ?c1 ?k1 ?a2 ?l2 ?c2 ?k2 ?a3 ?l3 ?c3 ?k3 ?a4 ?l4 ?c4 ?k4 ?a5 ?l5 ?c5 ?k5 ?a6 ?l6 ?c6 ?k6 ?a7 ?l7 ?c7 ?k7 ?a8 ?l8 ?c8 ?k8 ?a9 ?l9 ?c9 ?k9 ?a10 ?l10 ?c10 ?k10 ?a11 ?l11 ?c11 ?k11 ?a12 ?l12 ?c12 ?k12 ?a13 ?l13 ?c13 ?k13 ?a14 ?l14 ?c14 ?k14 ?a15 ?l15 ?c15 ?k15 ?eg0 ?ex0 ?ek0 ?eb0 ?et0 ?eh0 ?ei0 ?ed0 ?ea0 ?em0 ?ev0 ?eg1 ?ex1 ?ek1 ?eb1 ?et1 ?eh1 ?ei1 ?ed1 ?ea1 ?em1 ?ev1 ?su0_0 ?su0_1 ?su1_0 ?ne1_0 ?su1_1 ?sn ?st ?z_len ?z_tuple ?z_list ?z_abs ?z_int ?z_sum ?z_all ?z_any ?z_max ?z_min ?z_sorted ?z_str ?z_range ?z_enumerate ?z_zip ?z_isinstance ?z_bool ?z_ValueError ?cc_MOST_ORDER ?cc_UNITS ?lk_UNITS ?lk_UNITS_2 ?lk_UNITS_1 ?lk_UNITS_0
    (case a0 => k_is)
    (case l0 => k_is)
    (case c0 => k_is)
    (case k0 => k_is)
    (case a1 => k_is)
    (case l1 => k_is)
    (case c1 => k_is)
    (case k1 => k_is)
    (case a2 => k_is)
    (case l2 => k_is)
    (case c2 => k_is)
    (case k2 => k_is)
    (case a3 => k_is)
    (case l3 => k_is)
    (case c3 => k_is)
    (case k3 => k_is)
    (case a4 => k_is)
    (case l4 => k_is)
    (case c4 => k_is)
    (case k4 => k_is)
    (case a5 => k_is)
    (case l5 => k_is)
    (case c5 => k_is)
    (case k5 => k_is)
    (case a6 => k_is)
    (case l6 => k_is)
    (case c6 => k_is)
    (case k6 => k_is)
    (case a7 => k_is)
    (case l7 => k_is)
    (case c7 => k_is)
    (case k7 => k_is)
    (case a8 => k_is)
    (case l8 => k_is)
    (case c8 => k_is)
    (case k8 => k_is)
    (case a9 => k_is)
    (case l9 => k_is)
    (case c9 => k_is)
    (case k9 => k_is)
    (case a10 => k_is)
    (case l10 => k_is)
    (case c10 => k_is)
    (case k10 => k_is)
    (case a11 => k_is)
    (case l11 => k_is)
    (case c11 => k_is)
    (case k11 => k_is)
    (case a12 => k_is)
    (case l12 => k_is)
    (case c12 => k_is)
    (case k12 => k_is)
    (case a13 => k_is)
    (case l13 => k_is)
    (case c13 => k_is)
    (case k13 => k_is)
    (case a14 => k_is)
    (case l14 => k_is)
    (case c14 => k_is)
    (case k14 => k_is)
    (case a15 => k_is)
    (case l15 => k_is)
    (case c15 => k_is)
    (case k15 => k_is)
    (case eg0 => k_is)
    (case ex0 => k_exc)
    (case ek0 => k_is)
    (case eb0 => k_is)
    (case et0 => k_is)
    (case eh0 => k_is)
    (case ei0 => k_is)
    (case ed0 => k_is)
    (case ea0 => k_is)
    (case em0 => k_is)
    (case ev0 => k_is)
    (case eg1 => k_is)
    (case ex1 => k_exc)
    (case ek1 => k_is)
    (case eb1 => k_is)
    (case et1 => k_is)
    (case eh1 => k_is)
    (case ei1 => k_is)
    (case ed1 => k_is)
    (case ea1 => k_is)
    (case em1 => k_is)
    (case ev1 => k_is)
    (case su0_0 => first | rfl | k_is)
    (case su0_1 => first | rfl | k_is)
    (case su1_0 => first | rfl | k_is)
    (case ne1_0 => first | decide | k_is)
    (case su1_1 => first | rfl | k_is)
    (case sn => k_is)
    (case st => k_is)
    (case z_len => k_is)
    (case z_tuple => k_is)
    (case z_list => k_is)
    (case z_abs => k_is)
    (case z_int => k_is)
    (case z_sum => k_is)
    (case z_all => k_is)
    (case z_any => k_is)
    (case z_max => k_is)
    (case z_min => k_is)
    (case z_sorted => k_is)
    (case z_str => k_is)
    (case z_range => k_is)
    (case z_enumerate => k_is)
    (case z_zip => k_is)
    (case z_isinstance => k_is)
    (case z_bool => k_is)
    (case z_ValueError => k_is)
    (case cc_MOST_ORDER => k_is)
    (case cc_UNITS => k_is)
    (case lk_UNITS => k_is)
    (case lk_UNITS_2 => k_is)
    (case lk_UNITS_1 => k_is)
    (case lk_UNITS_0 => k_is)

