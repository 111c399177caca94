import PyProof.Rows.All
import Wide.All
import OpenK.AllK
import Wide.FinOn
import PyProof.EqAt
import PyProof.EqKinds
import PyProof.TupleCall
import HandS.ForMost
import HandS.ForExc
import HandS.TupAny
import HandS.Flow
import HandS.Wide
import HandS.Gcd
import HandS.IsInst
import HandS.Style
import HandS.Deep
import HandS.Conv
import HandS.ExcInit
import HandS.CallSlots
import KE.SortData
import HandS.SetFor
import HandS.Strs
import HandS.Nested
import HandS.ClsMeth
import HandS.ExcField
import HandS.ExcIs
import KE.KExcSuper
import KE.KExcIs
import PySem.Challenge.RW_somelengthsmove_k00_whole_words_and_erro
set_option Elab.async false
set_option linter.all false
set_option maxRecDepth 100000
set_option maxHeartbeats 4000000
/-! MX: readings by plain data. D: a value with all that it holds; a slot holds a value, or an own list that may be changed. -/
namespace MX
open PySem PySem.Spec L2
open PyProof.Rows hiding St

/-! ### data -/
inductive D where
  | non | bl (b : Bool) | int (i : Int) | str (s : Str)
  | tup (xs : List D) | lst (xs : List D)
  /-- the script: a list that is read alone -/
  | scr (xs : List D)
  | ins (C : Addr) (ns : List Str) (ds : List D)
  /-- an own error as a value: its class, its name, its place -/
  | exc (C : Addr) (nm : Str) (d : D)

mutual
inductive At (K : PySem.W.Frag) (F : Hp) : V → D → Prop
  | non : At K F .non .non
  | bl (b : Bool) : At K F (.bl b) (.bl b)
  | int (i : Int) : At K F (.int i) (.int i)
  | str (s : Str) : At K F (.str s) (.str s)
  | tup {a : Addr} {xs : List V} {ds : List D} : SqT K F a xs → Ats K F xs ds → At K F (.ref a) (.tup ds)
  | lst {a : Addr} {xs : List V} {ds : List D} : F a = some (.lst xs) → Ats K F xs ds → At K F (.ref a) (.lst ds)
  | scr {a : Addr} {xs : List V} {ds : List D} : SqL K F a xs → Ats K F xs ds → At K F (.ref a) (.scr ds)
  | ins {a C dx : Addr} {ns : List Str} {xs : List V} {ds : List D} : F a = some (.ins C dx (ns.zip xs)) → ns.length = xs.length → Ats K F xs ds → At K F (.ref a) (.ins C ns ds)
  | exc {a C dx : Addr} {fs : List (Str × V)} {nm : Str} {v : V} {d : D} : F a = some (exo a C (some dx)) → F dx = some (exd dx fs) → fs.lookup ("name" : Str) = some (.str nm) → fs.lookup ("place" : Str) = some v → At K F v d → At K F (.ref a) (.exc C nm d)
inductive Ats (K : PySem.W.Frag) (F : Hp) : List V → List D → Prop
  | nil : Ats K F [] []
  | cons {v : V} {vs : List V} {d : D} {ds : List D} : At K F v d → Ats K F vs ds → Ats K F (v :: vs) (d :: ds)
end

abbrev Ex (H H' : Hp) : Prop := Same H H'
theorem ex_rd {H H' : Hp} {a : Addr} {u : HO} (e : Ex H H') (h : Rd H a u) : Rd H' a u := by
  rcases h with h | ⟨o, h⟩
  · exact Or.inl (e a _ h)
  · exact Or.inr ⟨o, e a _ h⟩
theorem ex_l {K : PySem.W.Frag} {H H' : Hp} {a : Addr} {xs : List V} (e : Ex H H') (h : SqL K H a xs) : SqL K H' a xs := by
  rcases h with h | h
  · exact Or.inl (ex_rd e h)
  · exact Or.inr h
theorem ex_t {K : PySem.W.Frag} {H H' : Hp} {a : Addr} {xs : List V} (e : Ex H H') (h : SqT K H a xs) : SqT K H' a xs := by
  rcases h with h | h
  · exact Or.inl (ex_rd e h)
  · exact Or.inr h
section
variable {K : PySem.W.Frag} {F F' : Hp}
mutual
theorem At.mono (e : Ex F F') : ∀ {v : V} {d : D}, At K F v d → At K F' v d
  | _, _, .non => .non
  | _, _, .bl b => .bl b
  | _, _, .int i => .int i
  | _, _, .str s => .str s
  | _, _, .tup h hs => .tup (ex_t e h) (Ats.mono e hs)
  | _, _, .lst h hs => .lst (e _ _ h) (Ats.mono e hs)
  | _, _, .scr h hs => .scr (ex_l e h) (Ats.mono e hs)
  | _, _, .ins h hl hs => .ins (e _ _ h) hl (Ats.mono e hs)
  | _, _, .exc h1 h2 h3 h4 h5 => .exc (e _ _ h1) (e _ _ h2) h3 h4 (At.mono e h5)
theorem Ats.mono (e : Ex F F') : ∀ {vs : List V} {ds : List D}, Ats K F vs ds → Ats K F' vs ds
  | _, _, .nil => .nil
  | _, _, .cons h hs => .cons (At.mono e h) (Ats.mono e hs)
end
theorem Ats.length : ∀ {vs : List V} {ds : List D}, Ats K F vs ds → vs.length = ds.length
  | _, _, .nil => rfl
  | _, _, .cons _ h => congrArg (· + 1) (Ats.length h)
theorem Ats.get : ∀ {vs : List V} {ds : List D} {i : Nat} {d : D}, Ats K F vs ds → ds[i]? = some d → ∃ v, vs[i]? = some v ∧ At K F v d
  | _, _, _, _, .nil, e => by simp at e
  | _, _, 0, _, .cons h _, e => by simp at e; subst e; exact ⟨_, rfl, h⟩
  | _, _, i + 1, d, .cons _ t, e => by
    obtain ⟨v, h1, h2⟩ := Ats.get (i := i) (d := d) t (by simpa using e)
    exact ⟨v, by simpa using h1, h2⟩
theorem Ats.getV : ∀ {vs : List V} {ds : List D} {i : Nat} {v : V}, Ats K F vs ds → vs[i]? = some v → ∃ d, ds[i]? = some d ∧ At K F v d
  | _, _, _, _, .nil, e => by simp at e
  | _, _, 0, _, .cons h _, e => by simp at e; subst e; exact ⟨_, rfl, h⟩
  | _, _, i + 1, d, .cons _ t, e => by
    obtain ⟨v, h1, h2⟩ := Ats.getV (i := i) (v := d) t (by simpa using e)
    exact ⟨v, by simpa using h1, h2⟩
theorem Ats.append : ∀ {vs ws : List V} {ds es : List D}, Ats K F vs ds → Ats K F ws es → Ats K F (vs ++ ws) (ds ++ es)
  | _, _, _, _, .nil, h => h
  | _, _, _, _, .cons h t, h' => .cons h (Ats.append t h')
theorem Ats.set : ∀ {vs : List V} {ds : List D} {v : V} {d : D} (i : Nat), Ats K F vs ds → At K F v d → Ats K F (vs.set i v) (ds.set i d)
  | _, _, _, _, _, .nil, _ => .nil
  | _, _, _, _, 0, .cons _ t, h => .cons h t
  | _, _, _, _, i + 1, .cons h t, h' => .cons h (Ats.set i t h')
theorem Ats.take : ∀ {vs : List V} {ds : List D} (n : Nat), Ats K F vs ds → Ats K F (vs.take n) (ds.take n)
  | _, _, 0, _ => .nil
  | _, _, _ + 1, .nil => .nil
  | _, _, n + 1, .cons h t => .cons h (Ats.take n t)
theorem Ats.drop : ∀ {vs : List V} {ds : List D} (n : Nat), Ats K F vs ds → Ats K F (vs.drop n) (ds.drop n)
  | _, _, 0, h => h
  | _, _, _ + 1, .nil => .nil
  | _, _, n + 1, .cons _ t => Ats.drop n t
theorem Ats.reverse : ∀ {vs : List V} {ds : List D}, Ats K F vs ds → Ats K F vs.reverse ds.reverse
  | _, _, .nil => .nil
  | _, _, .cons h t => by
    rw [List.reverse_cons, List.reverse_cons]
    exact Ats.append (Ats.reverse t) (.cons h .nil)
theorem ats_ints : ∀ (ns : List Int), Ats K F (ns.map V.int) (ns.map D.int)
  | [] => .nil
  | n :: ns => .cons (.int n) (ats_ints ns)
theorem Ats.ints_inv : ∀ {vs : List V} {ns : List Int}, Ats K F vs (ns.map D.int) → vs = ns.map V.int
  | _, [], h => by cases h; rfl
  | _, n :: ns, h => by
    cases h with
    | cons h t => cases h; rw [Ats.ints_inv t]; rfl
theorem Ats.bls_inv : ∀ {vs : List V} {ns : List Bool}, Ats K F vs (ns.map D.bl) → vs = ns.map V.bl
  | _, [], h => by cases h; rfl
  | _, n :: ns, h => by
    cases h with
    | cons h t => cases h; rw [Ats.bls_inv t]; rfl
theorem Ats.strs_inv : ∀ {vs : List V} {ns : List Str}, Ats K F vs (ns.map D.str) → vs = ns.map V.str
  | _, [], h => by cases h; rfl
  | _, n :: ns, h => by
    cases h with
    | cons h t => cases h; rw [Ats.strs_inv t]; rfl
theorem ats_strs : ∀ (ns : List Str), Ats K F (ns.map V.str) (ns.map D.str)
  | [] => .nil
  | n :: ns => .cons (.str n) (ats_strs ns)
end

/-! ### the state of a def's frame, told by data -/
inductive Slot where
  | no
  | val (d : D)
  /-- an own list; p: it is a parameter's, the caller's -/
  | own (p : Bool) (d : D)
abbrev MS := List Slot
structure Base where
  F0 : Hp
  H0 : Hp
  I : List Addr
  vs : St
def OwnAt (K : PySem.W.Frag) (F H : Hp) (a : Addr) : D → Prop
  | .lst ds => ∃ xs, H a = some (.lst xs) ∧ Ats K F xs ds
  | _ => False
theorem OwnAt.mono {K : PySem.W.Frag} {F F' H H' : Hp} {a : Addr} {d : D} (e : Ex F F') (h : H' a = H a) (o : OwnAt K F H a d) : OwnAt K F' H' a d := by
  cases d with
  | lst ds =>
    obtain ⟨xs, h1, h2⟩ := o
    exact ⟨xs, h.trans h1, h2.mono e⟩
  | _ => exact False.elim o
theorem OwnAt.there {K : PySem.W.Frag} {F H : Hp} {a : Addr} {d : D} (o : OwnAt K F H a d) : H a ≠ none := by
  cases d with
  | lst ds =>
    obtain ⟨xs, h1, h2⟩ := o
    rw [h1]
    exact fun z => by cases z
  | _ => exact False.elim o
structure Rel (K : PySem.W.Frag) (B : Base) (F : Hp) (st : MS) (σ : St) (H : Hp) : Prop where
  ext0 : Ex B.F0 F
  ext : Ex F H
  keep : ∀ p o, B.H0 p = some o → p ∉ B.I → H p = some o
  there : ∀ p, B.H0 p ≠ none → H p ≠ none
  fix : ∀ p, B.H0 p ≠ none → B.F0 p = none → F p = none
  len : st.length = σ.length
  val : ∀ (i : Nat) (d : D), st[i]? = some (.val d) → ∃ v, σ[i]? = some (some v) ∧ At K F v d
  own : ∀ (i : Nat) (b : Bool) (d : D), st[i]? = some (.own b d) → ∃ a, σ[i]? = some (some (.ref a)) ∧ F a = none ∧ (if b = true then a ∈ B.I ∧ B.F0 a = none else B.H0 a = none) ∧ OwnAt K F H a d
  par : ∀ (i : Nat) (d : D), st[i]? = some (.own true d) → σ[i]? = B.vs[i]?
  sep : ∀ (i j : Nat) (b : Bool) (d : D) (b' : Bool) (d' : D) (a : Addr), st[i]? = some (.own b d) → st[j]? = some (.own b' d') → σ[i]? = some (some (.ref a)) → σ[j]? = some (some (.ref a)) → i = j
/-- a step that leaves the slots, and all objects that stood -/
structure Stp (F H F' H' : Hp) : Prop where
  f : Ex F F'
  h : Ex H H'
  fh : Ex F' H'
  fr : ∀ p, H p ≠ none → F p = none → F' p = none
section
variable {K : PySem.W.Frag} {B : Base} {F F' H H' : Hp} {st : MS} {σ : St}
theorem Stp.refl (h : Ex F H) : Stp F H F H := ⟨Same.refl F, Same.refl H, h, fun _ _ e => e⟩
theorem ex_none (h : Ex F H) {p : Addr} (e : H p = none) : F p = none := h.free e
theorem ne_of_ex (h : Ex H H') {p : Addr} (e : H p ≠ none) : H' p = H p := by
  cases q : H p with
  | none => exact absurd q e
  | some o => exact h p o q
/-- a new object that is known from now on -/
theorem Stp.new (h : Ex F H) {p : Addr} {o : HO} (e : H p = none) : Stp F H (upd F p o) (upd H p o) where
  f := fun a u q => by
    rw [upd_ne (ne_of_none q (ex_none h e))]
    exact q
  h := fun a u q => by
    rw [upd_ne (ne_of_none q e)]
    exact q
  fh := fun a u q => by
    by_cases z : a = p
    · rw [z, upd_same] at q
      rw [z, upd_same]
      exact q
    · rw [upd_ne z] at q
      rw [upd_ne z]
      exact h a u q
  fr := fun a q n => by
    rw [upd_ne (fun z => q (by rw [z]; exact e))]
    exact n
/-- a new object that is not known -/
theorem Stp.hid (h : Ex F H) {p : Addr} {o : HO} (e : H p = none) : Stp F H F (upd H p o) where
  f := Same.refl F
  h := fun a u q => by
    rw [upd_ne (ne_of_none q e)]
    exact q
  fh := fun a u q => by
    rw [upd_ne (ne_of_none q (ex_none h e))]
    exact h a u q
  fr := fun a q n => n
theorem Stp.trans {F1 H1 F2 H2 : Hp} (a : Stp F H F1 H1) (b : Stp F1 H1 F2 H2) : Stp F H F2 H2 where
  f := a.f.trans b.f
  h := a.h.trans b.h
  fh := b.fh
  fr := fun p q n => b.fr p (by rw [ne_of_ex a.h q]; exact q) (a.fr p q n)
theorem Rel.step (r : Rel K B F st σ H) (s : Stp F H F' H') : Rel K B F' st σ H' where
  ext0 := r.ext0.trans s.f
  ext := s.fh
  keep := fun p o q n => s.h p o (r.keep p o q n)
  there := fun p q => by
    rw [ne_of_ex s.h (r.there p q)]
    exact r.there p q
  fix := fun p q n => s.fr p (r.there p q) (r.fix p q n)
  len := r.len
  val := fun i d q => by
    obtain ⟨v, h1, h2⟩ := r.val i d q
    exact ⟨v, h1, h2.mono s.f⟩
  own := fun i b d q => by
    obtain ⟨a, h1, h2, h3, h4⟩ := r.own i b d q
    exact ⟨a, h1, s.fr a h4.there h2, h3, h4.mono s.f (ne_of_ex s.h h4.there)⟩
  par := r.par
  sep := r.sep
theorem set_cases {α : Type} {l : List α} {i j : Nat} {x y : α} (h : (l.set i x)[j]? = some y) : (i = j ∧ y = x ∧ i < l.length) ∨ (i ≠ j ∧ l[j]? = some y) := by
  by_cases e : i = j
  · subst e
    by_cases hl : i < l.length
    · rw [List.getElem?_set_self hl] at h
      exact .inl ⟨rfl, (Option.some.inj h).symm, hl⟩
    · rw [List.getElem?_eq_none (by simpa using hl)] at h
      cases h
  · rw [List.getElem?_set_ne e] at h
    exact .inr ⟨e, h⟩
/-- a name gets a value -/
theorem Rel.setv (r : Rel K B F st σ H) {i : Nat} {v : V} {d : D} (h : At K F v d) : Rel K B F (st.set i (.val d)) (σ.set i (some v)) H where
  ext0 := r.ext0
  ext := r.ext
  keep := r.keep
  there := r.there
  fix := r.fix
  len := by rw [List.length_set, List.length_set, r.len]
  val := fun j e q => by
    rcases set_cases q with ⟨rfl, z, hl⟩ | ⟨n, q⟩
    · cases z
      exact ⟨v, List.getElem?_set_self (by rw [← r.len]; exact hl), h⟩
    · rw [List.getElem?_set_ne n]
      exact r.val j e q
  own := fun j b e q => by
    rcases set_cases q with ⟨rfl, z, hl⟩ | ⟨n, q⟩
    · cases z
    · rw [List.getElem?_set_ne n]
      exact r.own j b e q
  par := fun j e q => by
    rcases set_cases q with ⟨rfl, z, hl⟩ | ⟨n, q⟩
    · cases z
    · rw [List.getElem?_set_ne n]
      exact r.par j e q
  sep := fun j k b d b' d' a q q' => by
    rcases set_cases q with ⟨rfl, z, hl⟩ | ⟨n, q⟩
    · cases z
    rcases set_cases q' with ⟨rfl, z, hl⟩ | ⟨n', q'⟩
    · cases z
    rw [List.getElem?_set_ne n, List.getElem?_set_ne n']
    exact r.sep j k b d b' d' a q q'
/-- less is known -/
theorem Rel.forget (r : Rel K B F st σ H) {i : Nat} {x : Option V} : Rel K B F (st.set i .no) (σ.set i x) H where
  ext0 := r.ext0
  ext := r.ext
  keep := r.keep
  there := r.there
  fix := r.fix
  len := by rw [List.length_set, List.length_set, r.len]
  val := fun j e q => by
    rcases set_cases q with ⟨rfl, z, hl⟩ | ⟨n, q⟩
    · cases z
    · rw [List.getElem?_set_ne n]
      exact r.val j e q
  own := fun j b e q => by
    rcases set_cases q with ⟨rfl, z, hl⟩ | ⟨n, q⟩
    · cases z
    · rw [List.getElem?_set_ne n]
      exact r.own j b e q
  par := fun j e q => by
    rcases set_cases q with ⟨rfl, z, hl⟩ | ⟨n, q⟩
    · cases z
    · rw [List.getElem?_set_ne n]
      exact r.par j e q
  sep := fun j k b d b' d' a q q' => by
    rcases set_cases q with ⟨rfl, z, hl⟩ | ⟨n, q⟩
    · cases z
    rcases set_cases q' with ⟨rfl, z, hl⟩ | ⟨n', q'⟩
    · cases z
    rw [List.getElem?_set_ne n, List.getElem?_set_ne n']
    exact r.sep j k b d b' d' a q q'
/-- an own list at a that no own slot holds -/
structure Fresh (K : PySem.W.Frag) (B : Base) (F : Hp) (st : MS) (σ : St) (H : Hp) (a : Addr) (ds : List D) : Prop where
  fr : F a = none
  h0 : B.H0 a = none
  at_ : ∃ xs, H a = some (.lst xs) ∧ Ats K F xs ds
  sep : ∀ (i : Nat) (b : Bool) (d : D), st[i]? = some (.own b d) → σ[i]? ≠ some (some (.ref a))
theorem Rel.seto (r : Rel K B F st σ H) {i : Nat} {a : Addr} {ds : List D} (h : Fresh K B F st σ H a ds) : Rel K B F (st.set i (.own false (.lst ds))) (σ.set i (some (.ref a))) H where
  ext0 := r.ext0
  ext := r.ext
  keep := r.keep
  there := r.there
  fix := r.fix
  len := by rw [List.length_set, List.length_set, r.len]
  val := fun j e q => by
    rcases set_cases q with ⟨rfl, z, hl⟩ | ⟨n, q⟩
    · cases z
    · rw [List.getElem?_set_ne n]
      exact r.val j e q
  own := fun j b e q => by
    rcases set_cases q with ⟨rfl, z, hl⟩ | ⟨n, q⟩
    · cases z
      exact ⟨a, List.getElem?_set_self (by rw [← r.len]; exact hl), h.fr, h.h0, h.at_⟩
    · rw [List.getElem?_set_ne n]
      exact r.own j b e q
  par := fun j e q => by
    rcases set_cases q with ⟨rfl, z, hl⟩ | ⟨n, q⟩
    · cases z
    · rw [List.getElem?_set_ne n]
      exact r.par j e q
  sep := fun j k b d b' d' a' q q' e e' => by
    rcases set_cases q with ⟨rfl, z, hl⟩ | ⟨n, q⟩
    · rcases set_cases q' with ⟨rfl, z', hl'⟩ | ⟨n', q'⟩
      · rfl
      · rw [List.getElem?_set_self (by rw [← r.len]; exact hl)] at e
        cases e
        rw [List.getElem?_set_ne n'] at e'
        exact absurd e' (h.sep k b' d' q')
    · rcases set_cases q' with ⟨rfl, z', hl'⟩ | ⟨n', q'⟩
      · rw [List.getElem?_set_self (by rw [← r.len]; exact hl')] at e'
        cases e'
        rw [List.getElem?_set_ne n] at e
        exact absurd e (h.sep j b d q)
      · rw [List.getElem?_set_ne n] at e
        rw [List.getElem?_set_ne n'] at e'
        exact r.sep j k b d b' d' a' q q' e e'
/-- a list becomes known: nobody changes it any more -/
theorem Fresh.freeze {a : Addr} {ds : List D} (h : Fresh K B F st σ H a ds) (r : Rel K B F st σ H) : ∃ F', Ex F F' ∧ Rel K B F' st σ H ∧ At K F' (.ref a) (.lst ds) := by
  obtain ⟨xs, hx, hd⟩ := h.at_
  have e1 : Ex F (upd F a (.lst xs)) := fun b o q => by
    rw [upd_ne (ne_of_none q h.fr)]
    exact q
  refine ⟨upd F a (.lst xs), e1, ?_, .lst upd_same (hd.mono e1)⟩
  exact { ext0 := r.ext0.trans e1, ext := fun b o q => by
            by_cases z : b = a
            · rw [z, upd_same] at q
              rw [z, hx]
              exact q
            · rw [upd_ne z] at q
              exact r.ext b o q
          keep := r.keep, there := r.there
          fix := fun p q n => by
            rw [upd_ne (fun z => q (by rw [z]; exact h.h0))]
            exact r.fix p q n
          len := r.len
          val := fun i d q => by
            obtain ⟨v, h1, h2⟩ := r.val i d q
            exact ⟨v, h1, h2.mono e1⟩
          own := fun i b d q => by
            obtain ⟨c, h1, h2, h3, h4⟩ := r.own i b d q
            refine ⟨c, h1, ?_, h3, h4.mono e1 rfl⟩
            rw [upd_ne (fun z => h.sep i b d q (by rw [← z]; exact h1))]
            exact h2
          par := r.par, sep := r.sep }
/-- an own slot's list is let go: a value from now on -/
theorem Rel.freeze (r : Rel K B F st σ H) {i : Nat} {ds : List D} (h : st[i]? = some (.own false (.lst ds))) :
    ∃ F' a, Ex F F' ∧ σ[i]? = some (some (.ref a)) ∧ Rel K B F' (st.set i (.val (.lst ds))) σ H ∧ At K F' (.ref a) (.lst ds) := by
  obtain ⟨a, h1, h2, h3, h4⟩ := r.own i _ _ h
  have h3' : B.H0 a = none := h3
  have hi : i < σ.length := by
    rw [← r.len]
    exact (List.getElem?_eq_some_iff.mp h).1
  have fs : Fresh K B F (st.set i .no) σ H a ds := ⟨h2, h3', h4, fun j b d q e => by
    rcases set_cases q with ⟨rfl, z, hl⟩ | ⟨n, q⟩
    · cases z
    · exact n (r.sep i j _ _ _ _ a h q h1 e)⟩
  have r1 : Rel K B F (st.set i .no) σ H := by
    have z := r.forget (i := i) (x := some (.ref a))
    have e : σ.set i (some (.ref a)) = σ := by
      apply List.ext_getElem?
      intro j
      by_cases hj : i = j
      · subst hj
        rw [List.getElem?_set_self hi, h1]
      · rw [List.getElem?_set_ne hj]
    rw [e] at z
    exact z
  obtain ⟨F', e, r2, at'⟩ := fs.freeze r1
  refine ⟨F', a, e, h1, ?_, at'⟩
  have z := r2.setv (i := i) at'
  have e1 : σ.set i (some (.ref a)) = σ := by
    apply List.ext_getElem?
    intro j
    by_cases hj : i = j
    · subst hj
      rw [List.getElem?_set_self hi, h1]
    · rw [List.getElem?_set_ne hj]
  rw [e1, List.set_set] at z
  exact z
/-- an own list is changed -/
theorem Rel.write (r : Rel K B F st σ H) {i : Nat} {b : Bool} {d : D} {a : Addr} {xs : List V} {ds : List D} (h : st[i]? = some (.own b d)) (ha : σ[i]? = some (some (.ref a))) (hd : Ats K F xs ds) :
    Rel K B F (st.set i (.own b (.lst ds))) σ (upd H a (.lst xs)) := by
  obtain ⟨a', h1, h2, h3, h4⟩ := r.own i _ _ h
  have e : a' = a := by
    rw [h1] at ha
    cases ha
    rfl
  subst e
  exact { ext0 := r.ext0
          ext := fun p o q => by
            rw [upd_ne (ne_of_none q h2)]
            exact r.ext p o q
          keep := fun p o q n => by
            rw [upd_ne]
            · exact r.keep p o q n
            · rintro rfl
              cases b with
              | true => exact n h3.1
              | false => rw [h3] at q; cases q
          there := fun p q => by
            by_cases z : p = a'
            · rw [z, upd_same]
              exact fun z => by cases z
            · rw [upd_ne z]
              exact r.there p q
          fix := r.fix
          len := by rw [List.length_set, r.len]
          val := fun j e q => by
            rcases set_cases q with ⟨rfl, z, hl⟩ | ⟨n, q⟩
            · cases z
            · exact r.val j e q
          own := fun j b' e q => by
            rcases set_cases q with ⟨rfl, z, hl⟩ | ⟨n, q⟩
            · cases z
              exact ⟨a', h1, h2, h3, xs, upd_same, hd⟩
            · obtain ⟨c, g1, g2, g3, g4⟩ := r.own j b' e q
              refine ⟨c, g1, g2, g3, g4.mono (Same.refl _) (upd_ne ?_)⟩
              rintro rfl
              exact n (r.sep i j _ _ _ _ _ h q h1 g1)
          par := fun j e q => by
            rcases set_cases q with ⟨rfl, z, hl⟩ | ⟨n, q⟩
            · cases z
              exact r.par _ _ h
            · exact r.par j e q
          sep := fun j k b1 d b' d' c q q' e e' => by
            have f : ∀ {j : Nat} {b2 : Bool} {d2 : D}, (st.set i (.own b (.lst ds)))[j]? = some (.own b2 d2) → ∃ b' d', st[j]? = some (.own b' d') := by
              intro j b2 d2 q
              rcases set_cases q with ⟨rfl, z, hl⟩ | ⟨n, q⟩
              · exact ⟨_, _, h⟩
              · exact ⟨_, _, q⟩
            obtain ⟨_, _, q1⟩ := f q
            obtain ⟨_, _, q2⟩ := f q'
            exact r.sep j k _ _ _ _ c q1 q2 e e' }
end
end MX

namespace MX
open PySem PySem.Spec L2
open PyProof.Rows hiding St

/-! ### outcomes -/
inductive Out (α : Type) where
  | ok (a : α) (st : MS)
  | err (c : Str) (d : D) (st : MS)
  | stuck
def Out.bind {α β : Type} : Out α → (α → MS → Out β) → Out β
  | .ok a st, k => k a st
  | .err c d st, _ => .err c d st
  | .stuck, _ => .stuck
@[simp] theorem Out.bind_ok {α β : Type} (a : α) (st : MS) (k : α → MS → Out β) : (Out.ok a st).bind k = k a st := rfl
@[simp] theorem Out.bind_err {α β : Type} (c : Str) (d : D) (st : MS) (k : α → MS → Out β) : (Out.err c d st).bind k = .err c d st := rfl
@[simp] theorem Out.bind_stuck {α β : Type} (k : α → MS → Out β) : (Out.stuck).bind k = .stuck := rfl
def lift {α : Type} : Option α → MS → Out α
  | some a, st => .ok a st
  | none, _ => .stuck
@[simp] theorem lift_some {α : Type} (a : α) (st : MS) : lift (some a) st = .ok a st := rfl
@[simp] theorem lift_none {α : Type} (st : MS) : lift (none : Option α) st = .stuck := rfl
/-- an error of the class that the module's name c holds -/
def ErrIs (K : PySem.W.Frag) (mg : Str → Option Value) (F H : Hp) (c : Str) (d : D) (cls : Value) (dx : Option Addr) : Prop :=
  ∃ C dd fs v, mg c = some (.ref C) ∧ cls = .ref C ∧ dx = some dd ∧ H dd = some (.xd fs) ∧ fs.lookup ("name" : Str) = some (.str c) ∧ fs.lookup ("place" : Str) = some v ∧ At K F v d
def PostG {α β : Type} (K : PySem.W.Frag) (mg : Str → Option Value) (R : Hp → Hp → α → β → Prop) (B : Base) (σ : St) (F : Hp) (W : WX) (Q : β → Hp → Prop) : Out α → Prop
  | .ok a st => ∀ v F' H', Ex F F' → Rel K B F' st σ H' → R F' H' a v → Q v H'
  | .err c d st => ∀ cls dx F' H', Ex F F' → Rel K B F' st σ H' → ErrIs K mg F' H' c d cls dx → W cls dx σ H'
  | .stuck => False
theorem PostG.mono {α β : Type} {K : PySem.W.Frag} {mg : Str → Option Value} {R : Hp → Hp → α → β → Prop} {B : Base} {σ : St} {F F' : Hp} {W : WX} {Q : β → Hp → Prop} {o : Out α} (e : Ex F F') (h : PostG K mg R B σ F W Q o) : PostG K mg R B σ F' W Q o := by
  cases o with
  | ok a st => exact fun v F2 H2 e2 r a => h v F2 H2 (e.trans e2) r a
  | err c d st => exact fun cls dx F2 H2 e2 r a => h cls dx F2 H2 (e.trans e2) r a
  | stuck => exact h
theorem PostG.bind {α β γ δ : Type} {K : PySem.W.Frag} {mg : Str → Option Value} {R : Hp → Hp → α → β → Prop} {S : Hp → Hp → γ → δ → Prop} {B : Base} {σ : St} {F : Hp} {W : WX} {Q : β → Hp → Prop} {Q' : δ → Hp → Prop} {o : Out γ} {k : γ → MS → Out α}
    (h : PostG K mg R B σ F W Q (o.bind k)) (hk : ∀ d st v F' H', Ex F F' → Rel K B F' st σ H' → S F' H' d v → PostG K mg R B σ F' W Q (k d st) → Q' v H') : PostG K mg S B σ F W Q' o := by
  cases o with
  | ok a st => exact fun v F2 H2 e2 r a' => hk a st v F2 H2 e2 r a' (h.mono e2)
  | err c d st => exact h
  | stuck => exact h
/-- what a reading is by data -/
def RdG {α β : Type} (X : Cx) (W : WX) (R : Hp → Hp → α → β → Prop) (t : St → Hp → (β → Hp → Prop) → Prop) (f : MS → Out α) : Prop :=
  ∀ B st F σ H Q, Rel X.K B F st σ H → PostG X.K X.mg R B σ F W Q (f st) → t σ H Q
def RAt (K : PySem.W.Frag) : Hp → Hp → D → V → Prop := fun F _ d v => At K F v d
def RBool : Hp → Hp → Bool → Bool → Prop := fun _ _ a b => a = b
def RAts (K : PySem.W.Frag) : Hp → Hp → List D → List V → Prop := fun F _ ds vs => Ats K F vs ds
/-- an expression; a test; values in a row -/
def RE (X : Cx) (W : WX) (e : Expr) (f : MS → Out D) : Prop := ∃ t, PE X e t ∧ RdG X W (RAt X.K) t f
def RT (X : Cx) (W : WX) (e : Expr) (f : MS → Out Bool) : Prop := ∃ t, PT X e t ∧ RdG X W RBool t f
def RA (X : Cx) (W : WX) (es : List Expr) (f : MS → Out (List D)) : Prop := ∃ t, PA X es t ∧ RdG X W (RAts X.K) t f
/-- an expression that makes a new list -/
def RNw (K : PySem.W.Frag) (B : Base) (st : MS) (σ : St) : Hp → Hp → List D → V → Prop := fun F H ds v => ∃ a, v = .ref a ∧ Fresh K B F st σ H a ds
def RN (X : Cx) (W : WX) (e : Expr) (f : MS → Out (List D)) : Prop :=
  ∃ t, PE X e t ∧ ∀ B st F σ H Q, Rel X.K B F st σ H → (match f st with
    | .ok ds st' => ∀ a F' H', Ex F F' → Rel X.K B F' st' σ H' → Fresh X.K B F' st' σ H' a ds → Q (.ref a) H'
    | .err c d st' => ∀ cls dx F' H', Ex F F' → Rel X.K B F' st' σ H' → ErrIs X.K X.mg F' H' c d cls dx → W cls dx σ H'
    | .stuck => False) → t σ H Q

section
variable {X : Cx} {W : WX} {a b c e : Expr} {es : List Expr} {pos : Pos} {f fa fb fc : MS → Out D}

/-! ### atoms -/
def mVar (i : Nat) : MS → Out D := fun st => match st[i]? with
  | some (.val d) => .ok d st
  | some (.own false (.lst ds)) => .ok (.lst ds) (st.set i (.val (.lst ds)))
  | _ => .stuck
theorem re_var (i : Nat) {x : Str} (h : PE X (.Name x pos) (tVar i)) : RE X W (.Name x pos) (mVar i) := by
  refine ⟨_, h, fun B st F σ H Q r p => ?_⟩
  unfold mVar at p
  split at p
  · rename_i d hd
    obtain ⟨v, h1, h2⟩ := r.val i d hd
    exact ⟨v, h1, p v F H (Same.refl F) r h2⟩
  · rename_i ds hd
    obtain ⟨F', a, e1, h1, r1, a1⟩ := r.freeze hd
    exact ⟨.ref a, h1, p _ F' H e1 r1 a1⟩
  · exact p.elim
def mC (d : D) : MS → Out D := fun st => .ok d st
theorem re_const {v : V} {d : D} (h : PE X e (tC v)) (hd : ∀ F, At X.K F v d) : RE X W e (mC d) := ⟨_, h, fun B st F σ H Q r p => p v F H (Same.refl F) r (hd F)⟩
theorem re_int {i : Int} {j} : RE X W (.Constant (.int i) j pos) (mC (.int i)) := re_const pe_int fun _ => .int i
theorem re_bl {k : Bool} {j} : RE X W (.Constant (.bool k) j pos) (mC (.bl k)) := re_const pe_bl fun _ => .bl k
theorem re_non {j} : RE X W (.Constant .none j pos) (mC .non) := re_const pe_non fun _ => .non
theorem re_str {x : Str} {j} : RE X W (.Constant (.str x) j pos) (mC (.str x)) := re_const pe_str fun _ => .str x
theorem re_glob {x : Str} {v : V} {u : Value} {d : D} (hm : X.mg x = some u) (hr : RelV v u) (hd : ∀ F, At X.K F v d) (hg : Gl X x := by rfl) (h0 : (x == ("__debug__" : Str)) = false := by decide) : RE X W (.Name x pos) (mC d) :=
  re_const (pe_glob hg hm hr h0) hd

/-! ### rows of values -/
def mNil : MS → Out (List D) := fun st => .ok [] st
def mCons (f : MS → Out D) (g : MS → Out (List D)) : MS → Out (List D) := fun st => (f st).bind fun d st1 => (g st1).bind fun ds st2 => .ok (d :: ds) st2
theorem ra_nil : RA X W [] mNil := ⟨_, pa_nil, fun B st F σ H Q r p => p [] F H (Same.refl F) r .nil⟩
theorem ra_cons {g : MS → Out (List D)} (h : RE X W e f) (hs : RA X W es g) (hst : starEach (e :: es) X.env = (false, eval e X.env) :: starEach es X.env := by rfl) : RA X W (e :: es) (mCons f g) := by
  obtain ⟨t, h1, h2⟩ := h
  obtain ⟨u, g1, g2⟩ := hs
  refine ⟨_, pa_cons h1 g1 hst, fun B st F σ H Q r p => ?_⟩
  refine h2 B st F σ H _ r (PostG.bind p fun d st1 v F1 H1 e1 r1 a1 p1 => ?_)
  refine g2 B st1 F1 σ H1 _ r1 (PostG.bind p1 fun ds st2 vs F2 H2 e2 r2 a2 p2 => ?_)
  exact p2 _ F2 H2 (Same.refl F2) r2 (.cons (a1.mono e2) a2)
def mTup (g : MS → Out (List D)) : MS → Out D := fun st => (g st).bind fun ds st1 => if ds.length ≤ sizeLine then .ok (.tup ds) st1 else .stuck
theorem re_tup {g : MS → Out (List D)} {x1} (hs : RA X W es g) : RE X W (.Tuple es x1 pos) (mTup g) := by
  obtain ⟨u, g1, g2⟩ := hs
  refine ⟨_, pe_tup g1, fun B st F σ H Q r p => ?_⟩
  refine g2 B st F σ H _ r (PostG.bind p fun ds st1 vs F1 H1 e1 r1 a1 p1 => ?_)
  by_cases hz : ds.length ≤ sizeLine
  · rw [if_pos hz] at p1
    have a1' : Ats X.K F1 vs ds := a1
    refine ⟨by rw [a1'.length]; exact hz, fun q hq => ?_⟩
    have s := Stp.new (o := .tup vs) r1.ext hq
    exact p1 _ _ _ s.f (r1.step s) (.tup (SqT.of upd_same) (a1'.mono s.f))
  · rw [if_neg hz] at p1
    exact p1.elim
theorem Fresh.new {K : PySem.W.Frag} {B : Base} {F H : Hp} {st : MS} {σ : St} (r : Rel K B F st σ H) {q : Addr} {vs : List V} {ds : List D} (hq : H q = none) (h : Ats K F vs ds) : Rel K B F st σ (upd H q (.lst vs)) ∧ Fresh K B F st σ (upd H q (.lst vs)) q ds := by
  have s := Stp.hid (o := .lst vs) r.ext hq
  refine ⟨r.step s, ex_none r.ext hq, ?_, ⟨vs, upd_same, h⟩, fun i b d z e => ?_⟩
  · cases z : B.H0 q with
    | none => rfl
    | some o => exact absurd hq (r.there q (by rw [z]; exact fun y => by cases y))
  · obtain ⟨a, h1, h2, h3, h4⟩ := r.own i b d z
    rw [h1] at e
    cases e
    exact h4.there hq
def mLst (g : MS → Out (List D)) : MS → Out (List D) := fun st => (g st).bind fun ds st1 => if ds.length ≤ sizeLine then .ok ds st1 else .stuck
theorem rn_lst {g : MS → Out (List D)} (hs : RA X W es g) : RN X W (.List es pos) (mLst g) := by
  obtain ⟨u, g1, g2⟩ := hs
  refine ⟨_, pe_lst g1, fun B st F σ H Q r p => ?_⟩
  refine g2 B st F σ H _ r ?_
  unfold mLst at p
  cases hg : g st with
  | stuck => rw [hg] at p; exact p
  | err c d st' => rw [hg] at p; exact p
  | ok ds st' =>
    rw [hg] at p
    intro vs F1 H1 e1 r1 a1
    have a1' : Ats X.K F1 vs ds := a1
    by_cases hz : ds.length ≤ sizeLine
    · rw [Out.bind_ok, if_pos hz] at p
      refine ⟨by rw [a1'.length]; exact hz, fun q hq => ?_⟩
      obtain ⟨r2, f2⟩ := Fresh.new r1 hq a1'
      exact p q F1 _ e1 r2 f2
    · rw [Out.bind_ok, if_neg hz] at p
      exact p.elim
def mLv (g : MS → Out (List D)) : MS → Out D := fun st => (g st).bind fun ds st1 => .ok (.lst ds) st1
theorem re_of_rn {g : MS → Out (List D)} (h : RN X W e g) : RE X W e (mLv g) := by
  obtain ⟨t, h1, h2⟩ := h
  refine ⟨t, h1, fun B st F σ H Q r p => h2 B st F σ H Q r ?_⟩
  unfold mLv at p
  cases hg : g st with
  | stuck => rw [hg] at p; exact p
  | err c d st' => rw [hg] at p; exact p
  | ok ds st' =>
    rw [hg] at p
    intro a F' H' e1 r1 f1
    obtain ⟨F2, e2, r2, a2⟩ := f1.freeze r1
    exact p _ F2 H' (e1.trans e2) r2 a2

/-! ### operators -/
def OpD (X : Cx) (f : Value → Value → Sem Value) (g : D → D → Option D) : Prop :=
  ∃ r2 : R2, OpR X f r2 ∧ ∀ F H x y d e z Q, Ex F H → At X.K F x d → At X.K F y e → g d e = some z → (∀ v F' H', Stp F H F' H' → At X.K F' v z → Q v H') → r2 x y H Q
def mBin (g : D → D → Option D) (fa fb : MS → Out D) : MS → Out D := fun st => (fa st).bind fun x st1 => (fb st1).bind fun y st2 => lift (g x y) st2
theorem tOp_rd {ta tb : TE} {f : Value → Value → Sem Value} {g : D → D → Option D} {r2 : R2}
    (ho : ∀ F H x y d e z Q, Ex F H → At X.K F x d → At X.K F y e → g d e = some z → (∀ v F' H', Stp F H F' H' → At X.K F' v z → Q v H') → r2 x y H Q)
    (ha : RdG X W (RAt X.K) ta fa) (hb : RdG X W (RAt X.K) tb fb) : RdG X W (RAt X.K) (tOp r2 ta tb) (mBin g fa fb) := by
  intro B st F σ H Q r p
  refine ha B st F σ H _ r (PostG.bind p fun d st1 v F1 H1 e1 r1 a1 p1 => ?_)
  refine hb B st1 F1 σ H1 _ r1 (PostG.bind p1 fun d2 st2 v2 F2 H2 e2 r2 a2 p2 => ?_)
  cases hz : g d d2 with
  | none => rw [hz] at p2; exact p2.elim
  | some z =>
    rw [hz] at p2
    refine ho F2 H2 v v2 d d2 z Q r2.ext (At.mono e2 a1) a2 hz fun w F3 H3 s a3 => ?_
    exact p2 w F3 H3 s.f (r2.step s) a3
theorem re_bin {op : Operator} {g : D → D → Option D} (ho : OpD X (binaryOp op) g) (ha : RE X W a fa) (hb : RE X W b fb) : RE X W (.BinOp a op b pos) (mBin g fa fb) := by
  obtain ⟨r2, o1, o2⟩ := ho
  obtain ⟨t, h1, h2⟩ := ha
  obtain ⟨u, g1, g2⟩ := hb
  exact ⟨_, pe_op o1 h1 g1, tOp_rd (f := binaryOp op) o2 h2 g2⟩
theorem re_cmp {op : CmpOp} {g : D → D → Option D} (ho : OpD X (compareOp op) g) (ha : RE X W a fa) (hb : RE X W b fb) (hm : behindInMarks op b = false := by first | exact nomark _ | rfl) : RE X W (.Compare a [op] [b] pos) (mBin g fa fb) := by
  obtain ⟨r2, o1, o2⟩ := ho
  obtain ⟨t, h1, h2⟩ := ha
  obtain ⟨u, g1, g2⟩ := hb
  exact ⟨_, pe_cmpR o1 h1 g1 hm, tOp_rd (f := compareOp op) o2 h2 g2⟩
def mTst (f : MS → Out D) : MS → Out Bool := fun st => (f st).bind fun d st1 => match d with
  | .bl k => .ok k st1
  | _ => .stuck
theorem tTest_rd {t : TE} (h : RdG X W (RAt X.K) t f) : RdG X W RBool (tTest t) (mTst f) := by
  intro B st F σ H Q r p
  refine h B st F σ H _ r (PostG.bind p fun d st1 v F1 H1 e1 r1 a1 p1 => ?_)
  cases a1 with
  | bl k => exact ⟨k, rfl, p1 k F1 H1 (Same.refl _) r1 rfl⟩
  | _ => exact p1.elim
theorem rt_cmp {op : CmpOp} {g : D → D → Option D} (ho : OpD X (compareOp op) g) (ha : RE X W a fa) (hb : RE X W b fb) (hm : behindInMarks op b = false := by first | exact nomark _ | rfl) : RT X W (.Compare a [op] [b] pos) (mTst (mBin g fa fb)) := by
  obtain ⟨r2, o1, o2⟩ := ho
  obtain ⟨t, h1, h2⟩ := ha
  obtain ⟨u, g1, g2⟩ := hb
  exact ⟨_, pt_cmpR o1 h1 g1 hm, tTest_rd (tOp_rd (f := compareOp op) o2 h2 g2)⟩
/-- a op b op' c -/
def mChain (g g' : D → D → Option D) (fa fb fc : MS → Out D) : MS → Out D := fun st => (fa st).bind fun x st1 => (fb st1).bind fun y st2 => (lift (g x y) st2).bind fun z st3 => match z with
  | .bl true => (fc st3).bind fun w st4 => lift (g' y w) st4
  | .bl false => .ok (.bl false) st3
  | _ => .stuck
theorem chain_rd {op op' : CmpOp} {g g' : D → D → Option D} {ta tb tc : TE} {r2 r3 : R2}
    (ho : ∀ F H x y d e z Q, Ex F H → At X.K F x d → At X.K F y e → g d e = some z → (∀ v F' H', Stp F H F' H' → At X.K F' v z → Q v H') → r2 x y H Q)
    (ho' : ∀ F H x y d e z Q, Ex F H → At X.K F x d → At X.K F y e → g' d e = some z → (∀ v F' H', Stp F H F' H' → At X.K F' v z → Q v H') → r3 x y H Q)
    (ha : RdG X W (RAt X.K) ta fa) (hb : RdG X W (RAt X.K) tb fb) (hc : RdG X W (RAt X.K) tc fc) : RdG X W (RAt X.K) (tChain r2 r3 ta tb tc) (mChain g g' fa fb fc) := by
  intro B st F σ H Q r p
  refine ha B st F σ H _ r (PostG.bind p fun d st1 v F1 H1 e1 r1 a1 p1 => ?_)
  refine hb B st1 F1 σ H1 _ r1 (PostG.bind p1 fun d2 st2 v2 F2 H2 e2 r2 a2 p2 => ?_)
  cases hz : g d d2 with
  | none => rw [hz] at p2; exact p2.elim
  | some z =>
    rw [hz] at p2
    refine ho F2 H2 v v2 d d2 z _ r2.ext (At.mono e2 a1) a2 hz fun w F3 H3 s a3 => ?_
    cases a3 with
    | bl k =>
      refine ⟨k, rfl, ?_⟩
      cases k with
      | false => exact iteF (p2 _ F3 H3 s.f (r2.step s) (.bl false))
      | true =>
        refine iteT ?_
        have p3 := PostG.mono s.f p2
        refine hc B st2 F3 σ H3 _ (r2.step s) (PostG.bind p3 fun d4 st4 v4 F4 H4 e4 r4 a4 p4 => ?_)
        cases hz4 : g' d2 d4 with
        | none => rw [hz4] at p4; exact p4.elim
        | some z4 =>
          rw [hz4] at p4
          refine ho' F4 H4 v2 v4 d2 d4 z4 _ r4.ext (At.mono (s.f.trans e4) a2) a4 hz4 fun w F5 H5 s5 a5 => ?_
          exact p4 w F5 H5 s5.f (r4.step s5) a5
    | _ => exact p2.elim
theorem re_chain {op op' : CmpOp} {g g' : D → D → Option D} (ho : OpD X (compareOp op) g) (ho' : OpD X (compareOp op') g') (ha : RE X W a fa) (hb : RE X W b fb) (hc : RE X W c fc)
    (hm : lastMarks [op, op'] [b, c] = false := by with_unfolding_all rfl) : RE X W (.Compare a [op, op'] [b, c] pos) (mChain g g' fa fb fc) := by
  obtain ⟨r2, o1, o2⟩ := ho
  obtain ⟨r3, o3, o4⟩ := ho'
  obtain ⟨t, h1, h2⟩ := ha
  obtain ⟨u, g1, g2⟩ := hb
  obtain ⟨v, k1, k2⟩ := hc
  exact ⟨_, pe_chain o1 o3 h1 g1 k1 hm, chain_rd (op := op) (op' := op') o2 o4 h2 g2 k2⟩
theorem rt_chain {op op' : CmpOp} {g g' : D → D → Option D} (ho : OpD X (compareOp op) g) (ho' : OpD X (compareOp op') g') (ha : RE X W a fa) (hb : RE X W b fb) (hc : RE X W c fc)
    (hm : lastMarks [op, op'] [b, c] = false := by with_unfolding_all rfl) : RT X W (.Compare a [op, op'] [b, c] pos) (mTst (mChain g g' fa fb fc)) := by
  obtain ⟨r2, o1, o2⟩ := ho
  obtain ⟨r3, o3, o4⟩ := ho'
  obtain ⟨t, h1, h2⟩ := ha
  obtain ⟨u, g1, g2⟩ := hb
  obtain ⟨v, k1, k2⟩ := hc
  exact ⟨_, pt_chain o1 o3 h1 g1 k1 hm, tTest_rd (chain_rd (op := op) (op' := op') o2 o4 h2 g2 k2)⟩

/-! ### truth, and, or, not, if else -/
def D.truth : D → Option Bool
  | .non => some false
  | .bl b => some b
  | .int i => some (i != 0)
  | .str y => if y.length ≤ sizeLine then some ((y.length : Int) != 0) else none
  | .tup xs => some (!xs.isEmpty)
  | .lst xs => some (!xs.isEmpty)
  | .scr _ => none
  | .ins _ _ _ => none
  | .exc _ _ _ => none
theorem truth_ok {K : PySem.W.Frag} {F H : Hp} {x : V} {d : D} {k : Bool} (e : Ex F H) (a : At K F x d) (h : d.truth = some k) : TruV K x H k := by
  cases a with
  | non => cases h; exact rfl
  | bl b => cases h; exact rfl
  | int i => cases h; exact rfl
  | str s =>
    unfold D.truth at h
    by_cases hz : s.length ≤ sizeLine
    · simp only [hz, if_true] at h
      exact ⟨hz, (Option.some.inj h).symm⟩
    · simp [hz] at h
  | tup hs ha =>
    cases h
    refine .inr (.inl ⟨_, ex_t e hs, ?_⟩)
    cases ha <;> rfl
  | lst hs ha =>
    cases h
    refine .inl ⟨_, SqL.of (e _ _ hs), ?_⟩
    cases ha <;> rfl
  | scr _ _ => cases h
  | ins _ _ _ => cases h
  | exc _ _ _ _ _ => cases h
def mTru (f : MS → Out D) : MS → Out Bool := fun st => (f st).bind fun d st1 => lift d.truth st1
theorem rt_truth (h : RE X W e f) (he : ∀ whole, isTrue e X.env whole = (do let v ← whole; standAt e.pos; holding [v] (truthy v)) := by intro _; rfl) : RT X W e (mTru f) := by
  obtain ⟨t, h1, h2⟩ := h
  refine ⟨_, pt_truth h1 he, fun B st F σ H Q r p => ?_⟩
  refine h2 B st F σ H _ r (PostG.bind p fun d st1 v F1 H1 e1 r1 a1 p1 => ?_)
  cases hz : d.truth with
  | none => rw [hz] at p1; exact p1.elim
  | some z =>
    rw [hz] at p1
    exact ⟨z, truth_ok r1.ext a1 hz, p1 z F1 H1 (Same.refl _) r1 rfl⟩
def mAndT (f g : MS → Out Bool) : MS → Out Bool := fun st => (f st).bind fun k st1 => if k = true then g st1 else .ok false st1
def mOrT (f g : MS → Out Bool) : MS → Out Bool := fun st => (f st).bind fun k st1 => if k = true then .ok true st1 else g st1
def mNotT (f : MS → Out Bool) : MS → Out Bool := fun st => (f st).bind fun k st1 => .ok (!k) st1
/-- a test in an and-row, an or-row -/
def RW (X : Cx) (W : WX) (e : Expr) (f : MS → Out Bool) : Prop := ∃ t, PW X e t ∧ RdG X W RBool t f
variable {h ga gb : MS → Out Bool}
theorem RW.rt {f : MS → Out Bool} (h : RW X W e f) : RT X W e f := by
  obtain ⟨t, h1, h2⟩ := h
  exact ⟨t, h1.pt, h2⟩
theorem rw_and1 (ha : RT X W a ga) : RW X W (.BoolOp .And [a] pos) ga := by
  obtain ⟨t, h1, h2⟩ := ha
  exact ⟨t, pw_and1 h1, h2⟩
theorem rw_or1 (ha : RT X W a ga) : RW X W (.BoolOp .Or [a] pos) ga := by
  obtain ⟨t, h1, h2⟩ := ha
  exact ⟨t, pw_or1 h1, h2⟩
theorem rw_and {rest : List Expr} (ha : RT X W a ga) (hb : RW X W (.BoolOp .And (b :: rest) pos) gb) : RW X W (.BoolOp .And (a :: b :: rest) pos) (mAndT ga gb) := by
  obtain ⟨t, h1, h2⟩ := ha
  obtain ⟨u, g1, g2⟩ := hb
  refine ⟨_, pw_and h1 g1, fun B st F σ H Q r p => ?_⟩
  refine h2 B st F σ H _ r (PostG.bind p fun k st1 v F1 H1 e1 r1 a1 p1 => ?_)
  cases a1
  cases k with
  | true => exact iteT (g2 B st1 F1 σ H1 _ r1 p1)
  | false => exact iteF (p1 false F1 H1 (Same.refl _) r1 rfl)
theorem rw_or {rest : List Expr} (ha : RT X W a ga) (hb : RW X W (.BoolOp .Or (b :: rest) pos) gb) : RW X W (.BoolOp .Or (a :: b :: rest) pos) (mOrT ga gb) := by
  obtain ⟨t, h1, h2⟩ := ha
  obtain ⟨u, g1, g2⟩ := hb
  refine ⟨_, pw_or h1 g1, fun B st F σ H Q r p => ?_⟩
  refine h2 B st F σ H _ r (PostG.bind p fun k st1 v F1 H1 e1 r1 a1 p1 => ?_)
  cases a1
  cases k with
  | false => exact iteF (g2 B st1 F1 σ H1 _ r1 p1)
  | true => exact iteT (p1 true F1 H1 (Same.refl _) r1 rfl)
theorem rt_not (ha : RT X W a ga) : RT X W (.UnaryOp .Not a pos) (mNotT ga) := by
  obtain ⟨t, h1, h2⟩ := ha
  refine ⟨_, pt_not h1, fun B st F σ H Q r p => ?_⟩
  refine h2 B st F σ H _ r (PostG.bind p fun k st1 v F1 H1 e1 r1 a1 p1 => ?_)
  cases a1
  exact p1 _ F1 H1 (Same.refl _) r1 rfl
/-- as values -/
def mAndV (f g : MS → Out D) : MS → Out D := fun st => (f st).bind fun d st1 => (lift d.truth st1).bind fun k st2 => if k = true then g st2 else .ok d st2
def mOrV (f g : MS → Out D) : MS → Out D := fun st => (f st).bind fun d st1 => (lift d.truth st1).bind fun k st2 => if k = true then .ok d st2 else g st2
def mNotV (f : MS → Out D) : MS → Out D := fun st => (f st).bind fun d st1 => (lift d.truth st1).bind fun k st2 => .ok (.bl (!k)) st2
theorem re_one {op} (ha : RE X W a fa) : RE X W (.BoolOp op [a] pos) fa := by
  obtain ⟨t, h1, h2⟩ := ha
  exact ⟨t, pe_one h1, h2⟩
theorem re_and {rest : List Expr} (ha : RE X W a fa) (hb : RE X W (.BoolOp .And (b :: rest) pos) fb) : RE X W (.BoolOp .And (a :: b :: rest) pos) (mAndV fa fb) := by
  obtain ⟨t, h1, h2⟩ := ha
  obtain ⟨u, g1, g2⟩ := hb
  refine ⟨_, pe_andT h1 g1, fun B st F σ H Q r p => ?_⟩
  refine h2 B st F σ H _ r (PostG.bind p fun d st1 v F1 H1 e1 r1 a1 p1 => ?_)
  cases hz : d.truth with
  | none => rw [hz] at p1; exact p1.elim
  | some k =>
    rw [hz] at p1
    refine ⟨k, truth_ok r1.ext a1 hz, ?_⟩
    cases k with
    | true => exact iteT (g2 B st1 F1 σ H1 _ r1 p1)
    | false => exact iteF (p1 v F1 H1 (Same.refl _) r1 a1)
theorem re_or {rest : List Expr} (ha : RE X W a fa) (hb : RE X W (.BoolOp .Or (b :: rest) pos) fb) : RE X W (.BoolOp .Or (a :: b :: rest) pos) (mOrV fa fb) := by
  obtain ⟨t, h1, h2⟩ := ha
  obtain ⟨u, g1, g2⟩ := hb
  refine ⟨_, pe_orT h1 g1, fun B st F σ H Q r p => ?_⟩
  refine h2 B st F σ H _ r (PostG.bind p fun d st1 v F1 H1 e1 r1 a1 p1 => ?_)
  cases hz : d.truth with
  | none => rw [hz] at p1; exact p1.elim
  | some k =>
    rw [hz] at p1
    refine ⟨k, truth_ok r1.ext a1 hz, ?_⟩
    cases k with
    | false => exact iteF (g2 B st1 F1 σ H1 _ r1 p1)
    | true => exact iteT (p1 v F1 H1 (Same.refl _) r1 a1)
theorem re_not (ha : RE X W a fa) : RE X W (.UnaryOp .Not a pos) (mNotV fa) := by
  obtain ⟨t, h1, h2⟩ := ha
  refine ⟨_, pe_notT h1, fun B st F σ H Q r p => ?_⟩
  refine h2 B st F σ H _ r (PostG.bind p fun d st1 v F1 H1 e1 r1 a1 p1 => ?_)
  cases hz : d.truth with
  | none => rw [hz] at p1; exact p1.elim
  | some k =>
    rw [hz] at p1
    exact ⟨k, truth_ok r1.ext a1 hz, p1 _ F1 H1 (Same.refl _) r1 (.bl _)⟩
def mIf (g : MS → Out Bool) (fa fb : MS → Out D) : MS → Out D := fun st => (g st).bind fun k st1 => if k = true then fa st1 else fb st1
theorem re_ifExp (hc : RT X W c ga) (ha : RE X W a fa) (hb : RE X W b fb) : RE X W (.IfExp c a b pos) (mIf ga fa fb) := by
  obtain ⟨v, k1, k2⟩ := hc
  obtain ⟨t, h1, h2⟩ := ha
  obtain ⟨u, g1, g2⟩ := hb
  refine ⟨_, pe_ifExp k1 h1 g1, fun B st F σ H Q r p => ?_⟩
  refine k2 B st F σ H _ r (PostG.bind p fun k st1 v F1 H1 e1 r1 a1 p1 => ?_)
  cases a1
  cases k with
  | true => exact iteT (h2 B st1 F1 σ H1 _ r1 p1)
  | false => exact iteF (g2 B st1 F1 σ H1 _ r1 p1)

/-! ### subscripts, unary, built-ins -/
def IxD (X : Cx) (g : D → D → Option D) : Prop :=
  ∃ r2 : R2, IxR X r2 ∧ ∀ F H x y d e z Q, Ex F H → At X.K F x d → At X.K F y e → g d e = some z → (∀ v F' H', Stp F H F' H' → At X.K F' v z → Q v H') → r2 x y H Q
theorem re_ix {g : D → D → Option D} (ho : IxD X g) (ha : RE X W a fa) (hb : RE X W b fb) (hs : PlainIx b := by exact fun _ _ => rfl) : RE X W (.Subscript a b pos) (mBin g fa fb) := by
  obtain ⟨r2, o1, o2⟩ := ho
  obtain ⟨t, h1, h2⟩ := ha
  obtain ⟨u, g1, g2⟩ := hb
  exact ⟨_, pe_ix o1 h1 g1 hs, tOp_rd (f := binaryOp .Add) o2 h2 g2⟩
def UnD (X : Cx) (f : Value → Sem Value) (g : D → Option D) : Prop :=
  ∃ r : V → Hp → VK → Prop, UnR X f r ∧ ∀ F H x d z Q, Ex F H → At X.K F x d → g d = some z → (∀ v F' H', Stp F H F' H' → At X.K F' v z → Q v H') → r x H Q
def mUn (g : D → Option D) (fa : MS → Out D) : MS → Out D := fun st => (fa st).bind fun x st1 => lift (g x) st1
theorem re_un {op : UnaryOp} {g : D → Option D} (ho : UnD X (unaryOp op) g) (ha : RE X W a fa) : RE X W (.UnaryOp op a pos) (mUn g fa) := by
  obtain ⟨r2, o1, o2⟩ := ho
  obtain ⟨t, h1, h2⟩ := ha
  refine ⟨_, pe_un o1 h1, fun B st F σ H Q r p => ?_⟩
  refine h2 B st F σ H _ r (PostG.bind p fun d st1 v F1 H1 e1 r1 a1 p1 => ?_)
  cases hz : g d with
  | none => rw [hz] at p1; exact p1.elim
  | some z =>
    rw [hz] at p1
    exact o2 F1 H1 v d z Q r1.ext a1 hz fun w F2 H2 s a2 => p1 w F2 H2 s.f (r1.step s) a2
/-- a known callable upon values -/
def CallD (X : Cx) (u : Value) (g : List D → Option D) : Prop :=
  ∃ r : List V → Hp → VK → Prop, CallR X u r ∧ ∀ F H vs ds z Q, Ex F H → Ats X.K F vs ds → g ds = some z → (∀ v F' H', Stp F H F' H' → At X.K F' v z → Q v H') → r vs H Q
def mCB (g : List D → Option D) (fs : MS → Out (List D)) : MS → Out D := fun st => (fs st).bind fun ds st1 => lift (g ds) st1
theorem tCB_rd {u : Value} {g : List D → Option D} {r2 : List V → Hp → VK → Prop} {t : TA} {fs : MS → Out (List D)}
    (o2 : ∀ F H vs ds z Q, Ex F H → Ats X.K F vs ds → g ds = some z → (∀ v F' H', Stp F H F' H' → At X.K F' v z → Q v H') → r2 vs H Q)
    (h2 : RdG X W (RAts X.K) t fs) : RdG X W (RAt X.K) (tCB r2 t) (mCB g fs) := by
  intro B st F σ H Q r p
  refine h2 B st F σ H _ r (PostG.bind p fun ds st1 vs F1 H1 e1 r1 a1 p1 => ?_)
  cases hz : g ds with
  | none => rw [hz] at p1; exact p1.elim
  | some z =>
    rw [hz] at p1
    exact o2 F1 H1 vs ds z Q r1.ext a1 hz fun w F2 H2 s a2 => p1 w F2 H2 s.f (r1.step s) a2
theorem re_callB {x : Str} {p : Pos} {id : String} {g : List D → Option D} {fs : MS → Out (List D)} (hc : CallD X (.builtin id) g) (hm : X.mg x = none) (hv : bootBuiltins x = some (.builtin id)) (ha : RA X W (e :: es) fs) (hg : Gl X x := by rfl)
    (hn : x ≠ "__name__" := by decide) (hdb : (x == ("__debug__" : Str)) = false := by decide)
    (he : starEach (e :: es) X.env = (false, eval e X.env) :: starEach es X.env := by rfl) (hpl : (backTo pos (starEach es X.env)).any (·.1) = false := by rfl) : RE X W (.Call (.Name x p) (e :: es) [] pos) (mCB g fs) := by
  obtain ⟨r2, o1, o2⟩ := hc
  obtain ⟨t, h1, h2⟩ := ha
  exact ⟨_, pe_callB o1 hg hm hv h1 hn hdb he hpl, tCB_rd (u := .builtin id) o2 h2⟩
theorem re_callTy {x : Str} {p : Pos} {id : String} {g : List D → Option D} {fs : MS → Out (List D)} (hc : CallD X (.type id) g) (hm : X.mg x = none) (hv : bootBuiltins x = some (.type id)) (ha : RA X W (e :: es) fs) (hg : Gl X x := by rfl)
    (hn : x ≠ "__name__" := by decide) (hdb : (x == ("__debug__" : Str)) = false := by decide)
    (he : starEach (e :: es) X.env = (false, eval e X.env) :: starEach es X.env := by rfl) (hpl : (backTo pos (starEach es X.env)).any (·.1) = false := by rfl) : RE X W (.Call (.Name x p) (e :: es) [] pos) (mCB g fs) := by
  obtain ⟨r2, o1, o2⟩ := hc
  obtain ⟨t, h1, h2⟩ := ha
  exact ⟨_, pe_callTy o1 hg hm hv h1 hn hdb he hpl, tCB_rd (u := .type id) o2 h2⟩
/-- a name of a module that is a built-in function -/
theorem re_callM {x : Str} {p : Pos} {id : String} {g : List D → Option D} {fs : MS → Out (List D)} (hc : CallD X (.builtin id) g) (hm : X.mg x = some (.builtin id)) (ha : RA X W (e :: es) fs) (hg : Gl X x := by rfl)
    (hdb : (x == ("__debug__" : Str)) = false := by decide)
    (he : starEach (e :: es) X.env = (false, eval e X.env) :: starEach es X.env := by rfl) (hpl : (backTo pos (starEach es X.env)).any (·.1) = false := by rfl) : RE X W (.Call (.Name x p) (e :: es) [] pos) (mCB g fs) := by
  obtain ⟨r2, o1, o2⟩ := hc
  obtain ⟨t, h1, h2⟩ := ha
  exact ⟨_, pe_callBfun o1 hg hm h1 hdb he hpl, tCB_rd (u := .builtin id) o2 h2⟩
end
end MX

namespace MX
open PySem PySem.Spec L2
open PyProof.Rows hiding St

/-! ### statements -/
inductive OutS where
  | nx (st : MS) | ret (d : D) (st : MS) | bk (st : MS) | ct (st : MS) | err (c : Str) (d : D) (st : MS) | stuck
def PostS (K : PySem.W.Frag) (mg : Str → Option Value) (B : Base) (F : Hp) (W : WX) (D' : Ends) : OutS → Prop
  | .nx st => ∀ σ F' H', Ex F F' → Rel K B F' st σ H' → D'.nx σ H'
  | .ret d st => ∀ v σ F' H', Ex F F' → Rel K B F' st σ H' → At K F' v d → D'.rt v H'
  | .bk st => ∀ σ F' H', Ex F F' → Rel K B F' st σ H' → D'.bk σ H'
  | .ct st => ∀ σ F' H', Ex F F' → Rel K B F' st σ H' → D'.ct σ H'
  | .err c d st => ∀ cls dx σ F' H', Ex F F' → Rel K B F' st σ H' → ErrIs K mg F' H' c d cls dx → W cls dx σ H'
  | .stuck => False
theorem PostS.mono {K : PySem.W.Frag} {mg : Str → Option Value} {B : Base} {F F' : Hp} {W : WX} {D' : Ends} {o : OutS} (e : Ex F F') (h : PostS K mg B F W D' o) : PostS K mg B F' W D' o := by
  cases o with
  | nx st => exact fun σ F2 H2 e2 r => h σ F2 H2 (e.trans e2) r
  | ret d st => exact fun v σ F2 H2 e2 r a => h v σ F2 H2 (e.trans e2) r a
  | bk st => exact fun σ F2 H2 e2 r => h σ F2 H2 (e.trans e2) r
  | ct st => exact fun σ F2 H2 e2 r => h σ F2 H2 (e.trans e2) r
  | err c d st => exact fun cls dx σ F2 H2 e2 r a => h cls dx σ F2 H2 (e.trans e2) r a
  | stuck => exact h
def RdS (X : Cx) (W : WX) (t : TS) (g : MS → OutS) : Prop := ∀ B st F σ H D', Rel X.K B F st σ H → PostS X.K X.mg B F W D' (g st) → t D' σ H
def RS (X : Cx) (W : WX) (s : Stmt) (g : MS → OutS) : Prop := ∃ t, PS X s t ∧ RdS X W t g
def RSs (X : Cx) (W : WX) (s : List Stmt) (g : MS → OutS) : Prop := ∃ t, PSs X s t ∧ RdS X W t g
def Out.toS {α : Type} : Out α → (α → MS → OutS) → OutS
  | .ok a st, k => k a st
  | .err c d st, _ => .err c d st
  | .stuck, _ => .stuck
@[simp] theorem Out.toS_ok {α : Type} (a : α) (st : MS) (k : α → MS → OutS) : (Out.ok a st).toS k = k a st := rfl
@[simp] theorem Out.toS_err {α : Type} (c : Str) (d : D) (st : MS) (k : α → MS → OutS) : (Out.err c d st).toS k = .err c d st := rfl
@[simp] theorem Out.toS_stuck {α : Type} (k : α → MS → OutS) : (Out.stuck).toS k = .stuck := rfl
theorem PostS.toS {K : PySem.W.Frag} {mg : Str → Option Value} {α β : Type} {S : Hp → Hp → α → β → Prop} {B : Base} {σ : St} {F : Hp} {W : WX} {D' : Ends} {Q' : β → Hp → Prop} {o : Out α} {k : α → MS → OutS} (h : PostS K mg B F W D' (o.toS k))
    (hk : ∀ d st v F' H', Ex F F' → Rel K B F' st σ H' → S F' H' d v → PostS K mg B F' W D' (k d st) → Q' v H') : PostG K mg S B σ F W Q' o := by
  cases o with
  | ok a st => exact fun v F2 H2 e2 r a' => hk a st v F2 H2 e2 r a' (h.mono e2)
  | err c d st => exact fun cls dx F2 H2 e2 r a => h cls dx σ F2 H2 e2 r a
  | stuck => exact h
def OutS.seq : OutS → (MS → OutS) → OutS
  | .nx st, k => k st
  | o, _ => o
@[simp] theorem OutS.seq_nx (st : MS) (k : MS → OutS) : (OutS.nx st).seq k = k st := rfl
@[simp] theorem OutS.seq_ret (d : D) (st : MS) (k : MS → OutS) : (OutS.ret d st).seq k = .ret d st := rfl
@[simp] theorem OutS.seq_bk (st : MS) (k : MS → OutS) : (OutS.bk st).seq k = .bk st := rfl
@[simp] theorem OutS.seq_ct (st : MS) (k : MS → OutS) : (OutS.ct st).seq k = .ct st := rfl
@[simp] theorem OutS.seq_err (c : Str) (d : D) (st : MS) (k : MS → OutS) : (OutS.err c d st).seq k = .err c d st := rfl
@[simp] theorem OutS.seq_stuck (k : MS → OutS) : (OutS.stuck).seq k = .stuck := rfl
theorem PostS.seq {K : PySem.W.Frag} {mg : Str → Option Value} {B : Base} {F : Hp} {W : WX} {D' : Ends} {o : OutS} {k : MS → OutS} {nx : St → Hp → Prop} (h : PostS K mg B F W D' (o.seq k))
    (hk : ∀ st σ F' H', Ex F F' → Rel K B F' st σ H' → PostS K mg B F' W D' (k st) → nx σ H') : PostS K mg B F W { D' with nx := nx } o := by
  cases o with
  | nx st => exact fun σ F2 H2 e2 r => hk st σ F2 H2 e2 r (PostS.mono e2 h)
  | ret d st => exact h
  | bk st => exact h
  | ct st => exact h
  | err c d st => exact h
  | stuck => exact h

section
variable {X : Cx} {W : WX} {a b c e : Expr} {es : List Expr} {pos : Pos} {f fa fb fc : MS → Out D} {s : Stmt} {ss : List Stmt} {g h : MS → OutS}
def mSeq (g h : MS → OutS) : MS → OutS := fun st => (g st).seq h
theorem rs_nil : RSs X W [] .nx := ⟨_, pss_nil, fun B st F σ H D' r p => p σ F H (Same.refl F) r⟩
theorem rs_cons (h1 : RS X W s g) (h2 : RSs X W ss h) : RSs X W (s :: ss) (mSeq g h) := by
  obtain ⟨t, t1, t2⟩ := h1
  obtain ⟨u, u1, u2⟩ := h2
  refine ⟨_, pss_cons t1 u1, fun B st F σ H D' r p => ?_⟩
  exact t2 B st F σ H _ r (PostS.seq p fun st1 σ1 F1 H1 e1 r1 p1 => u2 B st1 F1 σ1 H1 D' r1 p1)
theorem rs_one (h1 : RS X W s g) : RSs X W [s] g := by
  obtain ⟨t, t1, t2⟩ := h1
  exact ⟨_, pss_one t1, t2⟩
theorem rs_pass : RS X W (.Pass pos) .nx := ⟨_, ps_pass, fun B st F σ H D' r p => p σ F H (Same.refl F) r⟩
theorem rs_break : RS X W (.Break pos) .bk := ⟨_, ps_break, fun B st F σ H D' r p => p σ F H (Same.refl F) r⟩
theorem rs_continue : RS X W (.Continue pos) .ct := ⟨_, ps_continue, fun B st F σ H D' r p => p σ F H (Same.refl F) r⟩
theorem rs_doc {x j pos'} : RS X W (.Expr (.Constant (.str x) j pos) pos') .nx := ⟨_, ps_doc, fun B st F σ H D' r p => p σ F H (Same.refl F) r⟩
def mRet (f : MS → Out D) : MS → OutS := fun st => (f st).toS fun d st1 => .ret d st1
theorem rs_ret (he : RE X W e f) : RS X W (.Return (some e) pos) (mRet f) := by
  obtain ⟨t, t1, t2⟩ := he
  refine ⟨_, ps_ret t1, fun B st F σ H D' r p => ?_⟩
  exact t2 B st F σ H _ r (PostS.toS p fun d st1 v F1 H1 e1 r1 a1 p1 => p1 v σ F1 H1 (Same.refl _) r1 a1)
theorem rs_retN : RS X W (.Return none pos) (fun st => .ret .non st) := ⟨_, ps_retN, fun B st F σ H D' r p => p .non σ F H (Same.refl F) r .non⟩
def mExpr (f : MS → Out D) : MS → OutS := fun st => (f st).toS fun _ st1 => .nx st1
theorem rs_expr (he : RE X W e f) (hs : swapsWith e none pos.line X.env = pure false := by rfl) : RS X W (.Expr e pos) (mExpr f) := by
  obtain ⟨t, t1, t2⟩ := he
  refine ⟨_, ps_expr t1 hs, fun B st F σ H D' r p => ?_⟩
  exact t2 B st F σ H _ r (PostS.toS p fun d st1 v F1 H1 e1 r1 a1 p1 => p1 σ F1 H1 (Same.refl _) r1)
def mIfS (c : MS → Out Bool) (g h : MS → OutS) : MS → OutS := fun st => (c st).toS fun k st1 => if k = true then g st1 else h st1
theorem rs_if {gc : MS → Out Bool} {p q : List Stmt} (hc : RT X W c gc) (hp : RSs X W p g) (hq : RSs X W q h) : RS X W (.If c p q pos) (mIfS gc g h) := by
  obtain ⟨v, v1, v2⟩ := hc
  obtain ⟨t, t1, t2⟩ := hp
  obtain ⟨u, u1, u2⟩ := hq
  refine ⟨_, ps_if v1 t1 u1, fun B st F σ H D' r p => ?_⟩
  refine v2 B st F σ H _ r (PostS.toS p fun k st1 v F1 H1 e1 r1 a1 p1 => ?_)
  cases a1
  cases k with
  | true => exact iteT (t2 B st1 F1 σ H1 _ r1 p1)
  | false => exact iteF (u2 B st1 F1 σ H1 _ r1 p1)

/-! ### targets -/
/-- js: the slots that may change -/
def RG (X : Cx) (tg : Expr) (js : List Nat) (h : D → MS → Option MS) : Prop :=
  ∃ g, PG X tg g ∧ ∀ B st F σ H v d st' Q, Rel X.K B F st σ H → At X.K F v d → h d st = some st' → (∀ σ', (∀ k, k ∉ js → σ'[k]? = σ[k]?) → σ'.length = σ.length → Rel X.K B F st' σ' H → Q σ' H) → g v σ H Q
def tgName (i : Nat) : D → MS → Option MS := fun d st => some (st.set i (.val d))
theorem rg_name {x : Str} {i : Nat} (h : PG X (.Name x pos) (gName i)) : RG X (.Name x pos) [i] (tgName i) := by
  refine ⟨_, h, fun B st F σ H v d st' Q r a e k => ?_⟩
  cases e
  exact k _ (fun j hj => List.getElem?_set_ne (fun z => hj (by simp [z]))) (List.length_set ..) (r.setv a)
def RGs (X : Cx) (tgs : List Expr) (js : List Nat) (h : List D → MS → Option MS) : Prop :=
  ∃ g, PGs X tgs g ∧ ∀ B st F σ H vs ds st' Q, Rel X.K B F st σ H → Ats X.K F vs ds → h ds st = some st' → (∀ σ', (∀ k, k ∉ js → σ'[k]? = σ[k]?) → σ'.length = σ.length → Rel X.K B F st' σ' H → Q σ' H) → g vs σ H Q
def tgNil : List D → MS → Option MS := fun ds st => match ds with
  | [] => some st
  | _ => none
def tgCons (h : D → MS → Option MS) (hs : List D → MS → Option MS) : List D → MS → Option MS := fun ds st => match ds with
  | d :: ds => (h d st).bind (hs ds)
  | [] => none
theorem rgs_nil : RGs X [] [] tgNil := by
  refine ⟨_, pgs_nil, fun B st F σ H vs ds st' Q r a e k => ?_⟩
  cases a with
  | nil =>
    cases e
    exact ⟨rfl, k σ (fun _ _ => rfl) rfl r⟩
  | cons _ _ => cases e
theorem rgs_cons {tg : Expr} {tgs : List Expr} {js ks : List Nat} {h : D → MS → Option MS} {hs : List D → MS → Option MS} (h1 : RG X tg js h) (h2 : RGs X tgs ks hs)
    (hst : (assignEach (tg :: tgs) X.env).map (·.2) = assign tg X.env :: (assignEach tgs X.env).map (·.2) := by rfl) : RGs X (tg :: tgs) (js ++ ks) (tgCons h hs) := by
  obtain ⟨t, t1, t2⟩ := h1
  obtain ⟨u, u1, u2⟩ := h2
  refine ⟨_, pgs_cons t1 u1 hst, fun B st F σ H vs ds st' Q r a e k => ?_⟩
  cases a with
  | nil => cases e
  | cons a1 a2 =>
    rename_i v vs d ds
    cases hz : h d st with
    | none => rw [show tgCons h hs (d :: ds) st = (h d st).bind (hs ds) from rfl, hz] at e; cases e
    | some st1 =>
      rw [show tgCons h hs (d :: ds) st = (h d st).bind (hs ds) from rfl, hz] at e
      refine ⟨v, vs, rfl, t2 B st F σ H v d st1 _ r a1 hz fun σ1 k1 l1 r1 => ?_⟩
      exact u2 B st1 F σ1 H vs ds st' Q r1 a2 e fun σ2 k2 l2 r2 => k σ2 (fun j hj => (k2 j fun z => hj (List.mem_append_right _ z)).trans (k1 j fun z => hj (List.mem_append_left _ z))) (l2.trans l1) r2
def tgTup (n : Nat) (h : List D → MS → Option MS) : D → MS → Option MS := fun d st => match d with
  | .tup ds => if ds.length = n then h ds st else none
  | _ => none
theorem rg_tup {js : List Nat} {h : List D → MS → Option MS} {k n : Nat} (hc : X.calm = true) (h1 : RGs X es js h)
    (hn : (assignEach es X.env).length = n := by rfl) (hst : (assignEach es X.env).findIdx? (·.1) = none := by rfl) : RG X (.Tuple es k pos) js (tgTup n h) := by
  obtain ⟨t, t1, t2⟩ := h1
  refine ⟨_, pg_tup hc t1 hn hst, fun B st F σ H v d st' Q r a e kk => ?_⟩
  cases a with
  | tup hs ha =>
    rename_i a xs ds
    unfold tgTup at e
    dsimp only at e
    by_cases hz : ds.length = n
    · rw [if_pos hz] at e
      exact ⟨a, xs, rfl, ex_t r.ext hs, by rw [ha.length]; exact hz, t2 B st F σ H xs ds st' Q r ha e kk⟩
    · rw [if_neg hz] at e
      cases e
  | _ => cases e
def mAsg (f : MS → Out D) (h : D → MS → Option MS) : MS → OutS := fun st => (f st).toS fun d st1 => match h d st1 with
  | some st2 => .nx st2
  | none => .stuck
theorem asg_rd {js : List Nat} {h : D → MS → Option MS} {t : TE} {tg : TG} (t2 : RdG X W (RAt X.K) t f)
    (u2 : ∀ B st F σ H v d st' Q, Rel X.K B F st σ H → At X.K F v d → h d st = some st' → (∀ σ', (∀ k, k ∉ js → σ'[k]? = σ[k]?) → σ'.length = σ.length → Rel X.K B F st' σ' H → Q σ' H) → tg v σ H Q) : RdS X W (tAsg t tg) (mAsg f h) := by
  intro B st F σ H D' r p
  refine t2 B st F σ H _ r (PostS.toS p fun d st1 v F1 H1 e1 r1 a1 p1 => ?_)
  cases hz : h d st1 with
  | none => rw [hz] at p1; exact p1.elim
  | some st2 =>
    rw [hz] at p1
    exact u2 B st1 F1 σ H1 v d st2 _ r1 a1 hz fun σ' _ _ r2 => p1 σ' F1 H1 (Same.refl _) r2
theorem rs_asg {tg : Expr} {js : List Nat} {h : D → MS → Option MS} (he : RE X W e f) (hg : RG X tg js h) (hs : swapsWithSole [tg] e pos.line X.env = pure false := by rfl) (hw : swappedStores [tg] e X.env = pure none := by rfl)
    (h1 : (assignEach [tg] X.env).map (·.2) = [assign tg X.env] := by rfl) : RS X W (.Assign [tg] e pos) (mAsg f h) := by
  obtain ⟨t, t1, t2⟩ := he
  obtain ⟨u, u1, u2⟩ := hg
  exact ⟨_, ps_asg t1 u1 hs hw h1, asg_rd t2 u2⟩
/-- name = value -/
theorem rs_set {x : Str} {i : Nat} {pos' : Pos} (hN : X.N.Nodup) (hi : X.N[i]? = some x) (hx : Loc X.env.scope x) (he : RE X W e f) (hs : swapsWith e (some (.Name x pos')) pos.line X.env = pure false := by rfl) (hf : X.fn x = true ∨ X.env.scope.names.lookup x = some .local := by first | exact .inl rfl | exact .inr rfl | assumption) :
    RS X W (.Assign [.Name x pos'] e pos) (mAsg f (tgName i)) := by
  obtain ⟨t, t1, t2⟩ := he
  refine ⟨_, ps_set hN hi hx t1 hs hf, asg_rd (js := [i]) t2 fun B st F σ H v d st' Q r a e k => ?_⟩
  cases e
  exact k _ (fun j hj => List.getElem?_set_ne (fun z => hj (by simp [z]))) (List.length_set ..) (r.setv a)
/-- name = a new list, the name's own -/
def mOwn (i : Nat) (f : MS → Out (List D)) : MS → OutS := fun st => (f st).toS fun ds st1 => .nx (st1.set i (.own false (.lst ds)))
theorem rs_own {x : Str} {i : Nat} {pos' : Pos} {fn : MS → Out (List D)} (hN : X.N.Nodup) (hi : X.N[i]? = some x) (hx : Loc X.env.scope x) (he : RN X W e fn) (hs : swapsWith e (some (.Name x pos')) pos.line X.env = pure false := by rfl) (hf : X.fn x = true ∨ X.env.scope.names.lookup x = some .local := by first | exact .inl rfl | exact .inr rfl | assumption) :
    RS X W (.Assign [.Name x pos'] e pos) (mOwn i fn) := by
  obtain ⟨t, t1, t2⟩ := he
  refine ⟨_, ps_set hN hi hx t1 hs hf, fun B st F σ H D' r p => ?_⟩
  refine t2 B st F σ H _ r ?_
  unfold mOwn at p
  cases hg : fn st with
  | stuck => rw [hg] at p; exact p
  | err c d st' => rw [hg] at p; exact fun cls dx F2 H2 e2 r2 a2 => p cls dx σ F2 H2 e2 r2 a2
  | ok ds st' =>
    rw [hg] at p
    intro a F1 H1 e1 r1 f1
    exact p _ F1 H1 e1 (r1.seto f1)
/-- a, b = x, y -/
def mPar (i j : Nat) (f : MS → Out (List D)) : MS → OutS := fun st => (f st).toS fun ds st1 => match ds with
  | [d, e] => .nx ((st1.set i (.val d)).set j (.val e))
  | _ => .stuck
theorem rs_par {i j : Nat} {x y : Str} {px py pt : Pos} {kt k2 pt2} {fs : MS → Out (List D)} (hc : X.calm = true) (hN : X.N.Nodup) (hi : X.N[i]? = some x) (hj : X.N[j]? = some y) (hij : i ≠ j)
    (hx : X.env.scope.names.lookup x = some .local) (hy : X.env.scope.names.lookup y = some .local) (ha : RA X W [a, b] fs)
    (hw : swappedStores [.Tuple [.Name x px, .Name y py] kt pt] (.Tuple [a, b] k2 pt2) X.env = pure (some [x, y]) := by rfl)
    (hs : swapsWithSole [.Tuple [.Name x px, .Name y py] kt pt] (.Tuple [a, b] k2 pt2) pos.line X.env = pure false := by rfl) :
    RS X W (.Assign [.Tuple [.Name x px, .Name y py] kt pt] (.Tuple [a, b] k2 pt2) pos) (mPar i j fs) := by
  obtain ⟨t, t1, t2⟩ := ha
  refine ⟨_, ps_par hc hN hi hj hij hx hy t1 hw hs, fun B st F σ H D' r p => ?_⟩
  refine t2 B st F σ H _ r (PostS.toS p fun ds st1 vs F1 H1 e1 r1 a1 p1 => ?_)
  cases a1 with
  | nil => exact p1.elim
  | cons b1 a2 =>
    cases a2 with
    | nil => exact p1.elim
    | cons b2 a3 =>
      cases a3 with
      | cons _ _ => exact p1.elim
      | nil => exact ⟨_, _, rfl, p1 _ F1 H1 (Same.refl _) ((r1.setv b1).setv b2)⟩

/-! ### own lists -/
theorem Rel.ownAt {K : PySem.W.Frag} {B : Base} {F H : Hp} {st : MS} {σ : St} {i : Nat} {b : Bool} {ds : List D} (r : Rel K B F st σ H) (h : st[i]? = some (.own b (.lst ds))) :
    ∃ a xs, σ[i]? = some (some (.ref a)) ∧ H a = some (.lst xs) ∧ Ats K F xs ds := by
  obtain ⟨a, h1, h2, h3, xs, h4, h5⟩ := r.own i b _ h
  exact ⟨a, xs, h1, h4, h5⟩
/-- x.append(e), x an own list in slot i -/
def mApp (i : Nat) (f : MS → Out D) : MS → OutS := fun st => match st[i]? with
  | some (.own _ (.lst _)) => (f st).toS fun d st1 => match st1[i]? with
    | some (.own b (.lst ds)) => if ds.length < sizeLine then .nx (st1.set i (.own b (.lst (ds ++ [d])))) else .stuck
    | _ => .stuck
  | _ => .stuck
theorem rs_app {x : Str} {i : Nat} {p1 apos cpos : Pos} (hx : PE X (.Name x p1) (tVar i)) (he : RE X W e f) 
    (hs : swapsWith (.Call (.Attribute (.Name x p1) "append" apos) [e] [] cpos) none pos.line X.env = pure false := by rfl)
    (hst : starEach [e] X.env = (false, eval e X.env) :: starEach [] X.env := by rfl)
    (hp : ∀ {t : TE}, PE X e t → PE X (.Call (.Attribute (.Name x p1) "append" apos) [e] [] cpos) (tBM X.K "list" rAppend (tVar i) (tCons t tNil))) :
    RS X W (.Expr (.Call (.Attribute (.Name x p1) "append" apos) [e] [] cpos) pos) (mApp i f) := by
  obtain ⟨t, t1, t2⟩ := he
  refine ⟨_, ps_expr (hp t1) hs, fun B st F σ H D' r p => ?_⟩
  unfold mApp at p
  split at p
  · rename_i b0 ds0 h0
    obtain ⟨a, xs, h1, h2, h3⟩ := r.ownAt h0
    refine ⟨.ref a, h1, .inl ⟨rfl, _, SqL.of h2⟩, ?_⟩
    refine t2 B st F σ H _ r (PostS.toS p fun d st1 v F1 H1 e1 r1 a1 p1 => ?_)
    split at p1
    · rename_i b ds hd
      by_cases hz : ds.length < sizeLine
      · rw [if_pos hz] at p1
        obtain ⟨a', xs', g1, g2, g3⟩ := r1.ownAt hd
        rw [h1] at g1
        cases g1
        exact ⟨a, xs', v, rfl, rfl, g2, by rw [g3.length]; exact hz, p1 σ F1 _ (Same.refl _) (r1.write hd h1 (g3.append (.cons a1 .nil)))⟩
      · rw [if_neg hz] at p1
        exact p1.elim
    · exact p1.elim
  · exact p.elim
/-- x[j] = e, x an own list in slot i -/
def setAt (st : MS) (i : Nat) (d : D) (k : D) : Option MS := match st[i]?, k with
  | some (.own b (.lst ds)), .int k => (ixN ds.length k).map fun j => st.set i (.own b (.lst (ds.set j d)))
  | _, _ => none
def isOwn (st : MS) (i : Nat) : Bool := match st[i]? with
  | some (.own _ (.lst _)) => true
  | _ => false
theorem isOwn_at {st : MS} {i : Nat} (h : isOwn st i = true) : ∃ b ds, st[i]? = some (.own b (.lst ds)) := by
  unfold isOwn at h
  split at h
  · rename_i b ds h1
    exact ⟨b, ds, h1⟩
  · cases h
def mSetI (i : Nat) (fe fj : MS → Out D) : MS → OutS := fun st => (fe st).toS fun d st1 => if isOwn st1 i = true then (fj st1).toS fun k st2 => match setAt st2 i d k with
  | some st3 => .nx st3
  | none => .stuck
  else .stuck
theorem rs_setI {x : Str} {i : Nat} {p1 tpos : Pos} {j : Expr} (hx : PE X (.Name x p1) (tVar i)) (he : RE X W e f) (hj : RE X W j fb)
    (hp : ∀ {te tj : TE}, PE X e te → PE X j tj → PS X (.Assign [.Subscript (.Name x p1) j tpos] e pos) (tAsg te (gSub (tVar i) tj rSetL))) :
    RS X W (.Assign [.Subscript (.Name x p1) j tpos] e pos) (mSetI i f fb) := by
  obtain ⟨t, t1, t2⟩ := he
  obtain ⟨u, u1, u2⟩ := hj
  refine ⟨_, hp t1 u1, fun B st F σ H D' r p => ?_⟩
  refine t2 B st F σ H _ r (PostS.toS p fun d st1 v F1 H1 e1 r1 a1 p1 => ?_)
  by_cases ho : isOwn st1 i = true
  · rw [if_pos ho] at p1
    obtain ⟨b0, ds0, h0⟩ := isOwn_at ho
    obtain ⟨a, xs, h1, _, _⟩ := r1.ownAt h0
    refine ⟨.ref a, h1, ?_⟩
    refine u2 B st1 F1 σ H1 _ r1 (PostS.toS p1 fun k st2 w F2 H2 e2 r2 a2 p2 => ?_)
    unfold setAt at p2
    cases hst : st2[i]? with
    | none => rw [hst] at p2; exact p2.elim
    | some sl =>
      rw [hst] at p2
      cases sl with
      | own b d0 =>
        cases d0 with
        | lst ds =>
          cases a2 with
          | int k0 =>
            dsimp only at p2
            obtain ⟨a', xs', g1, g2, g3⟩ := r2.ownAt hst
            rw [h1] at g1
            cases g1
            cases hz : ixN ds.length k0 with
            | none => rw [hz] at p2; exact p2.elim
            | some m =>
              rw [hz] at p2
              exact ⟨a, xs', k0, m, rfl, rfl, g2, by rw [g3.length]; exact hz, p2 σ F2 _ (Same.refl _) (r2.write hst h1 (g3.set m (a1.mono e2)))⟩
          | _ => exact p2.elim
        | _ => exact p2.elim
      | _ => exact p2.elim
  · rw [if_neg ho] at p1
    exact p1.elim
/-- len(x), x[j] of an own list -/
def mLenO (i : Nat) : MS → Out D := fun st => match st[i]? with
  | some (.own _ (.lst ds)) => .ok (.int ds.length) st
  | _ => .stuck
theorem re_lenO {x : Str} {i : Nat} {p p1 : Pos} (hx : PE X (.Name x p1) (tVar i)) (hm : X.mg "len" = none) (hg : Gl X "len" := by rfl)
    (he : starEach [.Name x p1] X.env = (false, eval (.Name x p1) X.env) :: starEach [] X.env := by rfl) : RE X W (.Call (.Name "len" p) [.Name x p1] [] pos) (mLenO i) := by
  refine ⟨_, pe_callB call_len_seq hg hm PySem.boot_len (pa_cons hx pa_nil he) (by decide) (by decide) he, fun B st F σ H Q r pp => ?_⟩
  unfold mLenO at pp
  split at pp
  · rename_i b ds h0
    obtain ⟨a, xs, h1, h2, h3⟩ := r.ownAt h0
    refine ⟨.ref a, h1, a, xs, rfl, .inl (SqL.of h2), ?_⟩
    rw [h3.length]
    exact pp _ F H (Same.refl _) r (.int _)
  · exact pp.elim
def mIxO (i : Nat) (fj : MS → Out D) : MS → Out D := fun st => if isOwn st i = true then (fj st).bind fun k st1 => match st1[i]?, k with
  | some (.own _ (.lst ds)), .int k => lift (atI ds k) st1
  | _, _ => .stuck
  else .stuck
theorem ats_atI {K : PySem.W.Frag} {F : Hp} {xs : List V} {ds : List D} {k : Int} {d : D} (h : Ats K F xs ds) (e : atI ds k = some d) : ∃ v, atI xs k = some v ∧ At K F v d := by
  unfold atI at e ⊢
  rw [h.length]
  cases hz : ixN ds.length k with
  | none => rw [hz] at e; cases e
  | some j =>
    rw [hz] at e
    exact h.get e
theorem re_ixO {x : Str} {i : Nat} {p1 : Pos} {j : Expr} (hx : PE X (.Name x p1) (tVar i)) (hj : RE X W j fb) (hs : PlainIx j := by exact fun _ _ => rfl) : RE X W (.Subscript (.Name x p1) j pos) (mIxO i fb) := by
  obtain ⟨u, u1, u2⟩ := hj
  refine ⟨_, pe_ix ix_list hx u1 hs, fun B st F σ H Q r p => ?_⟩
  unfold mIxO at p
  by_cases ho : isOwn st i = true
  · rw [if_pos ho] at p
    obtain ⟨b0, ds0, h0⟩ := isOwn_at ho
    obtain ⟨a, xs, h1, _, _⟩ := r.ownAt h0
    refine ⟨.ref a, h1, ?_⟩
    refine u2 B st F σ H _ r (PostG.bind p fun k st1 w F1 H1 e1 r1 a1 p1 => ?_)
    cases hst : st1[i]? with
    | none => rw [hst] at p1; exact p1.elim
    | some sl =>
      rw [hst] at p1
      cases sl with
      | own b d0 =>
        cases d0 with
        | lst ds =>
          cases a1 with
          | int k0 =>
            dsimp only at p1
            obtain ⟨a', xs', g1, g2, g3⟩ := r1.ownAt hst
            rw [h1] at g1
            cases g1
            cases hz : atI ds k0 with
            | none => rw [hz] at p1; exact p1.elim
            | some d =>
              rw [hz] at p1
              obtain ⟨v, hv, av⟩ := ats_atI g3 hz
              exact ⟨a, xs', k0, v, rfl, rfl, SqL.of g2, hv, p1 v F1 H1 (Same.refl _) r1 av⟩
          | _ => exact p1.elim
        | _ => exact p1.elim
      | _ => exact p1.elim
  · rw [if_neg ho] at p
    exact p.elim

/-! ### calls of defs -/
inductive Arg where
  | v (d : D)
  | o (i : Nat)
inductive ArgOk (K : PySem.W.Frag) (F : Hp) (σ : St) : V → Arg → Prop
  | v {x : V} {d : D} : At K F x d → ArgOk K F σ x (.v d)
  | o {x : V} {i : Nat} : σ[i]? = some (some x) → ArgOk K F σ x (.o i)
theorem ArgOk.mono {K : PySem.W.Frag} {F F' : Hp} {σ : St} {x : V} {a : Arg} (e : Ex F F') (h : ArgOk K F σ x a) : ArgOk K F' σ x a := by
  cases h with
  | v h => exact .v (h.mono e)
  | o h => exact .o h
inductive ArgsOk (K : PySem.W.Frag) (F : Hp) (σ : St) : List V → List Arg → Prop
  | nil : ArgsOk K F σ [] []
  | cons {x : V} {xs : List V} {a : Arg} {as : List Arg} : ArgOk K F σ x a → ArgsOk K F σ xs as → ArgsOk K F σ (x :: xs) (a :: as)
theorem ArgsOk.get {K : PySem.W.Frag} {F : Hp} {σ : St} : ∀ {xs : List V} {as : List Arg} {j : Nat} {a : Arg}, ArgsOk K F σ xs as → as[j]? = some a → ∃ x, xs[j]? = some x ∧ ArgOk K F σ x a
  | _, _, _, _, .nil, e => by simp at e
  | _, _, 0, _, .cons h _, e => by simp at e; subst e; exact ⟨_, rfl, h⟩
  | _, _, j + 1, a, .cons _ t, e => by
    obtain ⟨x, h1, h2⟩ := ArgsOk.get (j := j) (a := a) t (by simpa using e)
    exact ⟨x, by simpa using h1, h2⟩
theorem ArgsOk.length {K : PySem.W.Frag} {F : Hp} {σ : St} : ∀ {xs : List V} {as : List Arg}, ArgsOk K F σ xs as → xs.length = as.length
  | _, _, .nil => rfl
  | _, _, .cons _ t => congrArg (· + 1) (ArgsOk.length t)
def RArgs (K : PySem.W.Frag) (σ : St) : Hp → Hp → List Arg → List V → Prop := fun F _ as vs => ArgsOk K F σ vs as
def RAg (X : Cx) (W : WX) (es : List Expr) (f : MS → Out (List Arg)) : Prop := ∃ t, PA X es t ∧ ∀ B st F σ H Q, Rel X.K B F st σ H → PostG X.K X.mg (RArgs X.K σ) B σ F W Q (f st) → t σ H Q
def gNilM : MS → Out (List Arg) := fun st => .ok [] st
def gVal (f : MS → Out D) (g : MS → Out (List Arg)) : MS → Out (List Arg) := fun st => (f st).bind fun d st1 => (g st1).bind fun as st2 => .ok (.v d :: as) st2
def gOwn (i : Nat) (g : MS → Out (List Arg)) : MS → Out (List Arg) := fun st => if isOwn st i = true then (g st).bind fun as st2 => .ok (.o i :: as) st2 else .stuck
theorem rg_nil : RAg X W [] gNilM := ⟨_, pa_nil, fun B st F σ H Q r p => p [] F H (Same.refl F) r .nil⟩
theorem rg_val {fg : MS → Out (List Arg)} (h : RE X W e f) (hs : RAg X W es fg) (hst : starEach (e :: es) X.env = (false, eval e X.env) :: starEach es X.env := by rfl) : RAg X W (e :: es) (gVal f fg) := by
  obtain ⟨t, h1, h2⟩ := h
  obtain ⟨u, g1, g2⟩ := hs
  refine ⟨_, pa_cons h1 g1 hst, fun B st F σ H Q r p => ?_⟩
  refine h2 B st F σ H _ r (PostG.bind p fun d st1 v F1 H1 e1 r1 a1 p1 => ?_)
  refine g2 B st1 F1 σ H1 _ r1 (PostG.bind p1 fun ds st2 vs F2 H2 e2 r2 a2 p2 => ?_)
  exact p2 _ F2 H2 (Same.refl F2) r2 (.cons (.v (At.mono e2 a1)) a2)
theorem rg_own {x : Str} {i : Nat} {p1 : Pos} {fg : MS → Out (List Arg)} (h : PE X (.Name x p1) (tVar i)) (hs : RAg X W es fg) (hst : starEach (.Name x p1 :: es) X.env = (false, eval (.Name x p1) X.env) :: starEach es X.env := by rfl) : RAg X W (.Name x p1 :: es) (gOwn i fg) := by
  obtain ⟨u, g1, g2⟩ := hs
  refine ⟨_, pa_cons h g1 hst, fun B st F σ H Q r p => ?_⟩
  unfold gOwn at p
  by_cases ho : isOwn st i = true
  · rw [if_pos ho] at p
    obtain ⟨b0, ds0, h0⟩ := isOwn_at ho
    obtain ⟨a, xs, h1, _, _⟩ := r.ownAt h0
    refine ⟨.ref a, h1, ?_⟩
    refine g2 B st F σ H _ r (PostG.bind p fun ds st2 vs F2 H2 e2 r2 a2 p2 => ?_)
    exact p2 _ F2 H2 (Same.refl F2) r2 (.cons (.o h1) a2)
  · rw [if_neg ho] at p
    exact p.elim
/-- the one own argument: its place, its slot -/
def ownArg : List Arg → Option (Nat × Nat)
  | [] => none
  | .o i :: _ => some (0, i)
  | .v _ :: as => (ownArg as).map fun p => (p.1 + 1, p.2)
def cntOwn : List Arg → Nat
  | [] => 0
  | .o _ :: as => cntOwn as + 1
  | .v _ :: as => cntOwn as
theorem cntOwn_zero : ∀ {as : List Arg} {j i : Nat}, cntOwn as = 0 → as[j]? ≠ some (.o i)
  | [], j, i, _ => by simp
  | .o _ :: as, j, i, h => by simp [cntOwn] at h
  | .v d :: as, 0, i, h => by simp
  | .v d :: as, j + 1, i, h => by
    have := cntOwn_zero (as := as) (j := j) (i := i) (by simpa [cntOwn] using h)
    simpa using this
theorem ownArg_some : ∀ {as : List Arg} {j i : Nat}, ownArg as = some (j, i) → as[j]? = some (.o i)
  | [], j, i, h => by cases h
  | .o k :: as, j, i, h => by
    simp only [ownArg, Option.some.injEq, Prod.mk.injEq] at h
    obtain ⟨rfl, rfl⟩ := h
    rfl
  | .v d :: as, j, i, h => by
    unfold ownArg at h
    cases hz : ownArg as with
    | none => rw [hz] at h; cases h
    | some p =>
      rw [hz] at h
      obtain ⟨p1, p2⟩ := p
      simp only [Option.map_some, Option.some.injEq, Prod.mk.injEq] at h
      obtain ⟨rfl, rfl⟩ := h
      simpa using ownArg_some hz
theorem ownArg_none : ∀ {as : List Arg} {j i : Nat}, ownArg as = none → as[j]? ≠ some (.o i)
  | [], j, i, _ => by simp
  | .o k :: as, j, i, h => by cases h
  | .v d :: as, 0, i, h => by simp
  | .v d :: as, j + 1, i, h => by
    unfold ownArg at h
    have := ownArg_none (as := as) (j := j) (i := i) (by simpa using h)
    simpa using this
theorem ownArg_uniq : ∀ {as : List Arg} {j i k l : Nat}, cntOwn as ≤ 1 → ownArg as = some (j, i) → as[k]? = some (.o l) → k = j
  | [], j, i, k, l, _, h, _ => by cases h
  | .o m :: as, j, i, 0, l, hc, h, e => by
    simp only [ownArg, Option.some.injEq, Prod.mk.injEq] at h
    exact h.1
  | .o m :: as, j, i, k + 1, l, hc, h, e => by
    have : cntOwn as = 0 := by simp only [cntOwn] at hc; omega
    exact absurd (by simpa using e) (cntOwn_zero (as := as) (j := k) (i := l) this)
  | .v d :: as, j, i, 0, l, hc, h, e => by simp at e
  | .v d :: as, j, i, k + 1, l, hc, h, e => by
    unfold ownArg at h
    cases hz : ownArg as with
    | none => rw [hz] at h; cases h
    | some p =>
      rw [hz] at h
      obtain ⟨p1, p2⟩ := p
      simp only [Option.map_some, Option.some.injEq, Prod.mk.injEq] at h
      obtain ⟨rfl, rfl⟩ := h
      rw [ownArg_uniq (as := as) (k := k) (l := l) (by simpa [cntOwn] using hc) hz (by simpa using e)]
/-- the callee's slots -/
def slotsOf (st : MS) : List Arg → Option (List Slot)
  | [] => some []
  | .v d :: as => (slotsOf st as).map (.val d :: ·)
  | .o i :: as => match st[i]? with
    | some (.own _ (.lst ds)) => (slotsOf st as).map (.own true (.lst ds) :: ·)
    | _ => none
theorem slotsOf_get {st : MS} : ∀ {as : List Arg} {ss : List Slot} {j : Nat} {s : Slot}, slotsOf st as = some ss → ss[j]? = some s → (∃ d, as[j]? = some (.v d) ∧ s = .val d) ∨ ∃ i b ds, as[j]? = some (.o i) ∧ st[i]? = some (.own b (.lst ds)) ∧ s = .own true (.lst ds)
  | [], ss, j, s, h, e => by
    cases h
    simp at e
  | .v d :: as, ss, j, s, h, e => by
    unfold slotsOf at h
    cases hz : slotsOf st as with
    | none => rw [hz] at h; cases h
    | some ss' =>
      rw [hz] at h
      cases h
      cases j with
      | zero => simp at e; exact .inl ⟨d, rfl, e.symm⟩
      | succ j =>
        have := slotsOf_get (j := j) hz (by simpa using e)
        simpa using this
  | .o i :: as, ss, j, s, h, e => by
    unfold slotsOf at h
    split at h
    · rename_i b ds hi
      cases hz : slotsOf st as with
      | none => rw [hz] at h; cases h
      | some ss' =>
        rw [hz] at h
        cases h
        cases j with
        | zero => simp at e; exact .inr ⟨i, b, ds, rfl, hi, e.symm⟩
        | succ j =>
          have := slotsOf_get (j := j) hz (by simpa using e)
          simpa using this
    · cases h
theorem slotsOf_len {st : MS} : ∀ {as : List Arg} {ss : List Slot}, slotsOf st as = some ss → ss.length = as.length
  | [], ss, h => by cases h; rfl
  | .v d :: as, ss, h => by
    unfold slotsOf at h
    cases hz : slotsOf st as with
    | none => rw [hz] at h; cases h
    | some ss' =>
      rw [hz] at h
      cases h
      simp [slotsOf_len hz]
  | .o i :: as, ss, h => by
    unfold slotsOf at h
    split at h
    · cases hz : slotsOf st as with
      | none => rw [hz] at h; cases h
      | some ss' =>
        rw [hz] at h
        cases h
        simp [slotsOf_len hz]
    · cases h
/-- behind the call: the own argument's list as the callee leaves it -/
def putBack (st : MS) (as : List Arg) (ss : List Slot) : MS := match ownArg as with
  | none => st
  | some (j, i) => match st[i]?, ss[j]? with
    | some (.own b _), some (.own _ d) => st.set i (.own b d)
    | _, _ => st.set i .no
/-- a def's mirror: its arguments' slots, its value and these slots behind it -/
abbrev MF := List Slot → Out D
def spM (K : PySem.W.Frag) (mg : Str → Option Value) (mf : MF) : Sp := fun vs H Q E => ∃ (F : Hp) (I : List Addr) (ss : List Slot), Rel K ⟨F, H, I, vs.map some⟩ F ss (vs.map some) H ∧
  (match mf ss with
    | .ok d ss' => ∀ v F' H', Ex F F' → Rel K ⟨F, H, I, vs.map some⟩ F' ss' (vs.map some) H' → At K F' v d → Q v H'
    | .err c d ss' => ∀ cls dx F' H', Ex F F' → Rel K ⟨F, H, I, vs.map some⟩ F' ss' (vs.map some) H' → ErrIs K mg F' H' c d cls dx → E cls dx H'
    | .stuck => False)
def mCall (mf : MF) (fa : MS → Out (List Arg)) : MS → Out D := fun st => (fa st).bind fun as st1 => if cntOwn as ≤ 1 then match slotsOf st1 as with
    | none => .stuck
    | some ss => match mf ss with
      | .ok d ss' => .ok d (putBack st1 as ss')
      | .err c d ss' => .err c d (putBack st1 as ss')
      | .stuck => .stuck
  else .stuck
theorem call_start {K : PySem.W.Frag} {B : Base} {F H : Hp} {st : MS} {σ : St} {as : List Arg} {vs : List V} {ss : List Slot} (r : Rel K B F st σ H) (ha : ArgsOk K F σ vs as) (hc : cntOwn as ≤ 1) (hs : slotsOf st as = some ss) :
    ∃ I : List Addr, Rel K ⟨F, H, I, vs.map some⟩ F ss (vs.map some) H ∧ (∀ a ∈ I, ∃ (j i : Nat) (b : Bool) (d : D), ownArg as = some (j, i) ∧ st[i]? = some (.own b d) ∧ σ[i]? = some (some (.ref a)) ∧ vs[j]? = some (.ref a)) := by
  have base : ∀ I : List Addr, (∀ (j i : Nat) (b : Bool) (d : D), as[j]? = some (.o i) → st[i]? = some (.own b d) → ∃ a : Addr, σ[i]? = some (some (.ref a)) ∧ a ∈ I) → Rel K ⟨F, H, I, vs.map some⟩ F ss (vs.map some) H := fun I hI =>
    { ext0 := Same.refl F, ext := r.ext, keep := fun _ _ q _ => q, there := fun _ q => q, fix := fun _ _ n => n
      len := by rw [slotsOf_len hs, List.length_map, ha.length]
      val := fun j d q => by
        rcases slotsOf_get hs q with ⟨d', h1, h2⟩ | ⟨i, b, ds, h1, h2, h3⟩
        · cases h2
          obtain ⟨x, g1, g2⟩ := ha.get h1
          cases g2 with
          | v g2 => exact ⟨x, by rw [List.getElem?_map, g1]; rfl, g2⟩
        · cases h3
      own := fun j b d q => by
        rcases slotsOf_get hs q with ⟨d', h1, h2⟩ | ⟨i, b', ds, h1, h2, h3⟩
        · cases h2
        · cases h3
          obtain ⟨a, g1, g2⟩ := hI j i _ _ h1 h2
          obtain ⟨a', k1, k2, k3, k4⟩ := r.own i _ _ h2
          rw [g1] at k1
          cases k1
          obtain ⟨x, l1, l2⟩ := ha.get h1
          cases l2 with
          | o l2 =>
            rw [g1] at l2
            cases l2
            exact ⟨a, by rw [List.getElem?_map, l1]; rfl, k2, ⟨g2, k2⟩, k4⟩
      par := fun _ _ _ => rfl
      sep := fun j k b d b' d' a q q' _ _ => by
        rcases slotsOf_get hs q with ⟨d1, h1, h2⟩ | ⟨i, b1, ds, h1, h2, h3⟩
        · cases h2
        rcases slotsOf_get hs q' with ⟨d2, h1', h2'⟩ | ⟨i', b2, ds', h1', h2', h3'⟩
        · cases h2'
        cases ho : ownArg as with
        | none => exact absurd h1 (ownArg_none ho)
        | some p =>
          obtain ⟨p1, p2⟩ := p
          rw [ownArg_uniq hc ho h1, ownArg_uniq hc ho h1'] }
  cases ho : ownArg as with
  | none => exact ⟨[], base [] fun j i b d h _ => absurd h (ownArg_none ho), fun a h => by cases h⟩
  | some p =>
    obtain ⟨j, i⟩ := p
    have h1 := ownArg_some ho
    obtain ⟨x, g1, g2⟩ := ha.get h1
    cases g2 with
    | o g2 =>
      -- the slot there
      have hss : ∃ s, ss[j]? = some s := by
        have hl := slotsOf_len hs
        have hj := (List.getElem?_eq_some_iff.mp h1).1
        exact ⟨ss[j]'(by omega), List.getElem?_eq_getElem (by omega)⟩
      obtain ⟨s, hs1⟩ := hss
      rcases slotsOf_get hs hs1 with ⟨d1, k1, k2⟩ | ⟨i', b1, ds, k1, k2, k3⟩
      · rw [h1] at k1
        cases k1
      · rw [h1] at k1
        cases k1
        obtain ⟨a, l1, l2, l3, l4⟩ := r.own i _ _ k2
        rw [l1] at g2
        cases g2
        refine ⟨[a], base [a] fun j' i' b d q q' => ?_, fun a' ha' => ?_⟩
        · have e1 := ownArg_uniq hc ho q
          subst e1
          rw [h1] at q
          cases q
          exact ⟨a, l1, by simp⟩
        · simp at ha'
          subst ha'
          exact ⟨j, i, b1, _, rfl, k2, l1, g1⟩
theorem call_end {K : PySem.W.Frag} {B : Base} {F H F' H' : Hp} {st : MS} {σ : St} {as : List Arg} {vs : List V} {ss' : List Slot} {I : List Addr} (r : Rel K B F st σ H)
    (hI : ∀ a ∈ I, ∃ j i b d, ownArg as = some (j, i) ∧ st[i]? = some (.own b d) ∧ σ[i]? = some (some (.ref a)) ∧ vs[j]? = some (.ref a)) (hE : Ex F F')
    (hO : ∀ (j i : Nat), ownArg as = some (j, i) → ∃ (b : Bool) (d : D) (a : Addr), st[i]? = some (.own b d) ∧ σ[i]? = some (some (.ref a)) ∧ vs[j]? = some (.ref a) ∧ a ∈ I)
    (c : Rel K ⟨F, H, I, vs.map some⟩ F' ss' (vs.map some) H') : Rel K B F' (putBack st as ss') σ H' := by
  have notI : ∀ p o, B.H0 p = some o → p ∉ B.I → p ∉ I := fun p o q n hp => by
    obtain ⟨j, i, b, d, h1, h2, h3, h4⟩ := hI p hp
    obtain ⟨a, g1, g2, g3, g4⟩ := r.own i b d h2
    rw [h3] at g1
    cases g1
    cases b with
    | true => exact n g3.1
    | false =>
      have g3' : B.H0 p = none := g3
      rw [q] at g3'
      cases g3'
  have ext0 : Ex B.F0 F' := r.ext0.trans hE
  have keep : ∀ p o, B.H0 p = some o → p ∉ B.I → H' p = some o := fun p o q n => c.keep p o (r.keep p o q n) (notI p o q n)
  have there : ∀ p, B.H0 p ≠ none → H' p ≠ none := fun p q => c.there p (r.there p q)
  have fix : ∀ p, B.H0 p ≠ none → B.F0 p = none → F' p = none := fun p q n => c.fix p (r.there p q) (r.fix p q n)
  have val : ∀ (i : Nat) (d : D), st[i]? = some (.val d) → ∃ v, σ[i]? = some (some v) ∧ At K F' v d := fun i d q => by
    obtain ⟨v, h1, h2⟩ := r.val i d q
    exact ⟨v, h1, h2.mono hE⟩
  -- an own slot that was not handed over
  have own : ∀ (i : Nat) (b : Bool) (d : D), st[i]? = some (.own b d) → (∀ j, ownArg as ≠ some (j, i)) → ∃ a, σ[i]? = some (some (.ref a)) ∧ F' a = none ∧ (if b = true then a ∈ B.I ∧ B.F0 a = none else B.H0 a = none) ∧ OwnAt K F' H' a d := fun i b d q hn => by
    obtain ⟨a, h1, h2, h3, h4⟩ := r.own i b d q
    have hna : a ∉ I := fun ha => by
      obtain ⟨j, i', b', d', g1, g2, g3, g4⟩ := hI a ha
      have e := r.sep i i' _ _ _ _ a q g2 h1 g3
      subst e
      exact hn j g1
    have hh : H' a = H a := by
      cases z : H a with
      | none => exact absurd z h4.there
      | some o => exact c.keep a o z hna
    exact ⟨a, h1, c.fix a h4.there h2, h3, h4.mono hE hh⟩
  cases ho : ownArg as with
  | none =>
    have e : putBack st as ss' = st := by unfold putBack; rw [ho]
    rw [e]
    exact { ext0 := ext0, ext := c.ext, keep := keep, there := there, fix := fix, len := r.len, val := val, own := fun i b d q => own i b d q fun j => by (rw [ho]; exact fun z => by cases z), par := r.par, sep := r.sep }
  | some p =>
    obtain ⟨j, i⟩ := p
    obtain ⟨b0, d0, a, h1, h2, h3, h4⟩ := hO j i ho
    -- the new slot at i
    have gen : ∀ s : Slot, (s = .no ∨ ∃ d, s = .own b0 d ∧ ∃ b' : Bool, ss'[j]? = some (.own b' d)) → Rel K B F' (st.set i s) σ H' := fun s hs =>
      { ext0 := ext0, ext := c.ext, keep := keep, there := there, fix := fix, len := by rw [List.length_set, r.len]
        val := fun k d q => by
          rcases set_cases q with ⟨rfl, z, hl⟩ | ⟨n, q⟩
          · rcases hs with rfl | ⟨d', rfl, _⟩ <;> cases z
          · exact val k d q
        own := fun k b d q => by
          rcases set_cases q with ⟨rfl, z, hl⟩ | ⟨n, q⟩
          · rcases hs with rfl | ⟨d', rfl, b', hd⟩
            · cases z
            · cases z
              obtain ⟨a', g1, g2, g3, g4⟩ := c.own j b' d hd
              rw [List.getElem?_map, h3] at g1
              cases g1
              obtain ⟨a2, k1, k2, k3, k4⟩ := r.own i _ d0 h1
              rw [h2] at k1
              cases k1
              exact ⟨a, h2, g2, k3, g4⟩
          · exact own k b d q fun j' z => n (by rw [ho] at z; cases z; rfl)
        par := fun k d q => by
          rcases set_cases q with ⟨rfl, z, hl⟩ | ⟨n, q⟩
          · rcases hs with rfl | ⟨d', rfl, b', hd⟩
            · cases z
            · cases z
              exact r.par i d0 h1
          · exact r.par k d q
        sep := fun k l b d b' d' a' q q' e e' => by
          have f : ∀ {k : Nat} {b : Bool} {d : D}, (st.set i s)[k]? = some (.own b d) → ∃ b' d', st[k]? = some (.own b' d') := by
            intro k b d q
            rcases set_cases q with ⟨rfl, z, hl⟩ | ⟨n, q⟩
            · exact ⟨_, _, h1⟩
            · exact ⟨_, _, q⟩
          obtain ⟨_, _, q1⟩ := f q
          obtain ⟨_, _, q2⟩ := f q'
          exact r.sep k l _ _ _ _ a' q1 q2 e e' }
    unfold putBack
    rw [ho]
    dsimp only
    rw [h1]
    cases hj : ss'[j]? with
    | none => exact gen .no (.inl rfl)
    | some s =>
      cases s with
      | own b' d => exact gen _ (.inr ⟨d, rfl, b', hj⟩)
      | _ => exact gen .no (.inl rfl)
/-- f(e, ..), f a def of the module -/
theorem re_call {x : Str} {p : Pos} {k : Nat} {fa' : Addr} {fd : FuncData} {ps : List Str} {mf : MF} {fa0 : MS → Out (List Arg)} (FF : FnOk X.prog X.w X.K X.mg X.base (L2.CX X.prog X.w) k fa' fd ps (spM X.K X.mg mf)) (hr : Room k X.A) (hm : X.mg x = some (.ref fa'))
    (hk : PySem.W.keepIn X.K (.ref fa') = true) (hb : Binds X.K fd ps []) (tk : Takes X W) (ha : RAg X W (e :: es) fa0) (hg : Gl X x := by rfl) (hdb : (x == ("__debug__" : Str)) = false := by decide)
    (he : starEach (e :: es) X.env = (false, eval e X.env) :: starEach es X.env := by rfl) (hpl : (backTo pos (starEach es X.env)).any (·.1) = false := by rfl) : RE X W (.Call (.Name x p) (e :: es) [] pos) (mCall mf fa0) := by
  obtain ⟨t, t1, t2⟩ := ha
  refine ⟨_, pe_callSD (E := fun σ => WE W σ) FF hr hg hm hk hb .nil (fun σ => passAt tk σ) t1 hdb he hpl, fun B st F σ H Q r pp => ?_⟩
  refine t2 B st F σ H _ r (PostG.bind pp fun as st1 vs F1 H1 e1 r1 a1 p1 => ?_)
  by_cases hc : cntOwn as ≤ 1
  · rw [if_pos hc] at p1
    cases hs : slotsOf st1 as with
    | none => rw [hs] at p1; exact p1.elim
    | some ss =>
      rw [hs] at p1
      have a1' : ArgsOk X.K F1 σ vs as := a1
      obtain ⟨I, rc, hI⟩ := call_start r1 a1' hc hs
      have hO : ∀ (j i : Nat), ownArg as = some (j, i) → ∃ (b : Bool) (d : D) (a : Addr), st1[i]? = some (.own b d) ∧ σ[i]? = some (some (.ref a)) ∧ vs[j]? = some (.ref a) ∧ a ∈ I := fun j i ho => by
        have h1 := ownArg_some ho
        have hj := (List.getElem?_eq_some_iff.mp h1).1
        have hss : ss[j]? = some (ss[j]'(by rw [slotsOf_len hs]; exact hj)) := List.getElem?_eq_getElem _
        rcases slotsOf_get hs hss with ⟨d1, k1, k2⟩ | ⟨i', b1, ds, k1, k2, k3⟩
        · rw [h1] at k1
          cases k1
        · rw [h1] at k1
          cases k1
          obtain ⟨a, l1, l2, l3, l4⟩ := rc.own j true (.lst ds) (by rw [hss, k3])
          rw [List.getElem?_map] at l1
          cases hv : vs[j]? with
          | none => rw [hv] at l1; cases l1
          | some v0 =>
            rw [hv] at l1
            cases l1
            obtain ⟨x0, g1, g2⟩ := a1'.get h1
            rw [hv] at g1
            cases g1
            cases g2 with
            | o g2 => exact ⟨_, _, a, k2, g2, rfl, l3.1⟩
      show spM X.K X.mg mf (vs ++ []) H1 Q (WE W σ)
      rw [List.append_nil]
      refine ⟨F1, I, ss, rc, ?_⟩
      dsimp only at p1
      cases hmf : mf ss with
      | stuck => rw [hmf] at p1; exact p1
      | ok d ss' =>
        rw [hmf] at p1
        exact fun v F' H' e2 rc' a2 => p1 v F' H' e2 (call_end r1 hI e2 hO rc') a2
      | err cc d ss' =>
        rw [hmf] at p1
        exact fun cls dx F' H' e2 rc' a2 => p1 cls dx F' H' e2 (call_end r1 hI e2 hO rc') a2
  · rw [if_neg hc] at p1
    exact p1.elim
end
end MX

namespace MX
open PySem PySem.Spec L2
open PyProof.Rows hiding St

/-! ### a def by its body -/
def finS : Option Slot → Slot
  | some (.own true d) => .own true d
  | _ => .no
def fin (n : Nat) (st : MS) : List Slot := (List.range n).map fun i => finS st[i]?
theorem fin_get {n : Nat} {st : MS} {i : Nat} {s : Slot} (h : (fin n st)[i]? = some s) : i < n ∧ (s = .no ∨ ∃ d, s = .own true d ∧ st[i]? = some (.own true d)) := by
  unfold fin at h
  rw [List.getElem?_map] at h
  by_cases hi : i < n
  · rw [List.getElem?_range hi] at h
    refine ⟨hi, ?_⟩
    simp only [Option.map_some, Option.some.injEq] at h
    subst h
    unfold finS
    split
    · rename_i d hd
      exact .inr ⟨d, rfl, hd⟩
    · exact .inl rfl
  · rw [List.getElem?_eq_none (by simpa using hi)] at h
    cases h
def mDef (n N : Nat) (g : MS → OutS) : MF := fun ss => if ss.length = n then match g (ss ++ List.replicate (N - n) .no) with
  | .ret d st => .ok d (fin n st)
  | .nx st => .ok .non (fin n st)
  | .err c d st => .err c d (fin n st)
  | _ => .stuck
  else .stuck
theorem Rel.pad {K : PySem.W.Frag} {B : Base} {F H : Hp} {st : MS} {σ : St} (r : Rel K B F st σ H) (m : Nat) : Rel K B F (st ++ List.replicate m .no) (σ ++ List.replicate m none) H := by
  have key : ∀ {i : Nat} {s : Slot}, (st ++ List.replicate m .no)[i]? = some s → s ≠ .no → st[i]? = some s ∧ (σ ++ List.replicate m none)[i]? = σ[i]? := by
    intro i s h hn
    by_cases hi : i < st.length
    · rw [List.getElem?_append_left hi] at h
      exact ⟨h, List.getElem?_append_left (by rw [← r.len]; exact hi)⟩
    · rw [List.getElem?_append_right (by omega)] at h
      rw [List.getElem?_replicate] at h
      split at h
      · exact absurd (Option.some.inj h).symm hn
      · cases h
  exact { ext0 := r.ext0, ext := r.ext, keep := r.keep, there := r.there, fix := r.fix, len := by simp [r.len]
          val := fun i d q => by
            obtain ⟨h1, h2⟩ := key q (fun z => by cases z)
            rw [h2]
            exact r.val i d h1
          own := fun i b d q => by
            obtain ⟨h1, h2⟩ := key q (fun z => by cases z)
            rw [h2]
            exact r.own i b d h1
          par := fun i d q => by
            obtain ⟨h1, h2⟩ := key q (fun z => by cases z)
            rw [h2]
            exact r.par i d h1
          sep := fun i j b d b' d' a q q' e e' => by
            obtain ⟨h1, h2⟩ := key q (fun z => by cases z)
            obtain ⟨h1', h2'⟩ := key q' (fun z => by cases z)
            rw [h2] at e
            rw [h2'] at e'
            exact r.sep i j b d b' d' a h1 h1' e e' }
theorem Rel.fin {K : PySem.W.Frag} {F0 H0 F H : Hp} {I : List Addr} {st : MS} {σ : St} {vs : List V} (r : Rel K ⟨F0, H0, I, vs.map some⟩ F st σ H) : Rel K ⟨F0, H0, I, vs.map some⟩ F (fin vs.length st) (vs.map some) H where
  ext0 := r.ext0
  ext := r.ext
  keep := r.keep
  there := r.there
  fix := r.fix
  len := by simp [MX.fin]
  val := fun i d q => by
    obtain ⟨_, h | ⟨d', h, _⟩⟩ := fin_get q <;> cases h
  own := fun i b d q => by
    obtain ⟨hi, h | ⟨d', h, h2⟩⟩ := fin_get q
    · cases h
    · cases h
      obtain ⟨a, g1, g2, g3, g4⟩ := r.own i true d h2
      have e := r.par i d h2
      rw [g1] at e
      exact ⟨a, e.symm, g2, g3, g4⟩
  par := fun _ _ _ => rfl
  sep := fun i j b d b' d' a q q' e e' => by
    obtain ⟨_, h | ⟨d1, h, h2⟩⟩ := fin_get q
    · cases h
    obtain ⟨_, h' | ⟨d2, h', h2'⟩⟩ := fin_get q'
    · cases h'
    have e1 := r.par i d1 h2
    have e2 := r.par j d2 h2'
    exact r.sep i j _ _ _ _ a h2 h2' (e1.trans e) (e2.trans e')
theorem def_ok {P : Program} {w : World} {K : PySem.W.Frag} {mg : Str → Option Value} {base : Heap} {x qual : Str} {st : Stmt} {f : Addr} {fd : FuncData} {N ps : List Str} {k : Nat} {g : MS → OutS} (F : Fun K x qual st f fd) (S : FnScope N ps (defScope st))
    (body : ∀ (cdv : Value) (A : Around) (outer : List Env) (s : Shared) (H : Hp) (E : XK), Room k (A.deeper (envOfC qual (defScope st) s.heap.objs.size f cdv)) →
      Takes (cxOf (L2.CX P w) P w K mg base N qual (defScope st) f cdv A outer s H E) (fun cls d _ H => E cls d H) →
      RSs (cxOf (L2.CX P w) P w K mg base N qual (defScope st) f cdv A outer s H E) (fun cls d _ H => E cls d H) (defBody st) g) :
    FnOk P w K mg base (L2.CX P w) (k + 1) f fd ps (spM K mg (mDef ps.length N.length g)) := by
  refine F.okX S (fun vs H Q E h => ?_) fun cdv A outer s H vs Q E hr h => ?_
  · obtain ⟨F, I, ss, r, p⟩ := h
    have hl := r.len
    rw [List.length_map] at hl
    unfold mDef at p
    by_cases hz : ss.length = ps.length
    · omega
    · rw [if_neg hz] at p
      exact p.elim
  · obtain ⟨F, I, ss, r, p⟩ := h
    have hl := r.len
    rw [List.length_map] at hl
    unfold mDef at p
    by_cases hz : ss.length = ps.length
    · rw [if_pos hz] at p
      have hv : vs.length = ps.length := by omega
      obtain ⟨t, t1, t2⟩ := body cdv A outer s H E hr (takes_of rfl rfl rfl rfl)
      refine ⟨t, t1, t2 ⟨F, H, I, vs.map some⟩ (ss ++ List.replicate (N.length - ps.length) .no) F (start N vs) H _ ?_ ?_⟩
      · unfold L2.start
        rw [hv]
        exact r.pad _
      · have hfin : ∀ {F' : Hp} {st' : MS} {σ' : St} {H' : Hp}, Rel K ⟨F, H, I, vs.map some⟩ F' st' σ' H' → Rel K ⟨F, H, I, vs.map some⟩ F' (fin ps.length st') (vs.map some) H' := fun r' => by
          rw [← hv]
          exact r'.fin
        cases hg : g (ss ++ List.replicate (N.length - ps.length) .no) with
        | nx st' =>
          rw [hg] at p
          exact fun σ' F' H' e1 r1 => p .non F' H' e1 (hfin r1) .non
        | ret d st' =>
          rw [hg] at p
          exact fun v σ' F' H' e1 r1 a1 => p v F' H' e1 (hfin r1) a1
        | err c d st' =>
          rw [hg] at p
          exact fun cls dx σ' F' H' e1 r1 a1 => p cls dx F' H' e1 (hfin r1) a1
        | bk st' => rw [hg] at p; exact p.elim
        | ct st' => rw [hg] at p; exact p.elim
        | stuck => rw [hg] at p; exact p.elim
    · rw [if_neg hz] at p
      exact p.elim

/-! ### loops -/
def Yields (K : PySem.W.Frag) (J : It) (F : Hp) (ds : List D) : Prop := ∀ F1 H1, Ex F F1 → Ex F1 H1 →
  (∀ (i : Nat) (d : D), ds[i]? = some d → J.go i H1 ∧ ∀ x H2, J.yld i H1 x H2 → ∃ F2, Stp F1 H1 F2 H2 ∧ At K F2 x d) ∧ J.stop ds.length H1
def RIt (K : PySem.W.Frag) : Hp → Hp → List D → It → Prop := fun F _ ds J => Yields K J F ds
def RI (X : Cx) (W : WX) (tg iter : Expr) (f : MS → Out (List D)) : Prop := ∃ wi, PI X tg iter wi ∧ RdG X W (RIt X.K) wi f
theorem pi_or {X : Cx} {tg iter : Expr} {w1 w2 : TI} (h1 : PI X tg iter w1) (h2 : PI X tg iter w2) : PI X tg iter (fun σ H R => w1 σ H R ∨ w2 σ H R) := ⟨fun pins s σ H R I h => by
  rcases h with h | h
  · exact h1.run pins s σ H R I h
  · exact h2.run pins s σ H R I h⟩
section
variable {X : Cx} {W : WX} {a b c e tg iter : Expr} {es : List Expr} {pos : Pos} {f fa fb fc : MS → Out D} {s : Stmt} {ss : List Stmt} {g h : MS → OutS}
theorem yields_list {K : PySem.W.Frag} {F : Hp} {a : Addr} {xs : List V} {ds : List D} (hs : SqL K F a xs) (ha : Ats K F xs ds) (inj : ∀ H1, Ex F H1 → ∀ ys, SqL K H1 a ys → ys = xs) : Yields K (Itl K a) F ds := by
  intro F1 H1 e1 e2
  have s1 : SqL K H1 a xs := ex_l (e1.trans e2) hs
  refine ⟨fun i d hd => ?_, xs, s1, by rw [ha.length]; exact Nat.le_refl _⟩
  obtain ⟨v, h1, h2⟩ := ha.get hd
  refine ⟨⟨xs, v, s1, h1⟩, fun x H2 hy => ?_⟩
  obtain ⟨rfl, hx⟩ := hy
  have := hx xs s1
  rw [h1] at this
  cases this
  exact ⟨F1, Stp.refl e2, h2.mono e1⟩
theorem yields_tup {K : PySem.W.Frag} {F : Hp} {a : Addr} {xs : List V} {ds : List D} (hs : SqT K F a xs) (ha : Ats K F xs ds) : Yields K (Itt K a) F ds := by
  intro F1 H1 e1 e2
  have s1 : SqT K H1 a xs := ex_t (e1.trans e2) hs
  refine ⟨fun i d hd => ?_, xs, s1, by rw [ha.length]; exact Nat.le_refl _⟩
  obtain ⟨v, h1, h2⟩ := ha.get hd
  refine ⟨⟨xs, v, s1, h1⟩, fun x H2 hy => ?_⟩
  obtain ⟨rfl, hx⟩ := hy
  have := hx xs s1
  rw [h1] at this
  cases this
  exact ⟨F1, Stp.refl e2, h2.mono e1⟩
theorem yields_list' {K : PySem.W.Frag} {F : Hp} {a : Addr} {xs : List V} {ds : List D} (hs : SqL K F a xs) (ha : Ats K F xs ds) : Yields K (Itl K a) F ds := by
  intro F1 H1 e1 e2
  have s1 : SqL K H1 a xs := ex_l (e1.trans e2) hs
  refine ⟨fun i d hd => ?_, xs, s1, by rw [ha.length]; exact Nat.le_refl _⟩
  obtain ⟨v, h1, h2⟩ := ha.get hd
  refine ⟨⟨xs, v, s1, h1⟩, fun x H2 hy => ?_⟩
  obtain ⟨rfl, hx⟩ := hy
  have := hx xs s1
  rw [h1] at this
  cases this
  exact ⟨F1, Stp.refl e2, h2.mono e1⟩
/-- the items of a list, the script, a tuple, a text's signs -/
def D.items : D → Option (List D)
  | .lst ds => some ds
  | .scr ds => some ds
  | .tup ds => some ds
  | .str s => some (s.cps.toList.map fun c => .str ⟨#[c]⟩)
  | _ => none
theorem yields_str {K : PySem.W.Frag} {F : Hp} {s : Str} : Yields K (Its s) F (s.cps.toList.map fun c => .str ⟨#[c]⟩) := by
  intro F1 H1 e1 e2
  refine ⟨fun i d hd => ?_, by show s.cps.size ≤ _; simp⟩
  rw [List.getElem?_map] at hd
  cases hz : s.cps.toList[i]? with
  | none => rw [hz] at hd; cases hd
  | some c =>
    rw [hz] at hd
    cases hd
    have hi := (List.getElem?_eq_some_iff.mp hz).1
    refine ⟨(show i < s.cps.size by simpa using hi), fun x H2 hy => ?_⟩
    obtain ⟨rfl, c', hc, rfl⟩ := hy
    rw [Array.getElem?_toList, hc] at hz
    cases hz
    exact ⟨F1, Stp.refl e2, .str _⟩
def mItems (f : MS → Out D) : MS → Out (List D) := fun st => (f st).bind fun d st1 => lift d.items st1
theorem ri_seq (he : RE X W iter f) : RI X W tg iter (mItems f) := by
  obtain ⟨t, t1, t2⟩ := he
  refine ⟨_, pi_or (pi_list t1) (pi_or (pi_tup t1) (pi_str t1)), fun B st F σ H Q r p => ?_⟩
  unfold mItems at p
  cases hf : f st with
  | stuck => rw [hf] at p; exact p.elim
  | err c d st' => rw [hf] at p; exact .inl (t2 B st F σ H _ r (by rw [hf]; exact p))
  | ok d st' =>
    rw [hf] at p
    cases d with
    | lst ds =>
      refine .inl (t2 B st F σ H _ r ?_)
      rw [hf]
      intro v F' H' e1 r1 a1
      cases a1 with
      | lst hs ha => exact ⟨_, rfl, ⟨_, SqL.of (r1.ext _ _ hs)⟩, p _ F' H' e1 r1 (yields_list' (SqL.of hs) ha)⟩
    | scr ds =>
      refine .inl (t2 B st F σ H _ r ?_)
      rw [hf]
      intro v F' H' e1 r1 a1
      cases a1 with
      | scr hs ha => exact ⟨_, rfl, ⟨_, ex_l r1.ext hs⟩, p _ F' H' e1 r1 (yields_list' hs ha)⟩
    | tup ds =>
      refine .inr (.inl (t2 B st F σ H _ r ?_))
      rw [hf]
      intro v F' H' e1 r1 a1
      cases a1 with
      | tup hs ha => exact ⟨_, rfl, ⟨_, ex_t r1.ext hs⟩, p _ F' H' e1 r1 (yields_tup hs ha)⟩
    | str z =>
      refine .inr (.inr (t2 B st F σ H _ r ?_))
      rw [hf]
      intro v F' H' e1 r1 a1
      cases a1 with
      | str => exact ⟨z, rfl, p _ F' H' e1 r1 yields_str⟩
    | _ => exact p.elim
/-! ### for -/
def forM (tg : D → MS → Option MS) (body : MS → OutS) : List D → MS → OutS
  | [], st => .nx st
  | d :: ds, st => match tg d st with
    | none => .stuck
    | some st1 => match body st1 with
      | .nx st2 => forM tg body ds st2
      | .ct st2 => forM tg body ds st2
      | .bk st2 => .nx st2
      | .ret d st2 => .ret d st2
      | .err c d st2 => .err c d st2
      | .stuck => .stuck
def mFor (fi : MS → Out (List D)) (tg : D → MS → Option MS) (body : MS → OutS) : MS → OutS := fun st => (fi st).toS fun ds st1 => forM tg body ds st1
theorem rs_for {js : List Nat} {fi : MS → Out (List D)} {tgf : D → MS → Option MS} {body : List Stmt} (hi : RI X W tg iter fi) (hg : RG X tg js tgf) (hb : RSs X W body g) (hc : X.calm = true) (hp : PassesOwn (model X.prog X.w) X.A X.env X.xe)
    (hs : ∀ x, foldedSetIterable iter X.env x = pure x := by intro _; rfl) : RS X W (.For tg iter body [] pos) (mFor fi tgf g) := by
  obtain ⟨t, t1, t2⟩ := hi
  obtain ⟨u, u1, u2⟩ := hg
  obtain ⟨v, v1, v2⟩ := hb
  refine ⟨_, ps_for hp hc t1 u1 v1 hs, fun B st F σ H D' r p => ?_⟩
  refine t2 B st F σ H _ r (PostS.toS p fun ds st1 J F1 H1 e1 r1 y p1 => ?_)
  refine ⟨fun i m σ H => ∃ st F, Ex F1 F ∧ Rel X.K B F st σ H ∧ i + m = ds.length ∧ PostS X.K X.mg B F W D' (forM tgf g (ds.drop i) st), ⟨ds.length, st1, F1, Same.refl _, r1, Nat.zero_add _, p1⟩, ?_⟩
  rintro i m σ2 H2 ⟨st2, F2, e2, r2, him, p2⟩
  cases hd : ds[i]? with
  | none =>
    have hi : i = ds.length := by
      have := List.getElem?_eq_none_iff.mp hd
      omega
    refine .inl ⟨by rw [hi]; exact (y F2 H2 e2 r2.ext).2, ?_⟩
    rw [List.drop_eq_nil_of_le (by omega)] at p2
    exact p2 σ2 F2 H2 (Same.refl _) r2
  | some d =>
    obtain ⟨go, yl⟩ := (y F2 H2 e2 r2.ext).1 i d hd
    refine .inr ⟨go, fun σ' H' => ∃ st F, Ex F1 F ∧ Rel X.K B F st σ' H' ∧ (i + 1) + (m - 1) = ds.length ∧ PostS X.K X.mg B F W D' (forM tgf g (ds.drop (i + 1)) st), fun σ' H' hw => ⟨m - 1, ?_, hw⟩, fun x H3 hx => ?_⟩
    · have := (List.getElem?_eq_some_iff.mp hd).1
      omega
    · obtain ⟨F3, s3, a3⟩ := yl x H3 hx
      have r3 := r2.step s3
      have hdr : ds.drop i = d :: ds.drop (i + 1) := by
        have hi := (List.getElem?_eq_some_iff.mp hd).1
        rw [List.drop_eq_getElem_cons hi]
        rw [List.getElem?_eq_getElem hi] at hd
        cases hd
        rfl
      rw [hdr] at p2
      unfold forM at p2
      cases hz : tgf d st2 with
      | none => rw [hz] at p2; exact p2.elim
      | some st3 =>
        rw [hz] at p2
        dsimp only at p2
        refine u2 B st2 F3 σ2 H3 x d st3 _ r3 a3 hz fun σ4 _ _ r4 => ?_
        refine v2 B st3 F3 σ4 H3 _ r4 ?_
        have e3 : Ex F1 F3 := e2.trans s3.f
        have hl : (i + 1) + (m - 1) = ds.length := by
          have := (List.getElem?_eq_some_iff.mp hd).1
          omega
        have p3 := PostS.mono s3.f p2
        cases hg4 : g st3 with
        | nx st5 =>
          rw [hg4] at p3
          exact fun σ5 F5 H5 e5 r5 => ⟨st5, F5, e3.trans e5, r5, hl, PostS.mono e5 p3⟩
        | ct st5 =>
          rw [hg4] at p3
          exact fun σ5 F5 H5 e5 r5 => ⟨st5, F5, e3.trans e5, r5, hl, PostS.mono e5 p3⟩
        | bk st5 => rw [hg4] at p3; exact p3
        | ret d5 st5 => rw [hg4] at p3; exact p3
        | err c5 d5 st5 => rw [hg4] at p3; exact p3
        | stuck => rw [hg4] at p3; exact p3
/-! ### while -/
def whileN (c : MS → Out Bool) (b : MS → OutS) : Nat → MS → OutS
  | 0, _ => .stuck
  | n + 1, st => (c st).toS fun k st1 => if k = true then match b st1 with
      | .nx st2 => whileN c b n st2
      | .ct st2 => whileN c b n st2
      | .bk st2 => .nx st2
      | .ret d st2 => .ret d st2
      | .err c d st2 => .err c d st2
      | .stuck => .stuck
    else .nx st1
theorem whileN_mono {c : MS → Out Bool} {b : MS → OutS} : ∀ {n m : Nat} {st : MS}, n ≤ m → whileN c b n st ≠ .stuck → whileN c b m st = whileN c b n st
  | 0, _, _, _, h => absurd rfl h
  | n + 1, 0, _, h, _ => absurd h (by omega)
  | n + 1, m + 1, st, h, hs => by
    unfold whileN at hs ⊢
    cases hc : c st with
    | stuck => rfl
    | err cc d st' => rfl
    | ok k st1 =>
      rw [hc] at hs
      simp only [Out.toS_ok] at hs ⊢
      cases k with
      | false => rfl
      | true =>
        simp only [if_true] at hs ⊢
        cases hb : b st1 with
        | nx st2 => rw [hb] at hs; exact whileN_mono (by omega) hs
        | ct st2 => rw [hb] at hs; exact whileN_mono (by omega) hs
        | _ => rfl
open Classical in
noncomputable def mWhile (c : MS → Out Bool) (b : MS → OutS) : MS → OutS := fun st => if h : ∃ n, whileN c b n st ≠ .stuck then whileN c b (Classical.choose h) st else .stuck
theorem mWhile_eq {c : MS → Out Bool} {b : MS → OutS} {n : Nat} {st : MS} {o : OutS} (h : whileN c b n st = o) (ho : o ≠ .stuck) : mWhile c b st = o := by
  have hx : ∃ n, whileN c b n st ≠ .stuck := ⟨n, by rw [h]; exact ho⟩
  unfold mWhile
  rw [dif_pos hx]
  have h2 := Classical.choose_spec hx
  generalize Classical.choose hx = m at h2 ⊢
  rcases Nat.le_total n m with hm | hm
  · rw [whileN_mono hm (by rw [h]; exact ho), h]
  · rw [← whileN_mono hm h2, h]
theorem rs_while {gc : MS → Out Bool} {body : List Stmt} (hc : RT X W c gc) (hb : RSs X W body g) (hp : PassesOwn (model X.prog X.w) X.A X.env X.xe) : RS X W (.While c body [] pos) (mWhile gc g) := by
  obtain ⟨t, t1, t2⟩ := hc
  obtain ⟨v, v1, v2⟩ := hb
  refine ⟨_, ps_while hp t1 v1, fun B st F σ H D' r p => ?_⟩
  unfold mWhile at p
  split at p
  case isFalse => exact p.elim
  rename_i hx
  generalize Classical.choose hx = n at p
  refine ⟨fun m σ H => ∃ st F, Rel X.K B F st σ H ∧ PostS X.K X.mg B F W D' (whileN gc g m st), ⟨n, st, F, r, p⟩, ?_⟩
  rintro m σ2 H2 ⟨st2, F2, r2, p2⟩
  cases m with
  | zero => exact p2.elim
  | succ m =>
    unfold whileN at p2
    refine t2 B st2 F2 σ2 H2 _ r2 (PostS.toS p2 fun k st3 v3 F3 H3 e3 r3 a3 p3 => ?_)
    cases a3
    cases k with
    | false => exact iteF (p3 σ2 F3 H3 (Same.refl _) r3)
    | true =>
      refine iteT ⟨fun σ' H' => ∃ st F, Rel X.K B F st σ' H' ∧ PostS X.K X.mg B F W D' (whileN gc g m st), fun σ' H' hw => ⟨m, Nat.lt_succ_self m, hw⟩, ?_⟩
      refine v2 B st3 F3 σ2 H3 _ r3 ?_
      simp only [if_true] at p3
      cases hg4 : g st3 with
      | nx st5 =>
        rw [hg4] at p3
        exact fun σ5 F5 H5 e5 r5 => ⟨st5, F5, r5, PostS.mono e5 p3⟩
      | ct st5 =>
        rw [hg4] at p3
        exact fun σ5 F5 H5 e5 r5 => ⟨st5, F5, r5, PostS.mono e5 p3⟩
      | bk st5 => rw [hg4] at p3; exact p3
      | ret d5 st5 => rw [hg4] at p3; exact p3
      | err c5 d5 st5 => rw [hg4] at p3; exact p3
      | stuck => rw [hg4] at p3; exact p3
end
end MX

namespace MX
open PySem PySem.Spec L2
open PyProof.Rows hiding St

/-! ### comprehensions -/
/-- within: the comprehension's own names are empty, own lists are the caller's -/
def enterS (vs : List Nat) (j : Nat) (s : Slot) : Slot := if j ∈ vs then .no else match s with
  | .own _ d => .own true d
  | s => s
def enter (st : MS) (vs : List Nat) : MS := st.mapIdx (enterS vs)
/-- behind -/
def leaveS (vs : List Nat) (st : MS) (j : Nat) (s : Slot) : Slot := match s with
  | .own b _ => if j ∈ vs then .no else match st[j]? with
    | some (.own _ d) => .own b d
    | _ => .no
  | s => s
def leave (so st : MS) (vs : List Nat) : MS := so.mapIdx (leaveS vs st)
theorem wipe_get {σ : St} {vs : List Nat} {i : Nat} (h : i ∉ vs) : (wipe σ vs)[i]? = σ[i]? := by
  induction vs with
  | nil => rfl
  | cons v vs ih =>
    unfold wipe
    rw [List.getElem?_set_ne (fun z => h (by simp [z]))]
    exact ih fun z => h (List.mem_cons_of_mem _ z)
theorem wipe_in {σ : St} {vs : List Nat} {i : Nat} (h : i ∈ vs) (hl : i < σ.length) : (wipe σ vs)[i]? = some none := by
  induction vs with
  | nil => cases h
  | cons v vs ih =>
    unfold wipe
    by_cases e : v = i
    · subst e
      rw [List.getElem?_set_self (by rw [wipe_length]; exact hl)]
    · rw [List.getElem?_set_ne e]
      refine ih ?_
      rcases List.mem_cons.mp h with z | z
      · exact absurd z.symm e
      · exact z
theorem wipe_eq {σ τ : St} {vs : List Nat} (h : ∀ k, k ∉ vs → τ[k]? = σ[k]?) (hl : τ.length = σ.length) : wipe τ vs = wipe σ vs := by
  apply List.ext_getElem?
  intro i
  by_cases hi : i ∈ vs
  · by_cases hb : i < σ.length
    · rw [wipe_in hi hb, wipe_in hi (by omega)]
    · rw [List.getElem?_eq_none (by rw [wipe_length]; omega), List.getElem?_eq_none (by rw [wipe_length]; omega)]
  · rw [wipe_get hi, wipe_get hi]
    exact h i hi
theorem enter_get {st : MS} {vs : List Nat} {i : Nat} {s : Slot} (h : (enter st vs)[i]? = some s) : ∃ s0, st[i]? = some s0 ∧ s = enterS vs i s0 := by
  unfold enter at h
  rw [List.getElem?_mapIdx] at h
  cases hz : st[i]? with
  | none => rw [hz] at h; cases h
  | some s0 =>
    rw [hz] at h
    exact ⟨s0, rfl, (Option.some.inj h).symm⟩
theorem leave_get {so st : MS} {vs : List Nat} {i : Nat} {s : Slot} (h : (leave so st vs)[i]? = some s) : ∃ s0, so[i]? = some s0 ∧ s = leaveS vs st i s0 := by
  unfold leave at h
  rw [List.getElem?_mapIdx] at h
  cases hz : so[i]? with
  | none => rw [hz] at h; cases h
  | some s0 =>
    rw [hz] at h
    exact ⟨s0, rfl, (Option.some.inj h).symm⟩
theorem leave_own {so st : MS} {vs : List Nat} {i : Nat} {b : Bool} {d : D} (h : (leave so st vs)[i]? = some (.own b d)) : i ∉ vs ∧ (∃ d0, so[i]? = some (.own b d0)) ∧ ∃ b', st[i]? = some (.own b' d) := by
  obtain ⟨s0, h1, h2⟩ := leave_get h
  unfold leaveS at h2
  cases s0 with
  | own b0 d0 =>
    dsimp only at h2
    by_cases hi : i ∈ vs
    · rw [if_pos hi] at h2; cases h2
    · rw [if_neg hi] at h2
      split at h2
      · rename_i b' d' hd
        cases h2
        exact ⟨hi, ⟨d0, h1⟩, b', hd⟩
      · cases h2
  | _ => cases h2
theorem leave_val {so st : MS} {vs : List Nat} {i : Nat} {d : D} (h : (leave so st vs)[i]? = some (.val d)) : so[i]? = some (.val d) := by
  obtain ⟨s0, h1, h2⟩ := leave_get h
  unfold leaveS at h2
  cases s0 with
  | own b0 d0 =>
    dsimp only at h2
    split at h2
    · cases h2
    · split at h2 <;> cases h2
  | val d0 => cases h2; exact h1
  | no => cases h2
/-- the addresses of a frame's own lists -/
def ownA : Option Slot → Option (Option V) → Option Addr
  | some (.own _ _), some (some (.ref a)) => some a
  | _, _ => none
def ownAddrs (st : MS) (σ : St) : List Addr := (List.range st.length).filterMap fun i => ownA st[i]? σ[i]?
theorem mem_ownAddrs {st : MS} {σ : St} {a : Addr} : a ∈ ownAddrs st σ ↔ ∃ (i : Nat) (b : Bool) (d : D), st[i]? = some (.own b d) ∧ σ[i]? = some (some (.ref a)) := by
  unfold ownAddrs
  rw [List.mem_filterMap]
  constructor
  · rintro ⟨i, _, h⟩
    cases h1 : st[i]? with
    | none => rw [h1] at h; cases h
    | some s =>
      cases s with
      | own b d =>
        cases h2 : σ[i]? with
        | none => rw [h1, h2] at h; cases h
        | some v =>
          cases v with
          | none => rw [h1, h2] at h; cases h
          | some v =>
            cases v with
            | ref a' =>
              rw [h1, h2] at h
              cases h
              exact ⟨i, b, d, h1, h2⟩
            | _ => rw [h1, h2] at h; cases h
      | _ => rw [h1] at h; cases h
  · rintro ⟨i, b, d, h1, h2⟩
    refine ⟨i, List.mem_range.mpr (List.getElem?_eq_some_iff.mp h1).1, ?_⟩
    rw [h1, h2]
    rfl
section
variable {K : PySem.W.Frag} {B : Base} {F F' H H' : Hp} {st so : MS} {σ τ : St} {vs : List Nat} {Dl : Addr} {acc : List D}
theorem enter_rel (r : Rel K B F so σ H) : Rel K ⟨F, H, ownAddrs so σ, wipe σ vs⟩ F (enter so vs) (wipe σ vs) H where
  ext0 := Same.refl F
  ext := r.ext
  keep := fun _ _ q _ => q
  there := fun _ q => q
  fix := fun _ _ n => n
  len := by unfold enter; rw [List.length_mapIdx, wipe_length, r.len]
  val := fun i d q => by
    obtain ⟨s0, h1, h2⟩ := enter_get q
    unfold enterS at h2
    by_cases hi : i ∈ vs
    · rw [if_pos hi] at h2; cases h2
    · rw [if_neg hi] at h2
      cases s0 with
      | val d0 =>
        cases h2
        rw [wipe_get hi]
        exact r.val i d h1
      | _ => cases h2
  own := fun i b d q => by
    obtain ⟨s0, h1, h2⟩ := enter_get q
    unfold enterS at h2
    by_cases hi : i ∈ vs
    · rw [if_pos hi] at h2; cases h2
    · rw [if_neg hi] at h2
      cases s0 with
      | own b0 d0 =>
        cases h2
        obtain ⟨a, g1, g2, g3, g4⟩ := r.own i b0 d h1
        rw [wipe_get hi]
        exact ⟨a, g1, g2, ⟨mem_ownAddrs.mpr ⟨i, b0, d, h1, g1⟩, g2⟩, g4⟩
      | _ => cases h2
  par := fun _ _ _ => rfl
  sep := fun i j b d b' d' a q q' e e' => by
    obtain ⟨s0, h1, h2⟩ := enter_get q
    obtain ⟨s1, h1', h2'⟩ := enter_get q'
    unfold enterS at h2 h2'
    by_cases hi : i ∈ vs
    · rw [if_pos hi] at h2; cases h2
    by_cases hj : j ∈ vs
    · rw [if_pos hj] at h2'; cases h2'
    rw [if_neg hi] at h2
    rw [if_neg hj] at h2'
    rw [wipe_get hi] at e
    rw [wipe_get hj] at e'
    cases s0 with
    | own b0 d0 =>
      cases s1 with
      | own b1 d1 => exact r.sep i j b0 d0 b1 d1 a h1 h1' e e'
      | _ => cases h2'
    | _ => cases h2
theorem leave_rel (r : Rel K B F so σ H) (hE : Ex F F') (c : Rel K ⟨F, H, ownAddrs so σ, wipe σ vs⟩ F' st τ H') (hτ : ∀ k, k ∉ vs → τ[k]? = σ[k]?) : Rel K B F' (leave so st vs) σ H' where
  ext0 := r.ext0.trans hE
  ext := c.ext
  keep := fun p o q n => c.keep p o (r.keep p o q n) fun hp => by
    obtain ⟨i, b, d, h1, h2⟩ := mem_ownAddrs.mp hp
    obtain ⟨a, g1, g2, g3, g4⟩ := r.own i b d h1
    rw [h2] at g1
    cases g1
    cases b with
    | true => exact n g3.1
    | false =>
      have g3' : B.H0 p = none := g3
      rw [q] at g3'
      cases g3'
  there := fun p q => c.there p (r.there p q)
  fix := fun p q n => c.fix p (r.there p q) (r.fix p q n)
  len := by unfold leave; rw [List.length_mapIdx, r.len]
  val := fun i d q => by
    obtain ⟨v, h1, h2⟩ := r.val i d (leave_val q)
    exact ⟨v, h1, h2.mono hE⟩
  own := fun i b d q => by
    obtain ⟨hi, ⟨d0, h1⟩, b', h2⟩ := leave_own q
    obtain ⟨a, g1, g2, g3, g4⟩ := r.own i b d0 h1
    obtain ⟨a', k1, k2, k3, k4⟩ := c.own i b' d h2
    rw [hτ i hi, g1] at k1
    cases k1
    exact ⟨a, g1, k2, g3, k4⟩
  par := fun i d q => by
    obtain ⟨hi, ⟨d0, h1⟩, b', h2⟩ := leave_own q
    exact r.par i d0 h1
  sep := fun i j b d b' d' a q q' e e' => by
    obtain ⟨hi, ⟨d0, h1⟩, b1, h2⟩ := leave_own q
    obtain ⟨hj, ⟨d1, h1'⟩, b2, h2'⟩ := leave_own q'
    exact r.sep i j b d0 b' d1 a h1 h1' e e'
/-- the list that is being made stands as it stood -/
theorem leave_fresh (r : Rel K B F so σ H) (f : Fresh K B F so σ H Dl acc) (hE : Ex F F') (c : Rel K ⟨F, H, ownAddrs so σ, wipe σ vs⟩ F' st τ H') : Fresh K B F' (leave so st vs) σ H' Dl acc ∧ H' Dl = H Dl := by
  obtain ⟨xs, h1, h2⟩ := f.at_
  have hn : Dl ∉ ownAddrs so σ := fun h => by
    obtain ⟨i, b, d, g1, g2⟩ := mem_ownAddrs.mp h
    exact f.sep i b d g1 g2
  have hk : H' Dl = some (.lst xs) := c.keep Dl _ h1 hn
  refine ⟨⟨c.fix Dl (by show H Dl ≠ none; rw [h1]; exact fun z => by cases z) f.fr, f.h0, ⟨xs, hk, h2.mono hE⟩, fun i b d q => ?_⟩, by rw [hk, h1]⟩
  obtain ⟨hi, ⟨d0, g1⟩, b', g2⟩ := leave_own q
  exact f.sep i b d0 g1
theorem Fresh.step (r : Rel K B F so σ H) (f : Fresh K B F so σ H Dl acc) (s : Stp F H F' H') : Fresh K B F' so σ H' Dl acc := by
  obtain ⟨xs, h1, h2⟩ := f.at_
  exact ⟨s.fr Dl (by rw [h1]; exact fun z => by cases z) f.fr, f.h0, ⟨xs, s.h _ _ h1, h2.mono s.f⟩, f.sep⟩
theorem Fresh.more (r : Rel K B F so σ H) (f : Fresh K B F so σ H Dl acc) {y : V} {d : D} (hy : At K F y d) {xs : List V} (hx : H Dl = some (.lst xs)) :
    Rel K B F so σ (upd H Dl (.lst (xs ++ [y]))) ∧ Fresh K B F so σ (upd H Dl (.lst (xs ++ [y]))) Dl (acc ++ [d]) := by
  obtain ⟨xs', h1, h2⟩ := f.at_
  rw [hx] at h1
  cases h1
  refine ⟨{ ext0 := r.ext0
            ext := fun p o q => by
              rw [upd_ne (ne_of_none q f.fr)]
              exact r.ext p o q
            keep := fun p o q n => by
              rw [upd_ne (ne_of_none q f.h0)]
              exact r.keep p o q n
            there := fun p q => by
              rw [upd_ne (fun z => q (by rw [z]; exact f.h0))]
              exact r.there p q
            fix := r.fix, len := r.len, val := r.val
            own := fun i b d q => by
              obtain ⟨a, g1, g2, g3, g4⟩ := r.own i b d q
              refine ⟨a, g1, g2, g3, g4.mono (Same.refl _) (upd_ne fun z => f.sep i b d q (by rw [← z]; exact g1))⟩
            par := r.par, sep := r.sep }, f.fr, f.h0, ⟨_, upd_same, h2.append (.cons hy .nil)⟩, f.sep⟩
end
def compM (vs : List Nat) (tg : D → MS → Option MS) (test : MS → Out Bool) (elt : MS → Out D) : List D → List D → MS → Out (List D)
  | [], acc, so => .ok acc so
  | d :: ds, acc, so => match tg d (enter so vs) with
    | none => .stuck
    | some s1 => match test s1 with
      | .ok true s2 => match elt s2 with
        | .ok y s3 => if acc.length < sizeLine then compM vs tg test elt ds (acc ++ [y]) (leave so s3 vs) else .stuck
        | _ => .stuck
      | .ok false s2 => compM vs tg test elt ds acc (leave so s2 vs)
      | _ => .stuck
def mComp (vs : List Nat) (fi : MS → Out (List D)) (tg : D → MS → Option MS) (test : MS → Out Bool) (elt : MS → Out D) : MS → Out (List D) := fun st => (fi st).bind fun ds st1 => compM vs tg test elt ds [] st1
abbrev W0 : WX := fun _ _ _ _ => False
def RTs (X : Cx) (W : WX) (ifs : List Expr) (f : MS → Out Bool) : Prop := ∃ t, PTs X ifs t ∧ RdG X W RBool t f
theorem rts_nil {X : Cx} {W : WX} : RTs X W [] (fun st => .ok true st) := ⟨_, pts_nil, fun B st F σ H Q r p => p true F H (Same.refl _) r rfl⟩
theorem rts_one {X : Cx} {W : WX} {c : Expr} {f : MS → Out Bool} (h : RT X W c f) : RTs X W [c] f := by
  obtain ⟨t, t1, t2⟩ := h
  exact ⟨t, pts_one t1, t2⟩
/-- the reading of a comprehension -/
theorem tLc_rd {X : Cx} {W : WX} {wi : TI} {g : TG} {tt : TT} {te : TE} {vs js : List Nat} {fi : MS → Out (List D)} {tg : D → MS → Option MS} {test : MS → Out Bool} {elt : MS → Out D} {Xb : Cx} (hK : Xb.K = X.K) (hm : Xb.mg = X.mg)
    (hi : RdG X W (RIt X.K) wi fi)
    (hg : ∀ B st F σ H v d st' Q, Rel X.K B F st σ H → At X.K F v d → tg d st = some st' → (∀ σ', (∀ k, k ∉ js → σ'[k]? = σ[k]?) → σ'.length = σ.length → Rel X.K B F st' σ' H → Q σ' H) → g v σ H Q)
    (hj : ∀ k ∈ js, k ∈ vs)
    (ht : RdG Xb W0 RBool tt test) (he : RdG Xb W0 (RAt Xb.K) te elt) :
    ∀ B st F σ H Q, Rel X.K B F st σ H → (match mComp vs fi tg test elt st with
      | .ok ds st' => ∀ a F' H', Ex F F' → Rel X.K B F' st' σ H' → Fresh X.K B F' st' σ H' a ds → Q (.ref a) H'
      | .err c d st' => ∀ cls dx F' H', Ex F F' → Rel X.K B F' st' σ H' → ErrIs X.K X.mg F' H' c d cls dx → W cls dx σ H'
      | .stuck => False) → tLc wi g tt te vs σ H Q := by
  intro B st F σ H Q r p
  refine hi B st F σ H _ r ?_
  unfold mComp at p
  cases hf : fi st with
  | stuck => rw [hf] at p; exact p
  | err c d st' => rw [hf] at p; exact p
  | ok ds st1 =>
    rw [hf] at p
    simp only [Out.bind_ok] at p
    intro J F1 H1 e1 r1 y
    intro Dl hD
    obtain ⟨r2, f2⟩ := Fresh.new r1 hD (.nil : Ats X.K F1 [] [])
    refine ⟨fun i m H' => ∃ F' so acc, Ex F1 F' ∧ Rel X.K B F' so σ H' ∧ Fresh X.K B F' so σ H' Dl acc ∧ i + m = ds.length ∧ (match compM vs tg test elt (ds.drop i) acc so with
      | .ok ds st' => ∀ a F' H', Ex F F' → Rel X.K B F' st' σ H' → Fresh X.K B F' st' σ H' a ds → Q (.ref a) H'
      | .err c d st' => ∀ cls dx F' H', Ex F F' → Rel X.K B F' st' σ H' → ErrIs X.K X.mg F' H' c d cls dx → W cls dx σ H'
      | .stuck => False), ⟨ds.length, F1, st1, [], Same.refl _, r2, f2, Nat.zero_add _, p⟩, ?_⟩
    rintro i m H3 ⟨F3, so, acc, e3, r3, f3, him, p3⟩
    cases hd : ds[i]? with
    | none =>
      have hi : i = ds.length := by
        have := List.getElem?_eq_none_iff.mp hd
        omega
      refine .inl ⟨by rw [hi]; exact (y F3 H3 e3 r3.ext).2, ?_⟩
      rw [List.drop_eq_nil_of_le (by omega)] at p3
      exact p3 Dl F3 H3 (e1.trans e3) r3 f3
    | some d =>
      obtain ⟨go, yl⟩ := (y F3 H3 e3 r3.ext).1 i d hd
      have hlt := (List.getElem?_eq_some_iff.mp hd).1
      have hdr : ds.drop i = d :: ds.drop (i + 1) := by
        rw [List.drop_eq_getElem_cons hlt]
        rw [List.getElem?_eq_getElem hlt] at hd
        cases hd
        rfl
      rw [hdr] at p3
      refine .inr ⟨go, fun H' => ∃ F' so acc, Ex F1 F' ∧ Rel X.K B F' so σ H' ∧ Fresh X.K B F' so σ H' Dl acc ∧ (i + 1) + (m - 1) = ds.length ∧ (match compM vs tg test elt (ds.drop (i + 1)) acc so with
        | .ok ds st' => ∀ a F' H', Ex F F' → Rel X.K B F' st' σ H' → Fresh X.K B F' st' σ H' a ds → Q (.ref a) H'
        | .err c d st' => ∀ cls dx F' H', Ex F F' → Rel X.K B F' st' σ H' → ErrIs X.K X.mg F' H' c d cls dx → W cls dx σ H'
        | .stuck => False), fun H' hw => ⟨m - 1, by omega, hw⟩, fun x H4 hx => ?_⟩
      obtain ⟨F4, s4, a4⟩ := yl x H4 hx
      have r4 := r3.step s4
      have f4 := f3.step r3 s4
      unfold compM at p3
      cases hz : tg d (enter so vs) with
      | none => rw [hz] at p3; exact p3.elim
      | some s1 =>
        rw [hz] at p3
        dsimp only at p3
        refine hg _ _ F4 (wipe σ vs) H4 x d s1 _ (enter_rel r4) a4 hz fun σ5 k5 l5 r5 => ?_
        have kv : ∀ k, k ∉ vs → σ5[k]? = σ[k]? := fun k hk => (k5 k fun z => hk (hj k z)).trans (wipe_get hk)
        refine ⟨wipe_eq kv (l5.trans (wipe_length σ vs)), ?_⟩
        refine ht _ s1 F4 σ5 H4 _ (by rw [hK]; exact r5) ?_
        cases hts : test s1 with
        | stuck => rw [hts] at p3; exact p3.elim
        | err c d st' => rw [hts] at p3; exact p3.elim
        | ok k s2 =>
          rw [hts] at p3
          intro v F6 H6 e6 r6 a6
          cases a6
          rw [hK] at r6
          cases k with
          | false =>
            refine iteF ⟨F6, leave so s2 vs, acc, (e3.trans s4.f).trans e6, leave_rel r4 e6 r6 kv, (leave_fresh r4 f4 e6 r6).1, by omega, p3⟩
          | true =>
            refine iteT ?_
            refine he _ s2 F6 σ5 H6 _ (by rw [hK]; exact r6) ?_
            dsimp only at p3
            cases hel : elt s2 with
            | stuck => rw [hel] at p3; exact p3.elim
            | err c d st' => rw [hel] at p3; exact p3.elim
            | ok yd s3 =>
              rw [hel] at p3
              intro yv F7 H7 e7 r7 a7
              rw [hK] at r7
              have a7' : At X.K F7 yv yd := by
                have z : At Xb.K F7 yv yd := a7
                rw [hK] at z
                exact z
              have eE := e6.trans e7
              have r8 := leave_rel r4 eE r7 kv
              obtain ⟨f8, hsame⟩ := leave_fresh r4 f4 eE r7
              obtain ⟨xs, hx1, hx2⟩ := f8.at_
              dsimp only at p3
              by_cases hzl : acc.length < sizeLine
              · rw [if_pos hzl] at p3
                obtain ⟨r9, f9⟩ := f8.more r8 a7' hx1
                exact ⟨xs, hx1, by rw [hx2.length]; exact hzl, F7, _, _, (e3.trans s4.f).trans eE, r9, f9, by omega, p3⟩
              · rw [if_neg hzl] at p3
                exact p3.elim
/-- the reading that the data alone tell: the same in every context of one written part -/
def can {α β : Type} (K : PySem.W.Frag) (mg : Str → Option Value) (R : Hp → Hp → α → β → Prop) (W : WX) (f : MS → Out α) : St → Hp → (β → Hp → Prop) → Prop :=
  fun σ H Q => ∃ B st F, Rel K B F st σ H ∧ PostG K mg R B σ F W Q (f st)
def canG (K : PySem.W.Frag) (js : List Nat) (h : D → MS → Option MS) : TG := fun v σ H Q => ∃ B st F d st', Rel K B F st σ H ∧ At K F v d ∧ h d st = some st' ∧ ∀ σ', (∀ k, k ∉ js → σ'[k]? = σ[k]?) → σ'.length = σ.length → Rel K B F st' σ' H → Q σ' H
section
variable {X : Cx} {W : WX} {e : Expr}
theorem RE.pe {f : MS → Out D} (h : RE X W e f) : PE X e (can X.K X.mg (RAt X.K) W f) := by
  obtain ⟨t, h1, h2⟩ := h
  exact ⟨fun pins s σ H Q I ⟨B, st, F, r, p⟩ => h1.run pins s σ H Q I (h2 B st F σ H Q r p)⟩
theorem RT.pt {f : MS → Out Bool} (h : RT X W e f) : PT X e (can X.K X.mg RBool W f) := by
  obtain ⟨t, h1, h2⟩ := h
  exact ⟨fun pins s σ H Q I ⟨B, st, F, r, p⟩ => h1.run pins s σ H Q I (h2 B st F σ H Q r p)⟩
theorem RTs.pts {es : List Expr} {f : MS → Out Bool} (h : RTs X W es f) : PTs X es (can X.K X.mg RBool W f) := by
  obtain ⟨t, h1, h2⟩ := h
  exact ⟨fun pins s σ H Q I ⟨B, st, F, r, p⟩ => h1.run pins s σ H Q I (h2 B st F σ H Q r p)⟩
theorem RG.pg {js : List Nat} {h : D → MS → Option MS} (g : RG X e js h) : PG X e (canG X.K js h) := by
  obtain ⟨t, h1, h2⟩ := g
  exact ⟨fun pins s σ H v u Q I rv ⟨B, st, F, d, st', r, a, e, k⟩ => h1.run pins s σ H v u Q I rv (h2 B st F σ H v d st' _ r a e k)⟩
end
theorem rn_lc {X : Cx} {W : WX} {elt tg iter : Expr} {ifs : List Expr} {scope : Scope} {own : List (Str × Nat)} {pos : Pos} {js : List Nat} {fi : MS → Out (List D)} {tgf : D → MS → Option MS} {test : MS → Out Bool} {fe : MS → Out D}
    (hc : X.calm = true) (hN : X.N.Nodup) (ok : BlkOk X.N X.env.scope scope own) (hi : RI X W tg iter fi)
    (hg : ∀ (s : Shared) (H : Hp) (C : Addr) (cl : List (Str × Addr)) (fp : List Addr), RG (X.blk s H scope (compEnvC scope cl C X.env) fp) tg js tgf)
    (hj : ∀ k ∈ js, k ∈ own.map (·.2))
    (ht : ∀ (s : Shared) (H : Hp) (C : Addr) (cl : List (Str × Addr)) (fp : List Addr), RTs (X.blk s H scope (compEnvC scope cl C X.env) fp) W0 ifs test)
    (he : ∀ (s : Shared) (H : Hp) (C : Addr) (cl : List (Str × Addr)) (fp : List Addr), RE (X.blk s H scope (compEnvC scope cl C X.env) fp) W0 elt fe)
    (hs : ∀ x, foldedSetIterable iter X.env x = pure x := by intro _; rfl) : RN X W (.ListComp elt [⟨tg, iter, ifs, 0⟩] scope pos) (mComp (own.map (·.2)) fi tgf test fe) := by
  obtain ⟨wi, i1, i2⟩ := hi
  refine ⟨_, pe_lc (g := canG X.K js tgf) (tt := can X.K X.mg RBool W0 test) (te := can X.K X.mg (RAt X.K) W0 fe) hc hN i1 ok (fun s H C cl fp => (hg s H C cl fp).pg) (fun s H C cl fp => (ht s H C cl fp).pts) (fun s H C cl fp => (he s H C cl fp).pe) hs,
    tLc_rd (X := X) (Xb := X.blk X.s_0 X.H_0 scope (compEnvC scope [] 0 X.env) []) rfl rfl i2 (fun B st F σ H v d st' Q r a e k => ⟨B, st, F, d, st', r, a, e, k⟩) hj
      (fun B st F σ H Q r p => ⟨B, st, F, r, p⟩) fun B st F σ H Q r p => ⟨B, st, F, r, p⟩⟩
/-- name = [..], the name's own, on one line -/
theorem rs_ownLc {X : Cx} {W : WX} {elt tg iter : Expr} {ifs : List Expr} {scope : Scope} {own : List (Str × Nat)} {pos py spos : Pos} {y : Str} {i : Nat} {js : List Nat} {fi : MS → Out (List D)} {tgf : D → MS → Option MS} {test : MS → Out Bool} {fe : MS → Out D}
    (hc : X.calm = true) (hN : X.N.Nodup) (hy : X.N[i]? = some y) (hyl : X.env.scope.names.lookup y = some .local)
    (hsw : swapsWith (.ListComp elt [⟨tg, iter, ifs, 0⟩] scope pos) (some (.Name y py)) spos.line X.env = pure true) (ok : BlkOk X.N X.env.scope scope own) (hi : RI X W tg iter fi)
    (hg : ∀ (s : Shared) (H : Hp) (C : Addr) (cl : List (Str × Addr)) (fp : List Addr), RG (X.blk s H scope (compEnvC scope cl C X.env) fp) tg js tgf)
    (hj : ∀ k ∈ js, k ∈ own.map (·.2))
    (ht : ∀ (s : Shared) (H : Hp) (C : Addr) (cl : List (Str × Addr)) (fp : List Addr), RTs (X.blk s H scope (compEnvC scope cl C X.env) fp) W0 ifs test)
    (he : ∀ (s : Shared) (H : Hp) (C : Addr) (cl : List (Str × Addr)) (fp : List Addr), RE (X.blk s H scope (compEnvC scope cl C X.env) fp) W0 elt fe)
    (hs : ∀ x, foldedSetIterable iter X.env x = pure x := by intro _; rfl) : RS X W (.Assign [.Name y py] (.ListComp elt [⟨tg, iter, ifs, 0⟩] scope pos) spos) (mOwn i (mComp (own.map (·.2)) fi tgf test fe)) := by
  obtain ⟨wi, i1, i2⟩ := hi
  refine ⟨_, ps_setLc (g := canG X.K js tgf) (tt := can X.K X.mg RBool W0 test) (te := can X.K X.mg (RAt X.K) W0 fe) hc hN hy hyl hsw i1 ok (fun s H C cl fp => (hg s H C cl fp).pg) (fun s H C cl fp => (ht s H C cl fp).pts) (fun s H C cl fp => (he s H C cl fp).pe) hs, fun B st F σ H D' r p => ?_⟩
  refine tLc_rd (X := X) (W := W) (Xb := X.blk X.s_0 X.H_0 scope (compEnvC scope [] 0 X.env) []) (fi := fi) (tg := tgf) (test := test) (elt := fe) rfl rfl i2 (fun B st F σ H v d st' Q r a e k => ⟨B, st, F, d, st', r, a, e, k⟩) hj
      (fun B st F σ H Q r p => ⟨B, st, F, r, p⟩) (fun B st F σ H Q r p => ⟨B, st, F, r, p⟩) B st F σ H _ r ?_
  unfold mOwn at p
  cases hg : mComp (own.map (·.2)) fi tgf test fe st with
  | stuck => rw [hg] at p; exact p
  | err c d st' => rw [hg] at p; exact fun cls dx F2 H2 e2 r2 a2 => p cls dx σ F2 H2 e2 r2 a2
  | ok ds st' =>
    rw [hg] at p
    intro a F1 H1 e1 r1 f1
    exact p _ F1 H1 e1 (r1.seto f1)
/-- the same, a value from then on -/
theorem rs_setLc {X : Cx} {W : WX} {elt tg iter : Expr} {ifs : List Expr} {scope : Scope} {own : List (Str × Nat)} {pos py spos : Pos} {y : Str} {i : Nat} {js : List Nat} {fi : MS → Out (List D)} {tgf : D → MS → Option MS} {test : MS → Out Bool} {fe : MS → Out D}
    (hc : X.calm = true) (hN : X.N.Nodup) (hy : X.N[i]? = some y) (hyl : X.env.scope.names.lookup y = some .local)
    (hsw : swapsWith (.ListComp elt [⟨tg, iter, ifs, 0⟩] scope pos) (some (.Name y py)) spos.line X.env = pure true) (ok : BlkOk X.N X.env.scope scope own) (hi : RI X W tg iter fi)
    (hg : ∀ (s : Shared) (H : Hp) (C : Addr) (cl : List (Str × Addr)) (fp : List Addr), RG (X.blk s H scope (compEnvC scope cl C X.env) fp) tg js tgf)
    (hj : ∀ k ∈ js, k ∈ own.map (·.2))
    (ht : ∀ (s : Shared) (H : Hp) (C : Addr) (cl : List (Str × Addr)) (fp : List Addr), RTs (X.blk s H scope (compEnvC scope cl C X.env) fp) W0 ifs test)
    (he : ∀ (s : Shared) (H : Hp) (C : Addr) (cl : List (Str × Addr)) (fp : List Addr), RE (X.blk s H scope (compEnvC scope cl C X.env) fp) W0 elt fe)
    (hs : ∀ x, foldedSetIterable iter X.env x = pure x := by intro _; rfl) : RS X W (.Assign [.Name y py] (.ListComp elt [⟨tg, iter, ifs, 0⟩] scope pos) spos) (mAsg (mLv (mComp (own.map (·.2)) fi tgf test fe)) (tgName i)) := by
  obtain ⟨wi, i1, i2⟩ := hi
  refine ⟨_, ps_setLc (g := canG X.K js tgf) (tt := can X.K X.mg RBool W0 test) (te := can X.K X.mg (RAt X.K) W0 fe) hc hN hy hyl hsw i1 ok (fun s H C cl fp => (hg s H C cl fp).pg) (fun s H C cl fp => (ht s H C cl fp).pts) (fun s H C cl fp => (he s H C cl fp).pe) hs, fun B st F σ H D' r p => ?_⟩
  refine tLc_rd (X := X) (W := W) (Xb := X.blk X.s_0 X.H_0 scope (compEnvC scope [] 0 X.env) []) (fi := fi) (tg := tgf) (test := test) (elt := fe) rfl rfl i2 (fun B st F σ H v d st' Q r a e k => ⟨B, st, F, d, st', r, a, e, k⟩) hj
      (fun B st F σ H Q r p => ⟨B, st, F, r, p⟩) (fun B st F σ H Q r p => ⟨B, st, F, r, p⟩) B st F σ H _ r ?_
  unfold mAsg mLv at p
  cases hg : mComp (own.map (·.2)) fi tgf test fe st with
  | stuck => rw [hg] at p; exact p
  | err c d st' => rw [hg] at p; exact fun cls dx F2 H2 e2 r2 a2 => p cls dx σ F2 H2 e2 r2 a2
  | ok ds st' =>
    rw [hg] at p
    intro a F1 H1 e1 r1 f1
    obtain ⟨F2, e2, r2, a2⟩ := f1.freeze r1
    exact p _ F2 H1 (e1.trans e2) (r2.setv a2)
end MX

namespace MX
open PySem PySem.Spec L2
open PyProof.Rows hiding St

/-! ### data as the library's data -/
mutual
def D.py : D → Option PyData
  | .non => some .none
  | .bl b => some (.bool b)
  | .int i => some (.int i)
  | .str s => some (.str s)
  | .tup xs => (pys xs).map .tuple
  | .lst xs => (pys xs).map .list
  | .scr _ => none
  | .ins _ _ _ => none
  | .exc _ _ _ => none
def pys : List D → Option (List PyData)
  | [] => some []
  | d :: ds => d.py.bind fun p => (pys ds).map (p :: ·)
end
section
variable {K : PySem.W.Frag} {F H : Hp}
mutual
theorem at_dp (e : Ex F H) : ∀ {v : V} {d : D} {p : PyData}, At K F v d → d.py = some p → Dp K H v p
  | _, _, p, .non, h => by
    simp only [D.py, Option.some.injEq] at h
    subst h
    exact .non
  | _, _, p, .bl b, h => by
    simp only [D.py, Option.some.injEq] at h
    subst h
    exact .bl b
  | _, _, p, .int i, h => by
    simp only [D.py, Option.some.injEq] at h
    subst h
    exact .int i
  | _, _, p, .str s, h => by
    simp only [D.py, Option.some.injEq] at h
    subst h
    exact .str s
  | _, .tup ds, p, .tup hs ha, h => by
    unfold D.py at h
    cases hz : pys ds with
    | none => rw [hz] at h; cases h
    | some ps =>
      rw [hz] at h
      cases h
      exact .tup (ex_t e hs) (ats_dp e ha hz)
  | _, .lst ds, p, .lst hs ha, h => by
    unfold D.py at h
    cases hz : pys ds with
    | none => rw [hz] at h; cases h
    | some ps =>
      rw [hz] at h
      cases h
      exact .lst (SqL.of (e _ _ hs)) (ats_dp e ha hz)
  | _, _, p, .scr _ _, h => by unfold D.py at h; cases h
  | _, _, p, .ins _ _ _, h => by unfold D.py at h; cases h
  | _, _, p, .exc _ _ _ _ _, h => by unfold D.py at h; cases h
theorem ats_dp (e : Ex F H) : ∀ {vs : List V} {ds : List D} {ps : List PyData}, Ats K F vs ds → pys ds = some ps → DpAll K H vs ps
  | _, _, ps, .nil, h => by
    simp only [pys, Option.some.injEq] at h
    subst h
    exact .nil
  | _, d :: ds, ps, .cons a as, h => by
    unfold pys at h
    cases hz : d.py with
    | none => rw [hz] at h; cases h
    | some p =>
      rw [hz] at h
      cases hz2 : pys ds with
      | none => rw [hz2] at h; cases h
      | some ps' =>
        rw [hz2] at h
        cases h
        exact .cons (at_dp e a hz) (ats_dp e as hz2)
end
end

/-! ### Python's == on data -/
mutual
def D.beq : D → D → Bool
  | .non, .non => true
  | .bl a, .bl b => a == b
  | .bl a, .int j => (if a then 1 else 0) == j
  | .int i, .bl b => i == (if b then 1 else 0)
  | .int i, .int j => i == j
  | .str x, .str y => x == y
  | .lst xs, .lst ys => beqs xs ys
  | .tup xs, .tup ys => beqs xs ys
  | _, _ => false
def beqs : List D → List D → Bool
  | [], [] => true
  | x :: xs, y :: ys => x.beq y && beqs xs ys
  | _, _ => false
end
mutual
/-- no script, no instance within; texts of signs alone -/
def D.plain : D → Bool
  | .str s => PyData.strOk s
  | .tup xs => plains xs
  | .lst xs => plains xs
  | .scr _ => false
  | .ins _ _ _ => false
  | .exc _ _ _ => false
  | _ => true
def plains : List D → Bool
  | [] => true
  | d :: ds => d.plain && plains ds
end
mutual
def D.dep : D → Nat
  | .tup xs => deps xs + 1
  | .lst xs => deps xs + 1
  | _ => 0
def deps : List D → Nat
  | [] => 0
  | d :: ds => max d.dep (deps ds)
end
mutual
theorem plain_py : ∀ {d : D}, d.plain = true → ∃ p, d.py = some p ∧ p.canLay0 = true ∧ p.depth = d.dep
  | .non, _ => ⟨_, rfl, rfl, rfl⟩
  | .bl b, _ => ⟨_, rfl, rfl, rfl⟩
  | .int i, _ => ⟨_, rfl, rfl, rfl⟩
  | .str s, h => ⟨_, rfl, h, rfl⟩
  | .tup xs, h => by
    obtain ⟨ps, h1, h2, h3⟩ := plains_pys (ds := xs) h
    exact ⟨.tuple ps, by unfold D.py; rw [h1]; rfl, h2, by unfold PyData.depth D.dep; rw [h3]⟩
  | .lst xs, h => by
    obtain ⟨ps, h1, h2, h3⟩ := plains_pys (ds := xs) h
    exact ⟨.list ps, by unfold D.py; rw [h1]; rfl, h2, by unfold PyData.depth D.dep; rw [h3]⟩
  | .scr _, h => by cases h
  | .ins _ _ _, h => by cases h
  | .exc _ _ _, h => by cases h
theorem plains_pys : ∀ {ds : List D}, plains ds = true → ∃ ps, pys ds = some ps ∧ PyData.canLayAll0 ps = true ∧ PyData.depthAll ps = deps ds
  | [], _ => ⟨_, rfl, rfl, rfl⟩
  | d :: ds, h => by
    unfold plains at h
    rw [Bool.and_eq_true] at h
    obtain ⟨p, h1, h2, h3⟩ := plain_py (d := d) h.1
    obtain ⟨ps, g1, g2, g3⟩ := plains_pys (ds := ds) h.2
    refine ⟨p :: ps, by unfold pys; rw [h1, g1]; rfl, by unfold PyData.canLayAll0; rw [h2, g2]; rfl, by unfold PyData.depthAll deps; rw [h3, g3]⟩
end
mutual
theorem beq_eqv : ∀ {d e : D} {p q : PyData}, d.py = some p → e.py = some q → PyData.eqv p q = d.beq e
  | .tup xs, .tup ys, p, q, h, h' => by
    unfold D.py at h h'
    cases h1 : pys xs with
    | none => rw [h1] at h; cases h
    | some ps =>
      cases h2 : pys ys with
      | none => rw [h2] at h'; cases h'
      | some qs =>
        rw [h1] at h; rw [h2] at h'
        cases h; cases h'
        unfold PyData.eqv D.beq
        exact beqs_eqv h1 h2
  | .lst xs, .lst ys, p, q, h, h' => by
    unfold D.py at h h'
    cases h1 : pys xs with
    | none => rw [h1] at h; cases h
    | some ps =>
      cases h2 : pys ys with
      | none => rw [h2] at h'; cases h'
      | some qs =>
        rw [h1] at h; rw [h2] at h'
        cases h; cases h'
        unfold PyData.eqv D.beq
        exact beqs_eqv h1 h2
  | .tup xs, .non, p, q, h, h' => by (unfold D.py at h h'; cases h1 : pys xs <;> (rw [h1] at h; cases h); cases h'; rfl)
  | .tup xs, .bl _, p, q, h, h' => by (unfold D.py at h h'; cases h1 : pys xs <;> (rw [h1] at h; cases h); cases h'; rfl)
  | .tup xs, .int _, p, q, h, h' => by (unfold D.py at h h'; cases h1 : pys xs <;> (rw [h1] at h; cases h); cases h'; rfl)
  | .tup xs, .str _, p, q, h, h' => by (unfold D.py at h h'; cases h1 : pys xs <;> (rw [h1] at h; cases h); cases h'; rfl)
  | .tup xs, .lst ys, p, q, h, h' => by (unfold D.py at h h'; cases h1 : pys xs <;> (rw [h1] at h; cases h); cases h2 : pys ys <;> (rw [h2] at h'; cases h'); rfl)
  | .lst xs, .non, p, q, h, h' => by (unfold D.py at h h'; cases h1 : pys xs <;> (rw [h1] at h; cases h); cases h'; rfl)
  | .lst xs, .bl _, p, q, h, h' => by (unfold D.py at h h'; cases h1 : pys xs <;> (rw [h1] at h; cases h); cases h'; rfl)
  | .lst xs, .int _, p, q, h, h' => by (unfold D.py at h h'; cases h1 : pys xs <;> (rw [h1] at h; cases h); cases h'; rfl)
  | .lst xs, .str _, p, q, h, h' => by (unfold D.py at h h'; cases h1 : pys xs <;> (rw [h1] at h; cases h); cases h'; rfl)
  | .lst xs, .tup ys, p, q, h, h' => by (unfold D.py at h h'; cases h1 : pys xs <;> (rw [h1] at h; cases h); cases h2 : pys ys <;> (rw [h2] at h'; cases h'); rfl)
  | .non, .tup ys, p, q, h, h' => by (unfold D.py at h h'; cases h2 : pys ys <;> (rw [h2] at h'; cases h'); cases h; rfl)
  | .bl _, .tup ys, p, q, h, h' => by (unfold D.py at h h'; cases h2 : pys ys <;> (rw [h2] at h'; cases h'); cases h; rfl)
  | .int _, .tup ys, p, q, h, h' => by (unfold D.py at h h'; cases h2 : pys ys <;> (rw [h2] at h'; cases h'); cases h; rfl)
  | .str _, .tup ys, p, q, h, h' => by (unfold D.py at h h'; cases h2 : pys ys <;> (rw [h2] at h'; cases h'); cases h; rfl)
  | .non, .lst ys, p, q, h, h' => by (unfold D.py at h h'; cases h2 : pys ys <;> (rw [h2] at h'; cases h'); cases h; rfl)
  | .bl _, .lst ys, p, q, h, h' => by (unfold D.py at h h'; cases h2 : pys ys <;> (rw [h2] at h'; cases h'); cases h; rfl)
  | .int _, .lst ys, p, q, h, h' => by (unfold D.py at h h'; cases h2 : pys ys <;> (rw [h2] at h'; cases h'); cases h; rfl)
  | .str _, .lst ys, p, q, h, h' => by (unfold D.py at h h'; cases h2 : pys ys <;> (rw [h2] at h'; cases h'); cases h; rfl)
  | .non, .non, p, q, h, h' => by (unfold D.py at h h'; cases h; cases h'; rfl)
  | .non, .bl _, p, q, h, h' => by (unfold D.py at h h'; cases h; cases h'; rfl)
  | .non, .int _, p, q, h, h' => by (unfold D.py at h h'; cases h; cases h'; rfl)
  | .non, .str _, p, q, h, h' => by (unfold D.py at h h'; cases h; cases h'; rfl)
  | .bl _, .non, p, q, h, h' => by (unfold D.py at h h'; cases h; cases h'; rfl)
  | .bl _, .bl _, p, q, h, h' => by (unfold D.py at h h'; cases h; cases h'; rfl)
  | .bl _, .int _, p, q, h, h' => by (unfold D.py at h h'; cases h; cases h'; rfl)
  | .bl _, .str _, p, q, h, h' => by (unfold D.py at h h'; cases h; cases h'; rfl)
  | .int _, .non, p, q, h, h' => by (unfold D.py at h h'; cases h; cases h'; rfl)
  | .int _, .bl _, p, q, h, h' => by (unfold D.py at h h'; cases h; cases h'; rfl)
  | .int _, .int _, p, q, h, h' => by (unfold D.py at h h'; cases h; cases h'; rfl)
  | .int _, .str _, p, q, h, h' => by (unfold D.py at h h'; cases h; cases h'; rfl)
  | .str _, .non, p, q, h, h' => by (unfold D.py at h h'; cases h; cases h'; rfl)
  | .str _, .bl _, p, q, h, h' => by (unfold D.py at h h'; cases h; cases h'; rfl)
  | .str _, .int _, p, q, h, h' => by (unfold D.py at h h'; cases h; cases h'; rfl)
  | .str _, .str _, p, q, h, h' => by (unfold D.py at h h'; cases h; cases h'; rfl)
  | .scr _, _, p, q, h, h' => by (unfold D.py at h; cases h)
  | .ins _ _ _, _, p, q, h, h' => by (unfold D.py at h; cases h)
  | .exc _ _ _, _, p, q, h, h' => by (unfold D.py at h; cases h)
  | _, .scr _, p, q, h, h' => by (unfold D.py at h'; cases h')
  | _, .ins _ _ _, p, q, h, h' => by (unfold D.py at h'; cases h')
  | _, .exc _ _ _, p, q, h, h' => by (unfold D.py at h'; cases h')
theorem beqs_eqv : ∀ {ds es : List D} {ps qs : List PyData}, pys ds = some ps → pys es = some qs → PyData.eqvAll ps qs = beqs ds es
  | [], [], ps, qs, h, h' => by (cases h; cases h'; rfl)
  | [], e :: es, ps, qs, h, h' => by
    cases h
    unfold pys at h'
    cases h1 : e.py with
    | none => rw [h1] at h'; cases h'
    | some q =>
      rw [h1] at h'
      cases h2 : pys es with
      | none => rw [h2] at h'; cases h'
      | some qs' => rw [h2] at h'; cases h'; rfl
  | d :: ds, [], ps, qs, h, h' => by
    cases h'
    unfold pys at h
    cases h1 : d.py with
    | none => rw [h1] at h; cases h
    | some q =>
      rw [h1] at h
      cases h2 : pys ds with
      | none => rw [h2] at h; cases h
      | some qs' => rw [h2] at h; cases h; rfl
  | d :: ds, e :: es, ps, qs, h, h' => by
    unfold pys at h h'
    cases h1 : d.py with
    | none => rw [h1] at h; cases h
    | some p =>
      rw [h1] at h
      cases h2 : pys ds with
      | none => rw [h2] at h; cases h
      | some ps' =>
        rw [h2] at h
        cases h
        cases g1 : e.py with
        | none => rw [g1] at h'; cases h'
        | some q =>
          rw [g1] at h'
          cases g2 : pys es with
          | none => rw [g2] at h'; cases h'
          | some qs' =>
            rw [g2] at h'
            cases h'
            unfold PyData.eqvAll beqs
            rw [beq_eqv h1 g1, beqs_eqv h2 g2]
end
def cmpOk (d e : D) : Bool := d.plain && e.plain && (decide (d.dep ≤ 64) || decide (e.dep ≤ 64))
def eqD (d e : D) : Option D := if cmpOk d e = true then some (.bl (d.beq e)) else none
def neD (d e : D) : Option D := if cmpOk d e = true then some (.bl (!d.beq e)) else none
section
variable {X : Cx}
/-- both sides' data, and room -/
theorem cmp_data {F H : Hp} {x y : V} {d e : D} (hF : Ex F H) (ax : At X.K F x d) (ay : At X.K F y e) (h : cmpOk d e = true) (hu : X.A.units + 64 < cLine) :
    ∃ p q, Dp X.K H x p ∧ Dp X.K H y q ∧ p.canLay0 = true ∧ q.canLay0 = true ∧ X.A.units + min p.depth q.depth < cLine ∧ PyData.eqv p q = d.beq e := by
  unfold cmpOk at h
  simp only [Bool.and_eq_true, Bool.or_eq_true, decide_eq_true_eq] at h
  obtain ⟨⟨h1, h2⟩, h3⟩ := h
  obtain ⟨p, p1, p2, p3⟩ := plain_py h1
  obtain ⟨q, q1, q2, q3⟩ := plain_py h2
  refine ⟨p, q, at_dp hF ax p1, at_dp hF ay q1, p2, q2, ?_, beq_eqv p1 q1⟩
  have := Nat.min_le_left p.depth q.depth
  have := Nat.min_le_right p.depth q.depth
  omega
def rEqP (K : PySem.W.Frag) (A : Around) : R2 := fun x y H Q => ∃ p q, Dp K H x p ∧ Dp K H y q ∧ p.canLay0 = true ∧ q.canLay0 = true ∧ A.units + min p.depth q.depth < cLine ∧ Q (.bl (PyData.eqv p q)) H
def rNeP (K : PySem.W.Frag) (A : Around) : R2 := fun x y H Q => ∃ p q, Dp K H x p ∧ Dp K H y q ∧ p.canLay0 = true ∧ q.canLay0 = true ∧ A.units + min p.depth q.depth < cLine ∧ Q (.bl (!PyData.eqv p q)) H
theorem od_eq (hu : X.A.units + 64 < cLine) : OpD X (compareOp .Eq) eqD := by
  refine ⟨rEqP X.K X.A, fun pins s σ H x y v u Q I rx ry h => ?_, fun F H x y d e z Q hF ax ay hz k => ?_⟩
  · obtain ⟨d, e, hd, he, sd, se, hr, q⟩ := h
    obtain ⟨as, r1⟩ := Dp.reads I d x v hd rx
    obtain ⟨bs, r2⟩ := Dp.reads I e y u he ry
    exact SeqAt.compareEq_reads r1 r2 sd se hr ⟨.bl _, H, I, rfl, q⟩
  · unfold eqD at hz
    by_cases hc : cmpOk d e = true
    · rw [if_pos hc] at hz
      cases hz
      obtain ⟨p, q, h1, h2, h3, h4, h5, h6⟩ := cmp_data hF ax ay hc hu
      exact ⟨p, q, h1, h2, h3, h4, h5, by rw [h6]; exact k _ F H (Stp.refl hF) (.bl _)⟩
    · rw [if_neg hc] at hz
      cases hz
theorem od_ne (hu : X.A.units + 64 < cLine) : OpD X (compareOp .NotEq) neD := by
  refine ⟨rNeP X.K X.A, fun pins s σ H x y v u Q I rx ry h => ?_, fun F H x y d e z Q hF ax ay hz k => ?_⟩
  · obtain ⟨d, e, hd, he, sd, se, hr, q⟩ := h
    obtain ⟨as, r1⟩ := Dp.reads I d x v hd rx
    obtain ⟨bs, r2⟩ := Dp.reads I e y u he ry
    exact SeqAt.compareNe_reads r1 r2 sd se hr ⟨.bl _, H, I, rfl, q⟩
  · unfold neD at hz
    by_cases hc : cmpOk d e = true
    · rw [if_pos hc] at hz
      cases hz
      obtain ⟨p, q, h1, h2, h3, h4, h5, h6⟩ := cmp_data hF ax ay hc hu
      exact ⟨p, q, h1, h2, h3, h4, h5, by rw [h6]; exact k _ F H (Stp.refl hF) (.bl _)⟩
    · rw [if_neg hc] at hz
      cases hz
/-- in: a text in a text, an item in a list or a tuple -/
def strIn (a b : Str) : Bool := !(Builtin.Str.occurrences b a 0 b.length 1).isEmpty
def anyEq (d : D) : List D → Bool
  | [] => false
  | e :: es => e.beq d || anyEq d es
def inD (d e : D) : Option D := match e with
  | .str b => match d with
    | .str a => some (.bl (strIn a b))
    | _ => none
  | .lst es => if d.plain && plains es && decide (d.dep ≤ 64) then some (.bl (anyEq d es)) else none
  | .tup es => if d.plain && plains es && decide (d.dep ≤ 64) then some (.bl (anyEq d es)) else none
  | _ => none
def ninD (d e : D) : Option D := match inD d e with
  | some (.bl b) => some (.bl (!b))
  | _ => none
theorem anyEq_eqv : ∀ {es : List D} {qs : List PyData} {d : D} {p : PyData}, d.py = some p → pys es = some qs → (qs.any fun z => PyData.eqv z p) = anyEq d es
  | [], qs, d, p, h, h' => by (cases h'; rfl)
  | e :: es, qs, d, p, h, h' => by
    unfold pys at h'
    cases g1 : e.py with
    | none => rw [g1] at h'; cases h'
    | some q =>
      rw [g1] at h'
      cases g2 : pys es with
      | none => rw [g2] at h'; cases h'
      | some qs' =>
        rw [g2] at h'
        cases h'
        unfold anyEq
        rw [List.any_cons, beq_eqv g1 h, anyEq_eqv h g2]
def rInP (K : PySem.W.Frag) (A : Around) (neg : Bool) : R2 := fun x y H Q =>
  (∃ i j, x = .str i ∧ y = .str j ∧ Q (.bl (if neg then !strIn i j else strIn i j)) H) ∨
  ∃ p qs, Dp K H x p ∧ (Dp K H y (.list qs) ∨ Dp K H y (.tuple qs)) ∧ p.canLay0 = true ∧ PyData.canLayAll0 qs = true ∧ A.units + 1 + min (PyData.depthAll qs) p.depth < cLine ∧
    Q (.bl (if neg then !(qs.any fun z => PyData.eqv z p) else qs.any fun z => PyData.eqv z p)) H
theorem in_data {F H : Hp} {x y : V} {d e : D} {b : Bool} (hF : Ex F H) (ax : At X.K F x d) (ay : At X.K F y e) (h : inD d e = some (.bl b)) (hu : X.A.units + 65 < cLine) {Q : VK} {neg : Bool} (k : Q (.bl (if neg then !b else b)) H) : rInP X.K X.A neg x y H Q := by
  have seq : ∀ es : List D, (if (d.plain && plains es && decide (d.dep ≤ 64)) = true then some (D.bl (anyEq d es)) else none) = some (.bl b) → ∃ p qs, d.py = some p ∧ pys es = some qs ∧ p.canLay0 = true ∧ PyData.canLayAll0 qs = true ∧ X.A.units + 1 + min (PyData.depthAll qs) p.depth < cLine ∧ (qs.any fun z => PyData.eqv z p) = b := fun es hh => by
    split at hh
    · rename_i hc
      cases hh
      simp only [Bool.and_eq_true, decide_eq_true_eq] at hc
      obtain ⟨⟨h1, h2⟩, h3⟩ := hc
      obtain ⟨p, p1, p2, p3⟩ := plain_py h1
      obtain ⟨qs, q1, q2, q3⟩ := plains_pys h2
      refine ⟨p, qs, p1, q1, p2, q2, ?_, anyEq_eqv p1 q1⟩
      have := Nat.min_le_right (PyData.depthAll qs) p.depth
      omega
    · cases hh
  unfold inD at h
  cases ay with
  | str j =>
    cases ax with
    | str i =>
      cases h
      exact .inl ⟨i, j, rfl, rfl, k⟩
    | _ => cases h
  | lst hs ha =>
    obtain ⟨p, qs, p1, q1, p2, q2, hr, hb⟩ := seq _ h
    exact .inr ⟨p, qs, at_dp hF ax p1, .inl (.lst (SqL.of (hF _ _ hs)) (ats_dp hF ha q1)), p2, q2, hr, by rw [hb]; exact k⟩
  | tup hs ha =>
    obtain ⟨p, qs, p1, q1, p2, q2, hr, hb⟩ := seq _ h
    exact .inr ⟨p, qs, at_dp hF ax p1, .inr (.tup (ex_t hF hs) (ats_dp hF ha q1)), p2, q2, hr, by rw [hb]; exact k⟩
  | _ => cases h
theorem od_in (hu : X.A.units + 65 < cLine) : OpD X (compareOp .In) inD := by
  refine ⟨rInP X.K X.A false, fun pins s σ H x y v u Q I rx ry h => ?_, fun F H x y d e z Q hF ax ay hz k => ?_⟩
  · rcases h with ⟨i, j, rfl, rfl, q⟩ | ⟨p, qs, hd, he, sd, se, hr, q⟩
    · exact op_in_str pins s σ H _ _ v u Q I rx ry ⟨i, j, rfl, rfl, q⟩
    · obtain ⟨as, r1⟩ := Dp.reads I p x v hd rx
      rcases he with he | he
      · obtain ⟨bs, r2⟩ := Dp.reads I (.list qs) y u he ry
        exact SeqAt.in_list_reads r2 r1 se sd hr ⟨.bl _, H, I, rfl, q⟩
      · obtain ⟨bs, r2⟩ := Dp.reads I (.tuple qs) y u he ry
        exact SeqAt.in_tuple_reads r2 r1 se sd hr ⟨.bl _, H, I, rfl, q⟩
  · have hb : ∃ b, z = .bl b := by
      unfold inD at hz
      split at hz
      · split at hz <;> first | (cases hz; exact ⟨_, rfl⟩) | cases hz
      · split at hz <;> first | (cases hz; exact ⟨_, rfl⟩) | cases hz
      · split at hz <;> first | (cases hz; exact ⟨_, rfl⟩) | cases hz
      · cases hz
    obtain ⟨b, rfl⟩ := hb
    exact in_data hF ax ay hz hu (neg := false) (k _ F H (Stp.refl hF) (.bl _))
theorem od_nin (hu : X.A.units + 65 < cLine) : OpD X (compareOp .NotIn) ninD := by
  refine ⟨rInP X.K X.A true, fun pins s σ H x y v u Q I rx ry h => ?_, fun F H x y d e z Q hF ax ay hz k => ?_⟩
  · rcases h with ⟨i, j, rfl, rfl, q⟩ | ⟨p, qs, hd, he, sd, se, hr, q⟩
    · exact op_notin_str pins s σ H _ _ v u Q I rx ry ⟨i, j, rfl, rfl, q⟩
    · obtain ⟨as, r1⟩ := Dp.reads I p x v hd rx
      rcases he with he | he
      · obtain ⟨bs, r2⟩ := Dp.reads I (.list qs) y u he ry
        exact SeqAt.notIn_list_reads r2 r1 se sd hr ⟨.bl _, H, I, rfl, q⟩
      · obtain ⟨bs, r2⟩ := Dp.reads I (.tuple qs) y u he ry
        exact SeqAt.notIn_tuple_reads r2 r1 se sd hr ⟨.bl _, H, I, rfl, q⟩
  · unfold ninD at hz
    cases hi : inD d e with
    | none => rw [hi] at hz; cases hz
    | some w =>
      rw [hi] at hz
      cases w with
      | bl b =>
        cases hz
        exact in_data hF ax ay hi hu (neg := true) (k _ F H (Stp.refl hF) (.bl _))
      | _ => cases hz

/-! ### is: with None, True, False on the right -/
def isD (d e : D) : Option D := match e with
  | .non => some (.bl (match d with | .non => true | _ => false))
  | .bl b => some (.bl (match d with | .bl a => a == b | _ => false))
  | _ => none
def nisD (d e : D) : Option D := match isD d e with
  | some (.bl b) => some (.bl (!b))
  | _ => none
def rIsC (neg : Bool) : R2 := fun x y H Q => (y = .non ∨ ∃ b, y = .bl b) ∧ Q (.bl (if neg then !decide (x = y) else decide (x = y))) H
theorem rel_beq {x y : V} {v u : Value} (rx : RelV x v) (ry : RelV y u) (hy : y = .non ∨ ∃ b, y = .bl b) : (v == u) = decide (x = y) := by
  rw [Bool.eq_iff_iff, beq_iff_eq, decide_eq_true_eq]
  constructor
  · intro e
    subst e
    exact rx.inj ry
  · intro e
    subst e
    rcases hy with rfl | ⟨b, rfl⟩
    · exact Eq.trans (show v = Value.none from rx) (Eq.symm (show u = Value.none from ry))
    · exact Eq.trans (show v = Value.bool b from rx) (Eq.symm (show u = Value.bool b from ry))
theorem op_isC (neg : Bool) : OpR X (compareOp (if neg then .IsNot else .Is)) (rIsC neg) := by
  intro pins s σ H x y v u Q I rx ry h
  obtain ⟨hy, q⟩ := h
  have hb := rel_beq rx ry hy
  have hu : u = .none ∨ ∃ b, u = .bool b := by
    rcases hy with rfl | ⟨b, rfl⟩
    · exact .inl ry
    · exact .inr ⟨b, ry⟩
  have hv : ∀ n, v ≠ .builtin n := by
    intro n e
    subst e
    cases x <;> first
      | (obtain ⟨t, e⟩ := rx; cases e)
      | cases rx
  have hs : ∀ P : Bool → Shared → Prop, P (v == u) s → wpAny (model X.prog X.w) X.A (isSame v u) P X.xe s := by
    intro P hp
    rcases hu with rfl | ⟨b, rfl⟩ <;> cases v <;> first
      | exact wpAny_pure hp
      | exact absurd rfl (hv _)
  cases neg with
  | false =>
    show wpAny _ _ (compareOp .Is v u) _ _ _
    refine wpAny_bind (hs _ (wpAny_pure ?_))
    exact ⟨.bl _, H, I, by rw [hb]; rfl, q⟩
  | true =>
    show wpAny _ _ (compareOp .IsNot v u) _ _ _
    refine wpAny_bind (hs _ (wpAny_pure ?_))
    exact ⟨.bl _, H, I, by rw [hb]; rfl, q⟩
end
end MX

namespace MX
open PySem PySem.Spec L2
open PyProof.Rows hiding St
section
variable {X : Cx}
theorem isC_data {F H : Hp} {x y : V} {d e : D} {b : Bool} (ax : At X.K F x d) (ay : At X.K F y e) (h : isD d e = some (.bl b)) {Q : VK} {neg : Bool} (k : Q (.bl (if neg then !b else b)) H) : rIsC neg x y H Q := by
  unfold isD at h
  cases ay with
  | non =>
    cases h
    refine ⟨.inl rfl, ?_⟩
    cases ax <;> exact k
  | bl c =>
    cases h
    refine ⟨.inr ⟨c, rfl⟩, ?_⟩
    cases ax with
    | bl a =>
      have e : decide (V.bl a = V.bl c) = (a == c) := by
        rw [Bool.eq_iff_iff]
        simp
      rw [e]
      exact k
    | _ => exact k
  | _ => cases h
theorem isD_bl {d e z : D} (h : isD d e = some z) : ∃ b, z = .bl b := by
  unfold isD at h
  split at h <;> first | (cases h; exact ⟨_, rfl⟩) | cases h
theorem od_is : OpD X (compareOp .Is) isD := by
  refine ⟨rIsC false, op_isC false, fun F H x y d e z Q hF ax ay hz k => ?_⟩
  obtain ⟨b, rfl⟩ := isD_bl hz
  exact isC_data ax ay hz (neg := false) (k _ F H (Stp.refl hF) (.bl _))
theorem od_nis : OpD X (compareOp .IsNot) nisD := by
  refine ⟨rIsC true, op_isC true, fun F H x y d e z Q hF ax ay hz k => ?_⟩
  unfold nisD at hz
  cases hi : isD d e with
  | none => rw [hi] at hz; cases hz
  | some w =>
    rw [hi] at hz
    obtain ⟨b, rfl⟩ := isD_bl hi
    cases hz
    exact isC_data ax ay hi (neg := true) (k _ F H (Stp.refl hF) (.bl _))

/-! ### numbers -/
def addD (d e : D) : Option D := match d, e with
  | .int i, .int j => some (.int (i + j))
  | .str a, .str b => if a.length + b.length ≤ sizeLine then some (.str (a ++ b)) else none
  | .tup a, .tup b => if a.length + b.length ≤ sizeLine then some (.tup (a ++ b)) else none
  | .lst a, .lst b => if a.length + b.length ≤ sizeLine then some (.lst (a ++ b)) else none
  | _, _ => none
theorem od_add : OpD X (binaryOp .Add) addD := by
  refine ⟨_, op_add.or (op_add_str.or (op_catA.or op_cat)), fun F H x y d e z Q hF ax ay hz k => ?_⟩
  unfold addD at hz
  cases ax with
  | int i =>
    cases ay with
    | int j => cases hz; exact .inl ⟨i, j, rfl, rfl, k _ F H (Stp.refl hF) (.int _)⟩
    | _ => cases hz
  | str a =>
    cases ay with
    | str b =>
      dsimp only at hz
      split at hz
      · rename_i hl
        cases hz
        exact .inr (.inl ⟨a, b, rfl, rfl, hl, k _ F H (Stp.refl hF) (.str _)⟩)
      · cases hz
    | _ => cases hz
  | tup hs ha =>
    cases ay with
    | tup hs' ha' =>
      dsimp only at hz
      split at hz
      · rename_i hl
        cases hz
        rename_i hl
        refine .inr (.inr (.inl ⟨_, _, _, _, rfl, rfl, ex_t hF hs, ex_t hF hs', by rw [ha.length, ha'.length]; exact hl, fun e => ?_, fun _ e => ?_, fun _ _ p hp => ?_⟩))
        · subst e
          cases ha
          exact k _ F H (Stp.refl hF) (.tup hs' ha')
        · subst e
          cases ha'
          rw [List.append_nil] at k
          exact k _ F H (Stp.refl hF) (.tup hs ha)
        · exact k _ _ _ (Stp.new hF hp) (.tup (SqT.of upd_same) ((ha.append ha').mono (Stp.new hF hp).f))
      · cases hz
    | _ => cases hz
  | lst hs ha =>
    cases ay with
    | lst hs' ha' =>
      dsimp only at hz
      split at hz
      · rename_i hl
        cases hz
        rename_i hl
        refine .inr (.inr (.inr ⟨_, _, _, _, rfl, rfl, hF _ _ hs, hF _ _ hs', by rw [ha.length, ha'.length]; exact hl, fun p hp => ?_⟩))
        exact k _ _ _ (Stp.new hF hp) (.lst upd_same ((ha.append ha').mono (Stp.new hF hp).f))
      · cases hz
    | _ => cases hz
  | _ => cases hz
def intD (g : Int → Int → Option D) (d e : D) : Option D := match d, e with
  | .int i, .int j => g i j
  | _, _ => none
theorem od_int {f : Value → Value → Sem Value} {C : Int → Int → Prop} {r : Int → Int → V} {g : Int → Int → Option D} (h : OpR X f (rI C r)) (hg : ∀ i j z, g i j = some z → C i j ∧ ∀ F, At X.K F (r i j) z) : OpD X f (intD g) := by
  refine ⟨_, h, fun F H x y d e z Q hF ax ay hz k => ?_⟩
  unfold intD at hz
  cases ax with
  | int i =>
    cases ay with
    | int j =>
      obtain ⟨h1, h2⟩ := hg i j z hz
      exact ⟨i, j, rfl, rfl, h1, k _ F H (Stp.refl hF) (h2 F)⟩
    | _ => cases hz
  | _ => cases hz
theorem od_int0 {f : Value → Value → Sem Value} {r : Int → Int → V} {g : Int → Int → D} (h : OpR X f (rI0 r)) (hg : ∀ i j F, At X.K F (r i j) (g i j)) : OpD X f (intD fun i j => some (g i j)) := by
  refine ⟨_, h, fun F H x y d e z Q hF ax ay hz k => ?_⟩
  unfold intD at hz
  cases ax with
  | int i =>
    cases ay with
    | int j =>
      cases hz
      exact ⟨i, j, rfl, rfl, k _ F H (Stp.refl hF) (hg i j F)⟩
    | _ => cases hz
  | _ => cases hz
abbrev subD : D → D → Option D := intD fun i j => some (.int (i - j))
theorem od_sub : OpD X (binaryOp .Sub) subD := od_int0 op_sub fun _ _ _ => .int _
/-- a product within the machine's bounds -/
def mulOk (i j : Int) : Bool := decide (i.natAbs.log2 + j.natAbs.log2 < 1000000) || decide (-(2 ^ 64) < j ∧ j < 2 ^ 64) || decide (-(2 ^ 64) < i ∧ i < 2 ^ 64)
abbrev mulD : D → D → Option D := intD fun i j => if mulOk i j = true then some (.int (i * j)) else none
theorem op_mulA : OpR X (binaryOp .Mult) (rI (fun i j => mulOk i j = true) fun i j => .int (i * j)) := opI fun _ _ _ _ _ _ _ hc q => by
  unfold mulOk at hc
  simp only [Bool.or_eq_true, decide_eq_true_eq] at hc
  rcases hc with (hc | hc) | hc
  · exact mul_int q (CMulW.ok hc)
  · exact mul_int q (CMul.ok (.inr hc))
  · exact mul_int q (CMul.ok (.inl hc))
theorem od_mul : OpD X (binaryOp .Mult) mulD := od_int op_mulA fun i j z h => by
  split at h
  · rename_i hc
    cases h
    exact ⟨hc, fun F => .int _⟩
  · cases h
abbrev modD : D → D → Option D := intD fun i j => if j = 0 then none else some (.int (i.fmod j))
theorem od_mod : OpD X (binaryOp .Mod) modD := od_int op_modN fun i j z h => by
  split at h
  · cases h
  · rename_i hc
    cases h
    exact ⟨hc, fun F => .int _⟩
def divOk (j : Int) : Bool := (decide (j ≠ 0 ∧ j.natAbs < 1073741824)) || (decide (0 < j) && decide (j.natAbs.log2 < 9000))
theorem op_divA : OpR X (binaryOp .FloorDiv) (rI (fun _ j => divOk j = true) fun i j => .int (i.fdiv j)) := opI fun i j _ _ _ _ _ hc q => by
  unfold divOk at hc
  simp only [Bool.or_eq_true, Bool.and_eq_true, decide_eq_true_eq] at hc
  rcases hc with ⟨h0, h1⟩ | ⟨h0, h1⟩
  · exact floordiv_int h0 q (.inl (PyProof.noPylong_small h1))
  · exact floordiv_int (by omega) q (.inl (PyProof.noPylong_of_log2 h1))
abbrev divD : D → D → Option D := intD fun i j => if divOk j = true then some (.int (i.fdiv j)) else none
theorem od_div : OpD X (binaryOp .FloorDiv) divD := od_int op_divA fun i j z h => by
  split at h
  · rename_i hc
    cases h
    exact ⟨hc, fun F => .int _⟩
  · cases h
abbrev powD : D → D → Option D := intD fun i j => if 0 ≤ j ∧ j ≤ 1000000 ∧ i.natAbs < 2 ^ 64 then some (.int (i ^ j.toNat)) else none
theorem od_pow : OpD X (binaryOp .Pow) powD := od_int op_pow fun i j z h => by
  split at h
  · rename_i hc
    cases h
    exact ⟨hc, fun F => .int _⟩
  · cases h
/-! ### order -/
/-- texts by code points, numbers -/
def ordD (p : Int → Int → Bool) (q : List Nat → List Nat → Bool) (d e : D) : Option D := match d, e with
  | .int i, .int j => some (.bl (p i j))
  | .str a, .str b => some (.bl (q a.cps.toList b.cps.toList))
  | _, _ => none
theorem od_ord {op : CmpOp} {p : Int → Int → Bool} {q : List Nat → List Nat → Bool} (h1 : OpR X (compareOp op) (rI0 fun i j => .bl (p i j)))
    (h2 : OpR X (compareOp op) (fun x y H Q => ∃ i j, x = .str i ∧ y = .str j ∧ Q (.bl (q i.cps.toList j.cps.toList)) H)) : OpD X (compareOp op) (ordD p q) := by
  refine ⟨_, h1.or h2, fun F H x y d e z Q hF ax ay hz k => ?_⟩
  unfold ordD at hz
  cases ax with
  | int i =>
    cases ay with
    | int j => cases hz; exact .inl ⟨i, j, rfl, rfl, k _ F H (Stp.refl hF) (.bl _)⟩
    | _ => cases hz
  | str i =>
    cases ay with
    | str j => cases hz; exact .inr ⟨i, j, rfl, rfl, k _ F H (Stp.refl hF) (.bl _)⟩
    | _ => cases hz
  | _ => cases hz
abbrev ltD : D → D → Option D := ordD (fun i j => decide (i < j)) fun a b => decide (a < b)
theorem od_lt : OpD X (compareOp .Lt) ltD := od_ord op_lt op_lt_str
abbrev leD : D → D → Option D := ordD (fun i j => decide (i ≤ j)) fun a b => !decide (b < a)
theorem od_le : OpD X (compareOp .LtE) leD := od_ord op_le op_le_str
abbrev gtD : D → D → Option D := ordD (fun i j => decide (j < i)) fun a b => decide (b < a)
theorem od_gt : OpD X (compareOp .Gt) gtD := od_ord op_gt op_gt_str
abbrev geD : D → D → Option D := ordD (fun i j => decide (j ≤ i)) fun a b => !decide (a < b)
theorem od_ge : OpD X (compareOp .GtE) geD := od_ord op_ge op_ge_str
/-! ### subscripts -/
def ixD (d e : D) : Option D := match d, e with
  | .lst xs, .int k => atI xs k
  | .scr xs, .int k => atI xs k
  | .tup xs, .int k => atI xs k
  | .str s, .int k => if s.length ≤ sizeLine then (atI s.cps.toList k).map fun c => .str ⟨#[c]⟩ else none
  | _, _ => none
theorem xd_ix : IxD X ixD := by
  refine ⟨_, ix_seq, fun F H x y d e z Q hF ax ay hz k => ?_⟩
  unfold ixD at hz
  cases ay with
  | int j =>
    cases ax with
    | lst hs ha =>
      obtain ⟨v, h1, h2⟩ := ats_atI ha hz
      exact .inl ⟨_, _, j, v, rfl, rfl, SqL.of (hF _ _ hs), h1, k v F H (Stp.refl hF) h2⟩
    | scr hs ha =>
      obtain ⟨v, h1, h2⟩ := ats_atI ha hz
      exact .inl ⟨_, _, j, v, rfl, rfl, ex_l hF hs, h1, k v F H (Stp.refl hF) h2⟩
    | tup hs ha =>
      obtain ⟨v, h1, h2⟩ := ats_atI ha hz
      exact .inr (.inl ⟨_, _, j, v, rfl, rfl, ex_t hF hs, h1, k v F H (Stp.refl hF) h2⟩)
    | str s =>
      dsimp only at hz
      split at hz
      · rename_i hl
        cases hc : atI s.cps.toList j with
        | none => rw [hc] at hz; cases hz
        | some c =>
          rw [hc] at hz
          cases hz
          exact .inr (.inr ⟨s, j, c, rfl, rfl, hl, hc, k _ F H (Stp.refl hF) (.str _)⟩)
      · cases hz
    | _ => cases hz
  | _ => cases ax <;> cases hz
/-! ### slices -/
def cutD {α : Type} (xs : List α) (lo hi : Option Int) : List α := (xs.drop (HT.sIx xs.length 0 lo)).take (HT.sIx xs.length xs.length hi - HT.sIx xs.length 0 lo)
def slD (d : D) (lo hi : Option Int) : Option D := match d with
  | .lst xs => some (.lst (cutD xs lo hi))
  | .tup xs => some (.tup (cutD xs lo hi))
  | .str s => if s.length ≤ sizeLine then some (.str (cutS s lo hi)) else none
  | _ => none
theorem ats_cut {K : PySem.W.Frag} {F : Hp} {xs : List V} {ds : List D} {lo hi : Option Int} (h : Ats K F xs ds) : Ats K F (cutV xs lo hi) (cutD ds lo hi) := by
  unfold cutV cutD
  rw [h.length]
  exact (h.drop _).take _
def RInt : Hp → Hp → Option Int → Option Int → Prop := fun _ _ a b => a = b
def RO (X : Cx) (W : WX) (e : Option Expr) (f : MS → Out (Option Int)) : Prop := ∃ t, PO X e t ∧ RdG X W RInt t f
theorem ro_none {W : WX} : RO X W none (fun st => .ok none st) := ⟨_, po_none, fun B st F σ H Q r p => p none F H (Same.refl _) r rfl⟩
def mPart (f : MS → Out D) : MS → Out (Option Int) := fun st => (f st).bind fun d st1 => match d with
  | .int i => .ok (some i) st1
  | _ => .stuck
theorem ro_some {W : WX} {e : Expr} {f : MS → Out D} (h : RE X W e f) : RO X W (some e) (mPart f) := by
  obtain ⟨t, h1, h2⟩ := h
  refine ⟨_, po_some h1, fun B st F σ H Q r p => ?_⟩
  refine h2 B st F σ H _ r (PostG.bind p fun d st1 v F1 H1 e1 r1 a1 p1 => ?_)
  cases a1 with
  | int i => exact ⟨i, rfl, p1 _ F1 H1 (Same.refl _) r1 rfl⟩
  | _ => exact p1.elim
def mSl (f : MS → Out D) (fl fu : MS → Out (Option Int)) : MS → Out D := fun st => (f st).bind fun d st1 => (fl st1).bind fun lo st2 => (fu st2).bind fun hi st3 => lift (slD d lo hi) st3
theorem re_slice {W : WX} {e : Expr} {lo hi : Option Expr} {p2 pos : Pos} {f : MS → Out D} {fl fu : MS → Out (Option Int)} (he : RE X W e f) (hl : RO X W lo fl) (hu : RO X W hi fu) : RE X W (.Subscript e (.Slice lo hi none p2) pos) (mSl f fl fu) := by
  obtain ⟨t, h1, h2⟩ := he
  obtain ⟨u, g1, g2⟩ := hl
  obtain ⟨v, k1, k2⟩ := hu
  refine ⟨_, pe_slice (sl_list.or (sl_tupA.or sl_str)) h1 g1 k1, fun B st F σ H Q r p => ?_⟩
  refine h2 B st F σ H _ r (PostG.bind p fun d st1 x F1 H1 e1 r1 a1 p1 => ?_)
  refine g2 B st1 F1 σ H1 _ r1 (PostG.bind p1 fun l st2 l' F2 H2 e2 r2 a2 p2 => ?_)
  cases a2
  refine k2 B st2 F2 σ H2 _ r2 (PostG.bind p2 fun u st3 u' F3 H3 e3 r3 a3 p3 => ?_)
  cases a3
  have a4 : At X.K F3 x d := At.mono (e2.trans e3) a1
  unfold slD at p3
  cases a4 with
  | lst hs ha =>
    refine .inl ⟨_, _, rfl, SqL.of (r3.ext _ _ hs), fun q hq => ?_⟩
    exact p3 _ _ _ (Stp.new r3.ext hq).f (r3.step (Stp.new r3.ext hq)) (.lst upd_same ((ats_cut ha).mono (Stp.new r3.ext hq).f))
  | tup hs ha =>
    refine .inr (.inl ⟨_, _, rfl, ex_t r3.ext hs, fun hw => ?_, fun _ q hq => ?_⟩)
    · have hcut : ∀ ds : List D, HT.sIx ds.length 0 l = 0 ∧ HT.sIx ds.length ds.length u = ds.length → cutD ds l u = ds := fun ds h => by
        unfold cutD
        rw [h.1, h.2]
        simp
      rw [ha.length] at hw
      have p4 := p3
      dsimp only at p4
      rw [hcut _ hw] at p4
      exact p4 _ F3 H3 (Same.refl _) r3 (.tup hs ha)
    · exact p3 _ _ _ (Stp.new r3.ext hq).f (r3.step (Stp.new r3.ext hq)) (.tup (SqT.of upd_same) ((ats_cut ha).mono (Stp.new r3.ext hq).f))
  | str z =>
    dsimp only at p3
    split at p3
    · rename_i hl
      exact .inr (.inr ⟨z, rfl, hl, p3 _ F3 H3 (Same.refl _) r3 (.str _)⟩)
    · exact p3.elim
  | _ => exact p3.elim
def negD (d : D) : Option D := match d with
  | .int i => some (.int (-i))
  | _ => none
theorem ud_neg : UnD X (unaryOp .USub) negD := by
  refine ⟨_, un_neg, fun F H x d z Q hF ax hz k => ?_⟩
  cases ax with
  | int i => cases hz; exact ⟨i, rfl, k _ F H (Stp.refl hF) (.int _)⟩
  | _ => cases hz
/-! ### built-ins -/
def lenD : List D → Option D
  | [.str s] => if s.length ≤ sizeLine then some (.int s.length) else none
  | [.lst xs] => some (.int xs.length)
  | [.tup xs] => some (.int xs.length)
  | [.scr xs] => some (.int xs.length)
  | _ => none
theorem cd_len : CallD X (.builtin "len") lenD := by
  refine ⟨_, call_len, fun F H vs ds z Q hF ha hz k => ?_⟩
  cases ha with
  | nil => cases hz
  | cons a1 a2 =>
    cases a2 with
    | cons _ _ => cases a1 <;> cases hz
    | nil =>
      unfold lenD at hz
      cases a1 with
      | str s =>
        dsimp only at hz
        split at hz
        · rename_i hl
          cases hz
          exact ⟨_, _, rfl, ⟨hl, rfl⟩, k _ F H (Stp.refl hF) (.int _)⟩
        · cases hz
      | lst hs ha => cases hz; exact ⟨_, _, rfl, .inl ⟨_, SqL.of (hF _ _ hs), rfl⟩, by rw [ha.length]; exact k _ F H (Stp.refl hF) (.int _)⟩
      | scr hs ha => cases hz; exact ⟨_, _, rfl, .inl ⟨_, ex_l hF hs, rfl⟩, by rw [ha.length]; exact k _ F H (Stp.refl hF) (.int _)⟩
      | tup hs ha => cases hz; exact ⟨_, _, rfl, .inr ⟨_, ex_t hF hs, rfl⟩, by rw [ha.length]; exact k _ F H (Stp.refl hF) (.int _)⟩
      | _ => cases hz
/-- one value, by cases -/
theorem ats1 {K : PySem.W.Frag} {F : Hp} {vs : List V} {d : D} (h : Ats K F vs [d]) : ∃ v, vs = [v] ∧ At K F v d := by
  cases h with
  | cons a1 a2 => cases a2; exact ⟨_, rfl, a1⟩
theorem ats2 {K : PySem.W.Frag} {F : Hp} {vs : List V} {d e : D} (h : Ats K F vs [d, e]) : ∃ v w, vs = [v, w] ∧ At K F v d ∧ At K F w e := by
  cases h with
  | cons a1 a2 => obtain ⟨w, rfl, h⟩ := ats1 a2; exact ⟨_, _, rfl, a1, h⟩
def absD : List D → Option D
  | [.int i] => some (.int (if i < 0 then -i else i))
  | _ => none
theorem cd_abs : CallD X (.builtin "abs") absD := by
  refine ⟨_, call_abs, fun F H vs ds z Q hF ha hz k => ?_⟩
  unfold absD at hz
  split at hz
  · cases hz
    obtain ⟨v, rfl, a⟩ := ats1 ha
    cases a
    exact ⟨_, rfl, k _ F H (Stp.refl hF) (.int _)⟩
  · cases hz
def intOfD : List D → Option D
  | [.int i] => some (.int i)
  | [.bl b] => some (.int (if b then 1 else 0))
  | _ => none
theorem cd_int : CallD X (.type "int") intOfD := by
  refine ⟨_, call_int1, fun F H vs ds z Q hF ha hz k => ?_⟩
  unfold intOfD at hz
  split at hz
  · cases hz
    obtain ⟨v, rfl, a⟩ := ats1 ha
    cases a
    exact .inl ⟨_, rfl, k _ F H (Stp.refl hF) (.int _)⟩
  · cases hz
    obtain ⟨v, rfl, a⟩ := ats1 ha
    cases a
    exact .inr ⟨_, rfl, k _ F H (Stp.refl hF) (.int _)⟩
  · cases hz
def maxD : List D → Option D
  | [.int i, .int j] => some (.int (if j > i then j else i))
  | _ => none
theorem cd_max (hc : X.calm = true) : CallD X (.builtin "max") maxD := by
  refine ⟨_, call_max2 hc, fun F H vs ds z Q hF ha hz k => ?_⟩
  unfold maxD at hz
  split at hz
  · cases hz
    obtain ⟨v, w, rfl, a, b⟩ := ats2 ha
    cases a
    cases b
    exact ⟨_, _, rfl, k _ F H (Stp.refl hF) (.int _)⟩
  · cases hz
def minD : List D → Option D
  | [.int i, .int j] => some (.int (if j < i then j else i))
  | _ => none
theorem cd_min (hc : X.calm = true) : CallD X (.builtin "min") minD := by
  refine ⟨_, call_min2 hc, fun F H vs ds z Q hF ha hz k => ?_⟩
  unfold minD at hz
  split at hz
  · cases hz
    obtain ⟨v, w, rfl, a, b⟩ := ats2 ha
    cases a
    cases b
    exact ⟨_, _, rfl, k _ F H (Stp.refl hF) (.int _)⟩
  · cases hz
def gcdD : List D → Option D
  | [.int i, .int j] => some (.int ((Nat.gcd i.natAbs j.natAbs : Nat) : Int))
  | _ => none
theorem cd_gcd : CallD X (.builtin "math.gcd") gcdD := by
  refine ⟨_, cr_gcd, fun F H vs ds z Q hF ha hz k => ?_⟩
  unfold gcdD at hz
  split at hz
  · cases hz
    obtain ⟨v, w, rfl, a, b⟩ := ats2 ha
    cases a
    cases b
    exact ⟨_, _, rfl, k _ F H (Stp.refl hF) (.int _)⟩
  · cases hz
def strOfD : List D → Option D
  | [.int i] => if i.natAbs.log2 < 1920 then some (.str (toString i)) else none
  | _ => none
theorem cd_str : CallD X (.type "str") strOfD := by
  refine ⟨_, call_str_int, fun F H vs ds z Q hF ha hz k => ?_⟩
  unfold strOfD at hz
  split at hz
  · split at hz
    · rename_i hl
      cases hz
      obtain ⟨v, rfl, a⟩ := ats1 ha
      cases a
      exact ⟨_, rfl, hl, k _ F H (Stp.refl hF) (.str _)⟩
    · cases hz
  · cases hz
/-- the truth values of a list -/
def blsOf : List D → Option (List Bool)
  | [] => some []
  | .bl b :: ds => (blsOf ds).map (b :: ·)
  | _ => none
theorem blsOf_map : ∀ {ds : List D} {bs : List Bool}, blsOf ds = some bs → ds = bs.map D.bl
  | [], bs, h => by cases h; rfl
  | d :: ds, bs, h => by
    unfold blsOf at h
    split at h
    · rename_i e; cases e
    · rename_i b ds' e
      cases e
      cases hz : blsOf ds with
      | none => rw [hz] at h; cases h
      | some bs' =>
        rw [hz] at h
        cases h
        rw [blsOf_map hz]
        rfl
    · cases h
@[simp] theorem blsOf_bl (bs : List Bool) : blsOf (bs.map D.bl) = some bs := by
  induction bs with
  | nil => rfl
  | cons b bs ih => rw [List.map_cons, blsOf, ih]; rfl
def allD : List D → Option D
  | [.lst ds] => (blsOf ds).map fun bs => .bl (bs.all id)
  | _ => none
def anyD : List D → Option D
  | [.lst ds] => (blsOf ds).map fun bs => .bl (bs.any id)
  | _ => none
theorem cd_all (hc : X.calm = true) : CallD X (.builtin "all") allD := by
  refine ⟨_, cr_all hc, fun F H vs ds z Q hF ha hz k => ?_⟩
  unfold allD at hz
  split at hz
  · rename_i xs
    cases hb : blsOf xs with
    | none => rw [hb] at hz; cases hz
    | some bs =>
      rw [hb] at hz
      cases hz
      obtain ⟨v, rfl, a⟩ := ats1 ha
      cases a with
      | lst hs ha =>
        rw [blsOf_map hb] at ha
        rw [ha.bls_inv] at hs
        exact ⟨_, bs, rfl, SqL.of (hF _ _ hs), k _ F H (Stp.refl hF) (.bl _)⟩
  · cases hz
theorem cd_any (hc : X.calm = true) : CallD X (.builtin "any") anyD := by
  refine ⟨_, cr_any hc, fun F H vs ds z Q hF ha hz k => ?_⟩
  unfold anyD at hz
  split at hz
  · rename_i xs
    cases hb : blsOf xs with
    | none => rw [hb] at hz; cases hz
    | some bs =>
      rw [hb] at hz
      cases hz
      obtain ⟨v, rfl, a⟩ := ats1 ha
      cases a with
      | lst hs ha =>
        rw [blsOf_map hb] at ha
        rw [ha.bls_inv] at hs
        exact ⟨_, bs, rfl, SqL.of (hF _ _ hs), k _ F H (Stp.refl hF) (.bl _)⟩
  · cases hz
def tupleD : List D → Option D
  | [.lst ds] => some (.tup ds)
  | [.tup ds] => some (.tup ds)
  | _ => none
theorem cd_tuple : CallD X (.type "tuple") tupleD := by
  refine ⟨_, call_tuple_of, fun F H vs ds z Q hF ha hz k => ?_⟩
  unfold tupleD at hz
  split at hz
  · cases hz
    obtain ⟨v, rfl, a⟩ := ats1 ha
    cases a with
    | lst hs ha =>
      refine ⟨_, _, rfl, .inl ⟨SqL.of (hF _ _ hs), fun l hl => ?_⟩⟩
      exact k _ _ _ (Stp.new hF hl) (.tup (SqT.of upd_same) (ha.mono (Stp.new hF hl).f))
  · cases hz
    obtain ⟨v, rfl, a⟩ := ats1 ha
    cases a with
    | tup hs ha => exact ⟨_, _, rfl, .inr ⟨ex_t hF hs, k _ F H (Stp.refl hF) (.tup hs ha)⟩⟩
  · cases hz
def listD : List D → Option D
  | [.lst ds] => some (.lst ds)
  | [.tup ds] => some (.lst ds)
  | [.scr ds] => some (.lst ds)
  | _ => none
theorem cd_list : CallD X (.type "list") listD := by
  refine ⟨_, call_list_of, fun F H vs ds z Q hF ha hz k => ?_⟩
  unfold listD at hz
  split at hz
  · cases hz
    obtain ⟨v, rfl, a⟩ := ats1 ha
    cases a with
    | lst hs ha => exact ⟨_, _, rfl, .inl (SqL.of (hF _ _ hs)), fun l hl => k _ _ _ (Stp.new hF hl) (.lst upd_same (ha.mono (Stp.new hF hl).f))⟩
  · cases hz
    obtain ⟨v, rfl, a⟩ := ats1 ha
    cases a with
    | tup hs ha => exact ⟨_, _, rfl, .inr (ex_t hF hs), fun l hl => k _ _ _ (Stp.new hF hl) (.lst upd_same (ha.mono (Stp.new hF hl).f))⟩
  · cases hz
    obtain ⟨v, rfl, a⟩ := ats1 ha
    cases a with
    | scr hs ha => exact ⟨_, _, rfl, .inl (ex_l hF hs), fun l hl => k _ _ _ (Stp.new hF hl) (.lst upd_same (ha.mono (Stp.new hF hl).f))⟩
  · cases hz
end
end MX

namespace MX
open PySem PySem.Spec L2
open PyProof.Rows hiding St
section
variable {X : Cx} {W : WX} {a b e tg : Expr} {es : List Expr} {pos : Pos} {f fa fb : MS → Out D}
/-! ### isinstance of built-in types -/
inductive Ty where
  | int | bool | str | tuple | list
def Ty.nm : Ty → String
  | .int => "int" | .bool => "bool" | .str => "str" | .tuple => "tuple" | .list => "list"
def isTy : Ty → D → Option D
  | _, .ins _ _ _ => none
  | _, .exc _ _ _ => none
  | .int, .int _ => some (.bl true)
  | .int, .bl _ => some (.bl true)
  | .bool, .bl _ => some (.bl true)
  | .str, .str _ => some (.bl true)
  | .tuple, .tup _ => some (.bl true)
  | .list, .lst _ => some (.bl true)
  | .list, .scr _ => some (.bl true)
  | _, _ => some (.bl false)
theorem isTy_ok {K : PySem.W.Frag} {F H : Hp} {x : V} {d z : D} {t : Ty} (hF : Ex F H) (ax : At K F x d) (hz : isTy t d = some z) :
    ∃ (ty : Value) (b : Bool), TyX K H x ty ∧ PySem.W.kitOne K ty (.type t.nm) = some b ∧ z = .bl b := by
  have lst : ∀ {a : Addr} {xs : List V}, SqL K H a xs → TyX K H (.ref a) (.type "list") := fun {a xs} h => by
    rcases h with (h | ⟨o, h⟩) | ⟨o, its, n, h1, h2, _⟩
    · exact .base (.lst h)
    · exact .base (.frz h)
    · exact .kList h1 h2
  have tup : ∀ {a : Addr} {xs : List V}, SqT K H a xs → TyX K H (.ref a) (.type "tuple") := fun {a xs} h => by
    rcases h with (h | ⟨o, h⟩) | ⟨o, its, n, h1, h2, _⟩
    · exact .base (.tup h)
    · exact .fTuple h
    · exact .kTuple h1 h2
  cases ax with
  | non => cases t <;> (cases hz; exact ⟨_, _, .base .non, kit_ty (by decide +kernel), rfl⟩)
  | bl y => cases t <;> (cases hz; exact ⟨_, _, .base (.bl y), kit_ty (by decide +kernel), rfl⟩)
  | int y => cases t <;> (cases hz; exact ⟨_, _, .base (.int y), kit_ty (by decide +kernel), rfl⟩)
  | str y => cases t <;> (cases hz; exact ⟨_, _, .base (.str y), kit_ty (by decide +kernel), rfl⟩)
  | tup hs _ => cases t <;> (cases hz; exact ⟨_, _, tup (ex_t hF hs), kit_ty (by decide +kernel), rfl⟩)
  | lst hs _ => cases t <;> (cases hz; exact ⟨_, _, lst (SqL.of (hF _ _ hs)), kit_ty (by decide +kernel), rfl⟩)
  | scr hs _ => cases t <;> (cases hz; exact ⟨_, _, lst (ex_l hF hs), kit_ty (by decide +kernel), rfl⟩)
  | ins _ _ _ => cases t <;> cases hz
  | exc _ _ _ _ _ => cases t <;> cases hz
theorem re_isTy {x : Str} {p p2 : Pos} (t : Ty) (he : RE X W e f) (hm : X.mg "isinstance" = none) (hmT : X.mg x = none) (hv : bootBuiltins x = some (.type t.nm)) (hg : Gl X "isinstance" := by rfl) (hgT : Gl X x := by rfl)
    (hn : x ≠ "__name__" := by decide) (hd : (x == ("__debug__" : Str)) = false := by decide)
    (h1 : starEach [e, .Name x p2] X.env = (false, eval e X.env) :: starEach [.Name x p2] X.env := by rfl) (h2 : starEach [.Name x p2] X.env = (false, eval (.Name x p2) X.env) :: starEach [] X.env := by rfl)
    (hpl : (backTo pos (starEach [.Name x p2] X.env)).any (·.1) = false := by rfl) : RE X W (.Call (.Name "isinstance" p) [e, .Name x p2] [] pos) (mUn (isTy t) f) := by
  obtain ⟨u, u1, u2⟩ := he
  refine ⟨_, pe_callB call_isi hg hm (by decide +kernel) (pa_cons u1 (pa_cons (pe_bltn (v := .ty t.nm) hgT hmT hv rfl hn hd) pa_nil h2) h1) (by decide) (by decide) h1 hpl, fun B st F σ H Q r pp => ?_⟩
  refine u2 B st F σ H _ r (PostG.bind pp fun d st1 v F1 H1 e1 r1 a1 p1 => ?_)
  cases hz : isTy t d with
  | none => rw [hz] at p1; exact p1.elim
  | some z =>
    rw [hz] at p1
    obtain ⟨ty, b, h1, h2, rfl⟩ := isTy_ok r1.ext a1 hz
    exact ⟨v, _, ty, _, b, rfl, .ty _, h1, h2, p1 _ F1 H1 (Same.refl _) r1 (.bl b)⟩
/-! ### ranges -/
def rngD (lo : Int) (n : Nat) : List D := (List.range n).map fun i : Nat => D.int (lo + (i : Int))
theorem rngD_len (lo : Int) (n : Nat) : (rngD lo n).length = n := by unfold rngD; rw [List.length_map, List.length_range]
theorem ats_rng {K : PySem.W.Frag} {F : Hp} (lo : Int) (n : Nat) : Ats K F ((List.range n).map fun i : Nat => V.int (lo + (i : Int))) (rngD lo n) := by
  unfold rngD
  generalize List.range n = l
  induction l with
  | nil => exact .nil
  | cons i l ih => exact .cons (.int _) ih
theorem yields_rng {K : PySem.W.Frag} {F : Hp} {lo : Int} {n : Nat} : Yields K (Itr lo n) F (rngD lo n) := by
  intro F1 H1 e1 e2
  refine ⟨fun i d hd => ?_, by rw [rngD_len]; exact Nat.le_refl n⟩
  have hi : i < n := by
    have := (List.getElem?_eq_some_iff.mp hd).1
    rw [rngD_len] at this
    exact this
  refine ⟨hi, fun x H2 hy => ?_⟩
  obtain ⟨rfl, rfl⟩ := hy
  unfold rngD at hd
  rw [List.getElem?_map, List.getElem?_range hi] at hd
  cases hd
  exact ⟨F1, Stp.refl e2, .int _⟩
def rngOk (i : Int) : Bool := decide (-(2 ^ 62) ≤ i) && decide (i < 2 ^ 62)
def mRng1 (fs : MS → Out (List D)) : MS → Out (List D) := fun st => (fs st).bind fun ds st1 => match ds with
  | [.int j] => if rngOk j = true then .ok (rngD 0 j.toNat) st1 else .stuck
  | _ => .stuck
theorem ri_rng1 {fs : MS → Out (List D)} {p : Pos} (ha : RA X W [a] fs) (hm : X.mg "range" = none) (hg : Gl X "range" := by rfl) (hs : starEach [a] X.env = [(false, eval a X.env)] := by rfl) : RI X W tg (.Call (.Name "range" p) [a] [] pos) (mRng1 fs) := by
  obtain ⟨t, h1, h2⟩ := ha
  refine ⟨_, pi_range1 hg hm h1 hs, fun B st F σ H Q r pp => ?_⟩
  refine h2 B st F σ H _ r (PostG.bind pp fun ds st1 vs F1 H1 e1 r1 a1 p1 => ?_)
  split at p1
  · rename_i j
    obtain ⟨v, rfl, av⟩ := ats1 a1
    cases av
    split at p1
    · rename_i hc
      unfold rngOk at hc
      simp only [Bool.and_eq_true, decide_eq_true_eq] at hc
      exact ⟨j, rfl, hc.1, hc.2, p1 _ F1 H1 (Same.refl _) r1 yields_rng⟩
    · exact p1.elim
  · exact p1.elim
def mRng2 (fs : MS → Out (List D)) : MS → Out (List D) := fun st => (fs st).bind fun ds st1 => match ds with
  | [.int i, .int j] => if (rngOk i && rngOk j) = true then .ok (rngD i (j - i).toNat) st1 else .stuck
  | _ => .stuck
theorem ri_rng2 {fs : MS → Out (List D)} {p : Pos} (ha : RA X W [a, b] fs) (hm : X.mg "range" = none) (hg : Gl X "range" := by rfl) (hs : starEach [a, b] X.env = [(false, eval a X.env), (false, eval b X.env)] := by rfl) (hs2 : starEach [b] X.env = [(false, eval b X.env)] := by rfl) :
    RI X W tg (.Call (.Name "range" p) [a, b] [] pos) (mRng2 fs) := by
  obtain ⟨t, h1, h2⟩ := ha
  refine ⟨_, pi_range2 hg hm h1 hs hs2, fun B st F σ H Q r pp => ?_⟩
  refine h2 B st F σ H _ r (PostG.bind pp fun ds st1 vs F1 H1 e1 r1 a1 p1 => ?_)
  split at p1
  · rename_i i j
    obtain ⟨v, w, rfl, av, aw⟩ := ats2 a1
    cases av
    cases aw
    split at p1
    · rename_i hc
      unfold rngOk at hc
      simp only [Bool.and_eq_true, decide_eq_true_eq] at hc
      exact ⟨i, j, rfl, ⟨hc.1.1, hc.1.2, hc.2.1, hc.2.2⟩, p1 _ F1 H1 (Same.refl _) r1 yields_rng⟩
    · exact p1.elim
  · exact p1.elim
/-- range(..) as the argument of list, tuple -/
def RRg (X : Cx) (W : WX) (e : Expr) (f : MS → Out (Int × Int)) : Prop := ∃ t, PRg X e t ∧ ∀ B st F σ H (Q : Int → Int → Hp → Prop), Rel X.K B F st σ H → PostG X.K X.mg (fun _ _ p q => p = q) B σ F W (fun (q : Int × Int) H => Q q.1 q.2 H) (f st) → t σ H Q
def mPair1 (f : MS → Out D) : MS → Out (Int × Int) := fun st => (f st).bind fun d st1 => match d with
  | .int j => .ok (0, j) st1
  | _ => .stuck
theorem rr_1 {p : Pos} (ha : RE X W a fa) (hm : X.mg "range" = none) (hg : Gl X "range" := by rfl) (na : starEach [a] X.env = (false, eval a X.env) :: starEach [] X.env := by rfl) : RRg X W (.Call (.Name "range" p) [a] [] pos) (mPair1 fa) := by
  obtain ⟨t, h1, h2⟩ := ha
  refine ⟨_, prg_1 hg hm h1 na, fun B st F σ H Q r pp => ?_⟩
  refine h2 B st F σ H _ r (PostG.bind pp fun d st1 v F1 H1 e1 r1 a1 p1 => ?_)
  cases a1 with
  | int j => exact ⟨j, rfl, p1 (0, j) F1 H1 (Same.refl _) r1 rfl⟩
  | _ => exact p1.elim
def mPair2 (f g : MS → Out D) : MS → Out (Int × Int) := fun st => (f st).bind fun d st1 => match d with
  | .int i => (g st1).bind fun e st2 => match e with
    | .int j => .ok (i, j) st2
    | _ => .stuck
  | _ => .stuck
theorem rr_2 {p : Pos} (ha : RE X W a fa) (hb : RE X W b fb) (hm : X.mg "range" = none) (hg : Gl X "range" := by rfl) (na : starEach [a, b] X.env = (false, eval a X.env) :: starEach [b] X.env := by rfl)
    (nb : starEach [b] X.env = (false, eval b X.env) :: starEach [] X.env := by rfl) (hp : (backTo pos (starEach [b] X.env)).any (·.1) = false := by rfl) : RRg X W (.Call (.Name "range" p) [a, b] [] pos) (mPair2 fa fb) := by
  obtain ⟨t, h1, h2⟩ := ha
  obtain ⟨u, g1, g2⟩ := hb
  refine ⟨_, prg_2 hg hm h1 g1 na nb hp, fun B st F σ H Q r pp => ?_⟩
  refine h2 B st F σ H _ r (PostG.bind pp fun d st1 v F1 H1 e1 r1 a1 p1 => ?_)
  cases a1 with
  | int i =>
    refine g2 B st1 F1 σ H1 _ r1 (PostG.bind p1 fun d2 st2 w F2 H2 e2 r2 a2 p2 => ?_)
    cases a2 with
    | int j => exact ⟨i, j, rfl, rfl, p2 (i, j) F2 H2 (Same.refl _) r2 rfl⟩
    | _ => exact p2.elim
  | _ => exact p1.elim
def rgOkB (a b : Int) : Bool := decide (-(2 ^ 62) ≤ a ∧ a < 2 ^ 62 ∧ -(2 ^ 62) ≤ b ∧ b < 2 ^ 62 ∧ (b - a).toNat ≤ 2 ^ 24)
def mLRg (k : List D → D) (f : MS → Out (Int × Int)) : MS → Out D := fun st => (f st).bind fun q st1 => if rgOkB q.1 q.2 = true then .ok (k (rngD q.1 (q.2 - q.1).toNat)) st1 else .stuck
theorem re_listRg {p : Pos} {fr : MS → Out (Int × Int)} (he : RRg X W e fr) (hm : X.mg "list" = none) (hc : X.calm = true) (hg : Gl X "list" := by rfl) (na : starEach [e] X.env = (false, eval e X.env) :: starEach [] X.env := by rfl) : RE X W (.Call (.Name "list" p) [e] [] pos) (mLRg .lst fr) := by
  obtain ⟨t, h1, h2⟩ := he
  refine ⟨_, pe_listRg hc hg hm h1 na, fun B st F σ H Q r pp => ?_⟩
  refine h2 B st F σ H _ r (PostG.bind pp fun q st1 q' F1 H1 e1 r1 a1 p1 => ?_)
  cases a1
  split at p1
  · rename_i hk
    unfold rgOkB at hk
    refine ⟨(of_decide_eq_true hk : _ ∧ _), fun y hy => ?_⟩
    exact p1 _ _ _ (Stp.new r1.ext hy).f (r1.step (Stp.new r1.ext hy)) (.lst upd_same (ats_rng _ _))
  · exact p1.elim
theorem re_tupRg {p : Pos} {fr : MS → Out (Int × Int)} (he : RRg X W e fr) (hm : X.mg "tuple" = none) (hc : X.calm = true) (hg : Gl X "tuple" := by rfl) (na : starEach [e] X.env = (false, eval e X.env) :: starEach [] X.env := by rfl) : RE X W (.Call (.Name "tuple" p) [e] [] pos) (mLRg .tup fr) := by
  obtain ⟨t, h1, h2⟩ := he
  refine ⟨_, pe_tupRg hc hg hm h1 na, fun B st F σ H Q r pp => ?_⟩
  refine h2 B st F σ H _ r (PostG.bind pp fun q st1 q' F1 H1 e1 r1 a1 p1 => ?_)
  cases a1
  split at p1
  · rename_i hk
    unfold rgOkB at hk
    refine ⟨(of_decide_eq_true hk : _ ∧ _), fun y hy => ?_⟩
    exact p1 _ _ _ (Stp.new r1.ext hy).f (r1.step (Stp.new r1.ext hy)) (.tup (SqT.of upd_same) (ats_rng _ _))
  · exact p1.elim
end
end MX

namespace MX
open PySem PySem.Spec L2
open PyProof.Rows hiding St
/-! ### len(set(t)): how many unlike keys -/
section
variable {κ : Type} [DecidableEq κ]
def cntR : List κ → Nat
  | [] => 0
  | x :: r => if x ∈ r then cntR r else cntR r + 1
/-- how many unlike ones -/
def dcnt (xs : List κ) : Nat := cntR xs.reverse
theorem cntR_le : ∀ xs : List κ, cntR xs ≤ xs.length
  | [] => Nat.le_refl 0
  | x :: r => by
    have := cntR_le r
    unfold cntR
    rw [List.length_cons]
    split <;> omega
theorem cntR_nodup : ∀ xs : List κ, cntR xs = xs.length ↔ xs.Nodup
  | [] => by simp [cntR]
  | x :: r => by
    have h1 := cntR_le r
    have h2 := cntR_nodup r
    unfold cntR
    rw [List.length_cons, List.nodup_cons]
    by_cases h : x ∈ r
    · rw [if_pos h]
      exact ⟨fun z => by omega, fun z => absurd h z.1⟩
    · rw [if_neg h]
      exact ⟨fun z => ⟨h, h2.mp (by omega)⟩, fun z => by rw [h2.mpr z.2]⟩
theorem dcnt_nodup (xs : List κ) : dcnt xs = xs.length ↔ xs.Nodup := by
  unfold dcnt
  rw [← List.length_reverse, cntR_nodup]
  unfold List.Nodup
  rw [List.pairwise_reverse]
  exact ⟨fun h => h.imp fun z => Ne.symm z, fun h => h.imp fun z => Ne.symm z⟩
theorem dcnt_le (xs : List κ) : dcnt xs ≤ xs.length := by
  unfold dcnt
  rw [← List.length_reverse]
  exact cntR_le _
theorem dcnt_snoc (xs : List κ) (x : κ) : dcnt (xs ++ [x]) = if x ∈ xs then dcnt xs else dcnt xs + 1 := by
  unfold dcnt
  rw [List.reverse_append]
  rw [show cntR ([x].reverse ++ xs.reverse) = if x ∈ xs.reverse then cntR xs.reverse else cntR xs.reverse + 1 from rfl]
  simp only [List.mem_reverse]
end
section
variable {prog : Program} {w : World} {A : Around} {E : Value → Shared → Prop} {s : Shared} {κ : Type} [DecidableEq κ]
abbrev inB (xs : List κ) : κ → Bool := fun k => decide (k ∈ xs)
theorem fill_set (knd : PySem.KeyKind prog w κ) {R : Result → Shared → Prop} {I : Addr} {fp wr : List Addr} {G : Array GenState → Array GenState → Prop} {n : Nat} {P : Nat → Value → Prop} {Z : Nat → Shared → Prop}
    (T : WalksS prog w A.in1 I fp wr G n P Z) (a : Addr) (ha : a ∉ fp) (xs : List κ) (hn : xs.length = n) (small : n + 1 < scanBound)
    (hv : ∀ i v, P i v → ∃ x, xs[i]? = some x ∧ knd.is x v = true ∧ v.scannable = true) :
    ∀ (m i : Nat) (s : Shared), n - i = m → i ≤ n → Z i s → s.heap.SetOf knd a (inB (xs.take i)) (dcnt (xs.take i)) →
      (∀ s', Moved (a :: wr) G s s' → s'.heap.SetOf knd a (inB xs) (dcnt xs) → R (.ok (.ret .none)) s') →
      codeAny (model prog w) A (.builtin "set.update.loop" ⟨[.ref a, .ref I], []⟩) R s := by
  have haw : a ∉ wr := fun h => ha (T.sub _ h)
  have up : ∀ b ∈ wr, b ∈ a :: wr := fun b hb => List.mem_cons_of_mem _ hb
  intro m
  induction m with
  | zero =>
    intro i s hm hi hz hS k
    have e : i = n := by omega
    subst e
    rw [← hn, List.take_length] at hS
    refine codeAny_builtin F.entry_set_update_loop ?_
    rw [Around.under_plainId F.plain_set_update_loop _]
    refine wpAny_bind (m := pyNext (.ref I)) (T.done s _ _ hz fun s' mv => ?_)
    refine wpAny_pure (k s' (mv.mono up) ?_)
    obtain ⟨o, es, ep, t, ho, q⟩ := hS
    exact ⟨o, es, ep, t, mv.heap a _ haw ho, q⟩
  | succ m ih =>
    intro i s hm hi hz hS k
    have hlt : i < n := by omega
    refine codeAny_builtin F.entry_set_update_loop ?_
    rw [Around.under_plainId F.plain_set_update_loop _]
    refine wpAny_bind (m := pyNext (.ref I)) (T.item i s _ _ hlt hz fun v s' hP hz' mv => ?_)
    obtain ⟨x, hx, his, hsc⟩ := hv i v hP
    have hS' : s'.heap.SetOf knd a (inB (xs.take i)) (dcnt (xs.take i)) := by
      obtain ⟨o, es, ep, t, ho, q⟩ := hS
      exact ⟨o, es, ep, t, mv.heap a _ haw ho, q⟩
    have htk : xs.take (i + 1) = xs.take i ++ [x] := by rw [List.take_add_one, hx]; rfl
    show wpAny _ A.in1 (holding [v] (setAdd a v) >>= _) _ _ s'
    refine wpAny_bind (wpAny_holding ?_)
    unfold setAdd
    refine wpAny_holding (wpAny_bind (knd.pyHash his ?_))
    have hroom : dcnt (xs.take i) + 1 < scanBound := by
      have h1 := dcnt_le (xs.take i)
      have h2 := List.length_take_le i xs
      omega
    refine wpAny_setAddHashed_of (knd := knd) (s := { s' with toks := s'.toks + 1 }) his hsc hS' hroom fun h' hsb hS2 => ?_
    have hS3 : h'.SetOf knd a (inB (xs.take (i + 1))) (dcnt (xs.take (i + 1))) := by
      refine SetOf_congr hS2 (fun k' => ?_) ?_
      · rw [htk]
        simp [inB, List.mem_append]
      · rw [htk, dcnt_snoc]
        simp [inB]
    refine wpAny_pure ⟨plainId_quiet F.plain_set_update_loop _, ih (i + 1) _ (by omega) hlt (T.frame _ s' _ _ hz' (Nat.le_succ _) fun b hb o e => ?_) hS3 fun s'' mv' hS'' => ?_⟩
    · rw [hsb.2 b fun z => ha (by rw [← z]; exact hb)]
      exact e
    · refine k s'' (Moved.trans T.gtrans ((mv.mono up).then_heap (Nat.le_succ _) fun b o hb e => ?_) mv') hS''
      rw [hsb.2 b fun z => hb (by rw [z]; exact List.mem_cons_self)]
      exact e
abbrev setNew (led : Bool) : Obj := { cls := .type "set", dict := none, data := .set #[] 0 (.fresh 0 0 led) }
/-- set(t), t a tuple of keys of one kind -/
theorem make_set (knd : PySem.KeyKind prog w κ) {l : Addr} {its : Array Value} (xs : List κ) {Q : Value → Shared → Prop} (hh : A.handled = none) (hl : s.heap.IsTuple l its) (hn : xs.length = its.size) (small : its.size + 1 < scanBound)
    (hv : ∀ (i : Nat) (v : Value), its[i]? = some v → ∃ x, xs[i]? = some x ∧ knd.is x v = true ∧ v.scannable = true)
    (k : ∀ (h' : Heap) (tk : Nat), h'.SetOf knd s.heap.objs.size (inB xs) (dcnt xs) → (∀ b o, s.heap.get? b = some o → h'.get? b = some o) → Q (.ref s.heap.objs.size) { s with heap := h', toks := tk }) :
    wpAny (model prog w) A (call (.type "set") [.ref l]) Q E s := by
  obtain ⟨_, _, hmro⟩ := PySem.F.called_set.mro
  have f1 := PySem.F.called_set.made
  have f2 := PySem.F.called_set.sub
  refine wpAny_call (codeAny_of_tree ?_)
  show wpAny _ _ (callAny (.type "set") _) _ _ _
  refine wpAny_pure ⟨Code.quiet_builtin _ (by decide +kernel), codeAny_builtin PySem.F.entry_type_call ?_⟩
  rw [Around.under_plain (weight_type_call_type "set" [.ref l] []) rfl]
  have f3 := PySem.F.called_set.notType
  have f4 := PySem.F.called_set.canCreate
  have f5 := PySem.F.typeCall_set_1 (.ref l)
  repeat (any_goals (first | assumption | wp_step))
  refine codeAny_mono (code_set_new_1 (.ref l) (E := E) (Q₁ := fun v s₁ => ∃ led : Bool, v = .ref s.heap.objs.size ∧ s₁ = { s with heap := s.heap.push (setNew led) }) fun led => ⟨led, rfl, rfl⟩) fun r s₁ hr => ?_
  cases r with
  | error e => exact hr
  | ok fl =>
    cases fl with
    | ret v =>
      obtain ⟨led, rfl, rfl⟩ := hr
      have g0 : (s.heap.push (setNew led)).get? s.heap.objs.size = some (setNew led) := Heap.get?_push_size _ rfl
      have gT : Shared.TypeIs { s with heap := s.heap.push (setNew led) } (.ref s.heap.objs.size) "set" := ⟨_, g0, rfl⟩
      have g1 := PySem.F.called_set.init.lookup
      have g2 := PySem.F.called_set.init.bind (.ref s.heap.objs.size)
      repeat (any_goals (first | assumption | wp_step))
      refine codeAny_mono (codeAny_call_builtin (R := wants (fun r s₂ => r = .none ∧ ∃ h' tk, s₂ = { s with heap := h', toks := tk } ∧ h'.SetOf knd s.heap.objs.size (inB xs) (dcnt xs) ∧ (∀ b o, s.heap.get? b = some o → h'.get? b = some o)) E)
        PySem.F.called_set.init.plain PySem.F.entry_set_init (check_set_init_1 gT ?_)) fun r₂ s₂ hr₂ => ?_
      · obtain ⟨⟨oc, od, odt, osl⟩, hol, hcl, nl, hdl⟩ := hl
        simp only at hcl hdl
        subst hcl hdl
        have hol2 : (s.heap.push (setNew led)).get? l = some { cls := .type "tuple", dict := od, data := .seq its nl, slots := osl } := Heap.get?_push_of_some _ hol
        have c1 := PySem.F.sub_tuple_set
        have c2 := PySem.F.sub_tuple_frozenset
        have c3 : (Value.type "tuple" == Value.type "dict") = false := by decide
        have hl2 : (s.heap.push (setNew led)).IsTuple l its := ⟨_, hol2, rfl, nl, rfl⟩
        unfold Builtin.«set.__init__» noKeywords Builtin.Frozenset.updateFrom
        generalize hgen : pyIter = gen
        wp_walk
        subst hgen
        refine wpAny_pyIter_tuple hl2 (wpAny_bind (wpAny_runValue ?_))
        have hlt : l < s.heap.objs.size := Heap.lt_size hol
        have hh2 : A.in1.in1.in1.handled = none := by simp [hh]
        have sz : (s.heap.push (setNew led)).objs.size = s.heap.objs.size + 1 := Heap.size_push ..
        have hne : l ≠ (s.heap.push (setNew led)).objs.size := by rw [Heap.size_push]; exact Nat.ne_of_lt (Nat.lt_succ_of_lt hlt)
        have hnf : s.heap.objs.size ∉ [(s.heap.push (setNew led)).objs.size, l] := by
          rw [Heap.size_push]
          simp only [List.mem_cons, List.not_mem_nil, or_false, not_or]
          exact ⟨Nat.ne_of_lt (Nat.lt_succ_self _), Nat.ne_of_gt hlt⟩
        refine fill_set knd ((Walks.tuple hh2 _ l hne its).toS) s.heap.objs.size hnf xs hn small hv (its.size - 0) 0 _ (by omega) (Nat.zero_le _) ⟨⟨_, Heap.get?_push_size _ rfl, rfl, rfl⟩, (hl2.push _)⟩ ?z0 ?zR
        case z0 =>
          exact SetOf_congr ((setObjOf_fresh (knd := knd) led).setOf (Heap.get?_push_of_some _ g0) (by unfold scanBound; omega)) (fun _ => rfl) rfl
        case zR =>
          intro s' mv hS'
          obtain ⟨h', g', d', tk', os'⟩ := s'
          have e1 : g' = s.gens := mv.gens
          have e2 : d' = s.drawn := mv.drawn
          have e3 : os' = s.os := mv.os
          subst e1 e2 e3
          refine wpAny_pure (wpAny_pure ⟨rfl, h', tk', rfl, hS', fun b o e => ?_⟩)
          have hb := Heap.lt_size e
          exact mv.heap b o (by rw [Heap.size_push]; simp only [List.mem_cons, List.not_mem_nil, or_false, not_or]; exact ⟨Nat.ne_of_lt hb, Nat.ne_of_lt (Nat.lt_succ_of_lt hb)⟩) (Heap.get?_push_of_some _ (Heap.get?_push_of_some _ e))
      · cases r₂ with
        | error e => exact hr₂
        | ok fl₂ =>
          cases fl₂ with
          | ret r =>
            obtain ⟨rfl, h', tk, rfl, h1, h2⟩ := hr₂
            repeat (any_goals (first | assumption | wp_step))
            exact k _ _ h1 h2
          | _ => exact hr₂.elim
    | _ => exact hr.elim
end
/-- the keys of a tuple of whole numbers and texts -/
def keysOf : List D → Option (List Key)
  | [] => some []
  | .int i :: ds => (keysOf ds).map (Sum.inl i :: ·)
  | .str s :: ds => (keysOf ds).map (Sum.inr s :: ·)
  | _ => none
theorem keysOf_ints (ns : List Int) : keysOf (ns.map D.int) = some (ns.map Sum.inl) := by
  induction ns with
  | nil => rfl
  | cons n ns ih => rw [List.map_cons, keysOf, ih]; rfl
theorem keysOf_strs (ns : List Str) : keysOf (ns.map D.str) = some (ns.map Sum.inr) := by
  induction ns with
  | nil => rfl
  | cons n ns ih => rw [List.map_cons, keysOf, ih]; rfl
theorem keysOf_len : ∀ {ds : List D} {ks : List Key}, keysOf ds = some ks → ks.length = ds.length
  | [], ks, h => by cases h; rfl
  | .int i :: ds, ks, h => by
    unfold keysOf at h
    cases hz : keysOf ds with
    | none => rw [hz] at h; cases h
    | some ks' => rw [hz] at h; cases h; simp [keysOf_len hz]
  | .str i :: ds, ks, h => by
    unfold keysOf at h
    cases hz : keysOf ds with
    | none => rw [hz] at h; cases h
    | some ks' => rw [hz] at h; cases h; simp [keysOf_len hz]
  | .non :: _, _, h => by cases h
  | .bl _ :: _, _, h => by cases h
  | .tup _ :: _, _, h => by cases h
  | .lst _ :: _, _, h => by cases h
  | .scr _ :: _, _, h => by cases h
  | .ins _ _ _ :: _, _, h => by cases h
  | .exc _ _ _ :: _, _, h => by cases h
theorem keysOf_at {K : PySem.W.Frag} {F : Hp} : ∀ {vs : List V} {ds : List D} {ks : List Key} {us : List Value} {i : Nat} {u : Value}, Ats K F vs ds → keysOf ds = some ks → Vals vs us → us[i]? = some u → ∃ x, ks[i]? = some x ∧ keyIs x u = true ∧ u.scannable = true
  | _, _, ks, us, i, u, .nil, h, r, e => by cases r; simp at e
  | _, _, ks, us, i, u, .cons a as, h, r, e => by
    cases r with
    | cons r1 r2 =>
      cases a with
      | int n =>
        unfold keysOf at h
        rename_i ds _ _
        cases hz : keysOf ds with
        | none => rw [hz] at h; cases h
        | some ks' =>
          rw [hz] at h
          cases h
          cases i with
          | zero =>
            simp at e
            obtain ⟨t, rfl⟩ := r1
            subst e
            exact ⟨_, rfl, keyIs_int n t, rfl⟩
          | succ i =>
            obtain ⟨x, h1, h2⟩ := keysOf_at (i := i) as hz r2 (by simpa using e)
            exact ⟨x, by simpa using h1, h2⟩
      | str n =>
        unfold keysOf at h
        rename_i ds _ _
        cases hz : keysOf ds with
        | none => rw [hz] at h; cases h
        | some ks' =>
          rw [hz] at h
          cases h
          cases i with
          | zero =>
            simp at e
            obtain ⟨t, rfl⟩ := r1
            subst e
            exact ⟨_, rfl, keyIs_str n t, rfl⟩
          | succ i =>
            obtain ⟨x, h1, h2⟩ := keysOf_at (i := i) as hz r2 (by simpa using e)
            exact ⟨x, by simpa using h1, h2⟩
      | _ => cases h
section
variable {X : Cx} {W : WX} {a : Expr} {f : MS → Out D} {pos : Pos}
def tLenSetK (K : PySem.W.Frag) (ta : TE) : TE := fun σ H Q => ta σ H fun x H1 => ∃ l xs ds F ks, x = .ref l ∧ SqT K H1 l xs ∧ Ats K F xs ds ∧ keysOf ds = some ks ∧ ds.length ≤ 4000 ∧ Q (.int (dcnt ks)) H1
theorem pe_lenSetK {ta : TE} {p p2 q pos : Pos} (hc : X.calm = true) (hg : Gl X "len") (hm : X.mg "len" = none) (hg2 : Gl X "set") (hm2 : X.mg "set" = none) (ha : PE X a ta)
    (na : starEach [a] X.env = (false, eval a X.env) :: starEach [] X.env) : PE X (.Call (.Name "len" p) [.Call (.Name "set" p2) [a] [] q] [] pos) (tLenSetK X.K ta) := by
  refine ⟨fun pins s σ H Q I h => ?_⟩
  refine Call_ (ld_blt I hg hm boot_len (callWith_builtin1 (args_cons ?_ rfl) rfl rfl))
  refine Call_ (ld_blt I hg2 hm2 boot_set ?_)
  refine callWith_type1 (args_cons (thn (ha.run pins s σ H _ I h) fun v s1 ⟨x, H1, I1, r1, q1⟩ => args_nil ?_) na) na rfl
  obtain ⟨l, xs, ds, F, ks, rfl, hq, hats, hk, hz, q1⟩ := q1
  cases r1
  obtain ⟨its, r, pl, _⟩ := I1.tuple hq
  have hlen : ks.length = its.toArray.size := by rw [keysOf_len hk, List.size_toArray, ← r.length, hats.length]
  refine make_set (mixKind X.prog X.w) ks (I1.ok.hd hc) pl hlen (by rw [← hlen, keysOf_len hk]; unfold scanBound; omega) (fun i v hv => ?_) fun h' tk hS hkp => args_nil ?_
  · exact keysOf_at hats hk r (by simpa using hv)
  · obtain ⟨o, es, ep, t, ho, hex, hd, _, _, _, hf, hn⟩ := hS
    have I2 : Inv X pins σ H1 { s1 with heap := h', toks := tk } := I1.kept hkp
    have hle := dcnt_le ks
    rw [keysOf_len hk] at hle
    refine call_len_set ho hex hd hf (by rw [hn] <;> omega) ⟨.int (dcnt ks), H1, I2.tok _, ⟨_, by rw [hn]⟩, q1⟩
def mLenSet (f : MS → Out D) : MS → Out D := fun st => (f st).bind fun d st1 => match d with
  | .tup ds => if ds.length ≤ 4000 then lift ((keysOf ds).map fun ks => .int (dcnt ks)) st1 else .stuck
  | _ => .stuck
theorem re_lenSet {p p2 q : Pos} (ha : RE X W a f) (hm : X.mg "len" = none) (hm2 : X.mg "set" = none) (hc : X.calm = true) (hg : Gl X "len" := by rfl) (hg2 : Gl X "set" := by rfl)
    (na : starEach [a] X.env = (false, eval a X.env) :: starEach [] X.env := by rfl) : RE X W (.Call (.Name "len" p) [.Call (.Name "set" p2) [a] [] q] [] pos) (mLenSet f) := by
  obtain ⟨t, t1, t2⟩ := ha
  refine ⟨_, pe_lenSetK hc hg hm hg2 hm2 t1 na, fun B st F σ H Q r pp => ?_⟩
  refine t2 B st F σ H _ r (PostG.bind pp fun d st1 v F1 H1 e1 r1 a1 p1 => ?_)
  cases a1 with
  | @tup l xs ds hs ha =>
    dsimp only at p1
    split at p1
    · rename_i hz
      cases hk : keysOf ds with
      | none => rw [hk] at p1; exact p1.elim
      | some ks =>
        rw [hk] at p1
        exact ⟨_, _, ds, F1, ks, rfl, ex_t r1.ext hs, ha, hk, hz, p1 _ F1 H1 (Same.refl _) r1 (.int _)⟩
    · exact p1.elim
  | _ => exact p1.elim
end
end MX

namespace MX
open PySem PySem.Spec L2
open PyProof.Rows hiding St
theorem room65 {k : Nat} {A : Around} (r : Room k A) : A.units + 65 < cLine := by have := r.un; omega
section
variable {X : Cx} {W : WX} {e : Expr} {pos : Pos} {f : MS → Out D}
theorem re_gstr {x v : Str} (h : ∃ t, X.mg x = some (.str v t)) (hg : Gl X x := by rfl) (h0 : (x == ("__debug__" : Str)) = false := by decide) : RE X W (.Name x pos) (mC (.str v)) := by
  obtain ⟨t, h⟩ := h
  exact re_glob (v := .str v) h ⟨t, rfl⟩ (fun _ => .str v) hg h0
theorem re_gint {x : Str} {v : Int} (h : ∃ t, X.mg x = some (.int v t)) (hg : Gl X x := by rfl) (h0 : (x == ("__debug__" : Str)) = false := by decide) : RE X W (.Name x pos) (mC (.int v)) := by
  obtain ⟨t, h⟩ := h
  exact re_glob (v := .int v) h ⟨t, rfl⟩ (fun _ => .int v) hg h0
theorem re_gnon {x : Str} (h : X.mg x = some .none) (hg : Gl X x := by rfl) (h0 : (x == ("__debug__" : Str)) = false := by decide) : RE X W (.Name x pos) (mC .non) :=
  re_glob (v := .non) h rfl (fun _ => .non) hg h0
/-- a constant that stands in the written part -/
theorem re_gdat {x : Str} {d : D} (h : ∃ v u, X.mg x = some u ∧ RelV v u ∧ ∀ F, At X.K F v d) (hg : Gl X x := by rfl) (h0 : (x == ("__debug__" : Str)) = false := by decide) : RE X W (.Name x pos) (mC d) := by
  obtain ⟨v, u, h1, h2, h3⟩ := h
  exact re_glob h1 h2 h3 hg h0
theorem rs_append {x : Str} {i : Nat} {p1 apos cpos : Pos} (hx : PE X (.Name x p1) (tVar i)) (he : RE X W e f)
    (hs : swapsWith (.Call (.Attribute (.Name x p1) "append" apos) [e] [] cpos) none pos.line X.env = pure false := by rfl)
    (hst : starEach [e] X.env = (false, eval e X.env) :: starEach [] X.env := by rfl)
    (hb : attributeBase (.Name x p1) "append" X.env (eval (.Name x p1) X.env) = eval (.Name x p1) X.env := by rfl) (hl : (apos.endLine == cpos.line) = true := by rfl)
    (hfew : ((backTo cpos (starEach [e] X.env)).all (fun x => !x.1) && (backToKw cpos (keywordEach [] X.env)).all (fun x => x.1.isSome) && decide ([e].length + ([] : List Keyword).length + (if ([] : List Keyword).isEmpty then 0 else 1) < 30)) = true := by rfl) :
    RS X W (.Expr (.Call (.Attribute (.Name x p1) "append" apos) [e] [] cpos) pos) (mApp i f) :=
  rs_app hx he hs hst fun h => pe_bm PySem.F.plainAttrs_list PySem.F.slot_list_append PySem.F.type_list_append mt_append hx (pa_cons h pa_nil hst) hb hfew hl hst
theorem rs_setAt {x : Str} {i : Nat} {p1 tpos : Pos} {j : Expr} {fb : MS → Out D} (hx : PE X (.Name x p1) (tVar i)) (he : RE X W e f) (hj : RE X W j fb)
    (hs : swapsWithSole [.Subscript (.Name x p1) j tpos] e pos.line X.env = pure false := by rfl) (hw : swappedStores [.Subscript (.Name x p1) j tpos] e X.env = pure none := by rfl)
    (h1 : (assignEach [.Subscript (.Name x p1) j tpos] X.env).map (·.2) = [assign (.Subscript (.Name x p1) j tpos) X.env] := by rfl) (h2 : ∀ {to tj : TE}, PE X (.Name x p1) to → PE X j tj → PG X (.Subscript (.Name x p1) j tpos) (gSub to tj rSetL) := by exact fun a b => pg_sub a b set_list) :
    RS X W (.Assign [.Subscript (.Name x p1) j tpos] e pos) (mSetI i f fb) :=
  rs_setI hx he hj fun a b => ps_asg a (h2 hx b) hs hw h1
end
/-- the def of a text, bound by its parameters alone -/
theorem binds1 {K : PySem.W.Frag} {x q : Str} {st : Stmt} {f : Addr} {fd : FuncData} {ps : List Str} (F : Fun K x q st f fd)
    (h : ∀ (kV doc pm : Value) (an : Option Addr) (cdv ct : Value) (us : List Value), us.length = ps.length → bindArgs (PySem.W.fnOf x q (defArgs st) (defBody st) (defScope st) .none kV doc pm an cdv ct) ⟨us, []⟩ = pure (ps.zip us)) : L2.Binds K fd ps [] := F.binds h
end MX

namespace MX
open PySem PySem.Spec L2
open PyProof.Rows hiding St
/-! ### sorted -/
def enc (d : D) : PyData := d.py.getD .none
def leS : D → D → Bool := PySem.W.dataLe false enc
def sortOk (ds : List D) : Bool := plains ds && decide (deps ds ≤ 64) && (ds.all fun d => ds.all fun e => PySem.W.alike (enc d) (enc e)) &&
  ((ds.all fun d => match d with | .tup (_ :: _) => true | _ => false) || ds.all fun d => match d with | .tup _ => false | .non => false | _ => true)
section
variable {prog : Program} {w : World} {A : Around} {E : Value → Shared → Prop} {s : Shared}
theorem collect_tup {l : Addr} {vs : List Value} {Q : List Value → Shared → Prop} (hl : s.heap.IsTuple l vs.toArray) (hz : vs.length ≤ sizeLine)
    (k : Q vs { s with heap := (s.heap.push (seqObj "list" #[] 0)).update s.heap.objs.size (Obj.mapSeq (· ++ vs.toArray)) }) : wpAny (model prog w) A (collect (.ref l)) Q E s := by
  obtain ⟨o, ho, hc, n, hd⟩ := id hl
  have g0 : (s.heap.push (seqObj "list" #[] 0)).get? l = some o := Heap.get?_push_of_some _ ho
  have g1 : (s.heap.push (seqObj "list" #[] 0)).get? s.heap.objs.size = some (seqObj "list" #[] 0) := Heap.get?_push_size _ rfl
  unfold collect
  refine wpAny_bind (wpAny_runValue (codeAny_builtin entry_proto_collect' ?_))
  show wpAny _ _ (do again (.builtin "list.__iadd__" ⟨[← newList [], .ref l], []⟩)) _ _ s
  refine wpAny_bind (wpAny_newList (wpAny_pure ⟨Code.quiet_builtin _ (by decide +kernel), codeAny_builtin entry_list_iadd' ?_⟩))
  show wpAny _ _ (Builtin.List.listExtendWith (.ref s.heap.objs.size) (.ref l) (.ref s.heap.objs.size)) _ _ { s with heap := s.heap.push (seqObj "list" #[] 0) }
  unfold Builtin.List.listExtendWith
  refine wpAny_bind (wpAny_typeOf (T := "tuple") ⟨o, g0, hc⟩ ?_)
  have ht : (Value.type "tuple" == Value.type "tuple") = true := by rfl
  rw [if_pos (by rw [ht]; simp)]
  refine wpAny_bind (listItems_at g0 hd (wpAny_bind (listItems_at (xs := #[]) (n := 0) g1 rfl ?_)))
  rw [if_neg (by simp)]
  refine wpAny_bind (listUpdate_at (xs := #[]) (n := 0) g1 rfl ?_ (Nat.zero_le _) (by show (#[] ++ vs.toArray).size ≤ sizeLine + 1; simp only [Array.size_append, List.size_toArray, List.length_nil]; omega))
  refine wpAny_pure ?_
  show wpAny (model prog w) A (load s.heap.objs.size >>= _) Q E { s with heap := (s.heap.push (seqObj "list" #[] 0)).update s.heap.objs.size (Obj.mapSeq (· ++ vs.toArray)) }
  refine wpAny_bind (wpAny_load (get?_update_seq g1 _) ?_)
  show wpAny _ _ (pure ((#[] : Array Value) ++ vs.toArray).toList) Q E _
  rw [show ((#[] : Array Value) ++ vs.toArray).toList = vs by simp]
  exact wpAny_pure k
theorem sorted_tupSrc {l : Addr} {vs : List Value} {κ : PyProof.Rows.KeyKind} {Q : Value → Shared → Prop} (hl : s.heap.IsTuple l vs.toArray) (S : PySem.W.SortsAt prog w A.in1.in1 { s with heap := PySem.W.sortingHeap (PySem.W.copyHeap s.heap vs) (s.heap.objs.size + 1) vs } κ vs) (hL : vs.length ≤ sizeLine)
    (k : Q (.ref (s.heap.objs.size + 1)) { s with heap := sortedAll s.heap vs (PySem.W.sortVals κ false vs vs).toArray }) : wpAny (model prog w) A (call (.builtin "sorted") [.ref l]) Q E s := by
  refine call_function_entry_kw kind_sorted plain_sorted entry_sorted (args_sorted1 _) ?_
  unfold Builtin.«sorted»
  refine wpAny_bind (m := checkCount "sorted" 1 1 _) (wpAny_pure ?_)
  refine wpAny_bind (collect_tup hl hL (wpAny_bind (wpAny_newList ?_ hL)))
  have hsz : ((s.heap.push (seqObj "list" #[] 0)).update s.heap.objs.size (Obj.mapSeq (· ++ vs.toArray))).objs.size = s.heap.objs.size + 1 := by
    rw [Heap.size_update, size_push']
  show wpAny _ _ _ _ _ { s with heap := PySem.W.copyHeap s.heap vs }
  rw [hsz]
  refine wpAny_bind (wpAny_holding (wpAny_call_entry_kw slot_list_sort ⟨_, PySem.W.copyHeap_at s.heap vs, rfl⟩ entry_list_sort ?_ (args_list_sort _)))
  exact PySem.W.list_sort_vals (s := { s with heap := PySem.W.copyHeap s.heap vs }) (PySem.W.copyHeap_at s.heap vs) S hL ⟨_, rfl, wpAny_pure ⟨_, rfl, k⟩⟩
end
section
variable {X : Cx}
theorem plains_mem : ∀ {ds : List D}, plains ds = true → ∀ d ∈ ds, d.plain = true
  | [], _, d, h => by cases h
  | e :: ds, hp, d, h => by
    unfold plains at hp
    rw [Bool.and_eq_true] at hp
    rcases List.mem_cons.mp h with rfl | h
    · exact hp.1
    · exact plains_mem hp.2 d h
theorem deps_mem : ∀ {ds : List D} {n : Nat}, deps ds ≤ n → ∀ d ∈ ds, d.dep ≤ n
  | [], n, _, d, h => by cases h
  | e :: ds, n, hp, d, h => by
    unfold deps at hp
    rcases List.mem_cons.mp h with rfl | h
    · omega
    · exact deps_mem (n := n) (by omega) d h
theorem plain_enc {d : D} (h : d.plain = true) : d.py = some (enc d) ∧ (enc d).depth = d.dep := by
  obtain ⟨p, h1, h2, h3⟩ := plain_py h
  have e : enc d = p := by unfold enc; rw [h1]; rfl
  rw [e]
  exact ⟨h1, h3⟩
def RV (K : PySem.W.Frag) (F : Hp) (u : Value) (d : D) : Prop := ∃ v, RelV v u ∧ At K F v d
theorem each_rv {K : PySem.W.Frag} {F : Hp} : ∀ {vs : List V} {ds : List D} {us : List Value}, Ats K F vs ds → Vals vs us → PySem.W.EachIs (RV K F) us ds
  | _, _, _, .nil, r => by cases r; exact .nil
  | _, _, _, .cons a as, r => by
    cases r with
    | cons r1 r2 => exact .cons ⟨_, r1, a⟩ (each_rv as r2)
theorem each_back {K : PySem.W.Frag} {F : Hp} : ∀ {us : List Value} {ds : List D}, PySem.W.EachIs (RV K F) us ds → ∃ vs, Vals vs us ∧ Ats K F vs ds
  | _, _, .nil => ⟨[], .nil, .nil⟩
  | _, _, .cons ⟨v, r, a⟩ t => by
    obtain ⟨vs, h1, h2⟩ := each_back t
    exact ⟨v :: vs, .cons r h1, .cons a h2⟩
theorem each_reads {pins : List (Addr × Obj)} {s : Shared} {σ : St} {H F : Hp} (I : Inv X pins σ H s) (hF : Ex F H) : ∀ {us : List Value} {ds : List D}, plains ds = true → PySem.W.EachIs (RV X.K F) us ds → PySem.W.EachIs (fun v b => ∃ as, Reads s.heap v (enc b) as) us ds
  | _, _, _, .nil => .nil
  | _, _, hp, .cons ⟨v, r, a⟩ t => by
    unfold plains at hp
    rw [Bool.and_eq_true] at hp
    exact .cons (Dp.reads I _ v _ (at_dp hF a (plain_enc hp.1).1) r) (each_reads I hF hp.2 t)
def rSortD (K : PySem.W.Frag) : List V → Hp → VK → Prop := fun vs H Q => ∃ a xs ds F, vs = [.ref a] ∧ (SqL K H a xs ∨ SqT K H a xs) ∧ Ats K F xs ds ∧ Ex F H ∧ sortOk ds = true ∧
  ∀ ys p, Ats K F ys (ds.mergeSort leS) → H p = none → Q (.ref p) (upd H p (.lst ys))
theorem cr_sortD (hu : X.A.units + 70 < cLine) : CallR X (.builtin "sorted") (rSortD X.K) := by
  intro pins s σ H vs us Q I r h
  obtain ⟨a, xs, ds, F, rfl, hs, ha, hF, ok, k⟩ := h
  rw [Vals.ref1 r]
  unfold sortOk at ok
  simp only [Bool.and_eq_true, Bool.or_eq_true, decide_eq_true_eq, List.all_eq_true] at ok
  obtain ⟨⟨⟨hp, hd⟩, hal⟩, hso⟩ := ok
  have halike : PySem.W.AllAlike (ds.map enc) := by
    intro x hx y hy
    obtain ⟨d, h1, rfl⟩ := List.mem_map.mp hx
    obtain ⟨e, h2, rfl⟩ := List.mem_map.mp hy
    exact hal d h1 e h2
  have hsort : PySem.W.Sortable (ds.map enc) := by
    rcases hso with h | h
    · refine .inl fun x hx => ?_
      obtain ⟨d, h1, rfl⟩ := List.mem_map.mp hx
      have h2 := h d h1
      have h3 := (plain_enc (plains_mem hp d h1)).1
      split at h2
      · rename_i y r
        unfold D.py pys at h3
        cases hy : y.py with
        | none => rw [hy] at h3; cases h3
        | some py =>
          cases hr : pys r with
          | none => rw [hy, hr] at h3; cases h3
          | some pr =>
            rw [hy, hr] at h3
            exact ⟨py, pr, (Option.some.inj h3).symm⟩
      · cases h2
    · refine .inr fun x hx => ?_
      obtain ⟨d, h1, rfl⟩ := List.mem_map.mp hx
      have h2 := h d h1
      have h3 := (plain_enc (plains_mem hp d h1)).1
      have h4 := plains_mem hp d h1
      cases d with
      | tup _ => cases h2
      | non => cases h2
      | bl b => exact ⟨(fun z => nomatch z), (fun _ z => nomatch z)⟩
      | int b => exact ⟨(fun z => nomatch z), (fun _ z => nomatch z)⟩
      | str b => exact ⟨(fun z => nomatch z), (fun _ z => nomatch z)⟩
      | lst ys =>
        unfold D.py at h3
        cases hr : pys ys with
        | none => rw [hr] at h3; cases h3
        | some pr =>
          rw [hr] at h3
          have e : enc (.lst ys) = .list pr := (Option.some.inj h3).symm
          rw [e]
          exact ⟨(fun z => nomatch z), (fun _ z => nomatch z)⟩
      | scr _ => cases h4
      | ins _ _ _ => cases h4
      | exc _ _ _ => cases h4
  have fin : ∀ {us : List Value} (hR : PySem.W.EachIs (RV X.K F) us ds) (hz : ds.length ≤ sizeLine) (out : List Value), out.length = ds.length → PySem.W.EachIs (RV X.K F) out (ds.mergeSort leS) →
      EP X pins σ Q (.ref (s.heap.objs.size + 1)) { s with heap := sortedAll s.heap us out.toArray } := fun {us} hR hz out hl e => by
    obtain ⟨ys, h1, h2⟩ := each_back e
    obtain ⟨ep, he⟩ := sortedAll_at s.heap us out.toArray
    have hlen : ys.length ≤ sizeLine := by rw [h1.length, hl]; exact hz
    exact ⟨.ref _, upd H (s.heap.objs.size + 1) (.lst ys), I.laid (t' := s.toks) (fun _ _ => sortedAll_old) (Nat.le_succ _) ⟨hlen, out, ep, h1, he⟩, rfl, k ys _ h2 (I.hok.fresh (Nat.le_succ _))⟩
  have hub : ∀ b ∈ ds, X.A.units + 2 + (enc b).depth < cLine := fun b hb => by
    rw [(plain_enc (plains_mem hp b hb)).2]
    have := deps_mem hd b hb
    omega
  rcases hs with hs | hs
  · obtain ⟨its, rv, hl, hz⟩ := I.list hs
    have e := each_rv ha rv
    have hz' : ds.length ≤ sizeLine := by rw [← ha.length]; exact hz
    exact PySem.W.sorted_data (enc := enc) (bs := ds) hl.isList e (each_reads I hF hp e) halike hsort hz' hub (fun out h1 h2 => fin e hz' out h1 h2)
  · obtain ⟨its, rv, hl, hz⟩ := I.tuple hs
    have e := each_rv ha rv
    have hz' : ds.length ≤ sizeLine := by rw [← ha.length]; exact hz
    have er := each_reads I hF hp e
    have er' : PySem.W.EachIs (fun v b => ∃ as, Reads (PySem.W.sortingHeap (PySem.W.copyHeap s.heap its) (s.heap.objs.size + 1) its) v (enc b) as) its ds := er.mono fun _ _ ⟨as, r⟩ => ⟨as, Reads.keeps (fun _ _ => PySem.W.sorting_copy_old) r⟩
    refine sorted_tupSrc hl (PySem.W.SortsAt.data (s := { s with heap := PySem.W.sortingHeap (PySem.W.copyHeap s.heap its) (s.heap.objs.size + 1) its }) (PySem.W.each_map (R := fun v d => ∃ as, Reads (PySem.W.sortingHeap (PySem.W.copyHeap s.heap its) (s.heap.objs.size + 1) its) v d as) enc er') halike hsort (PySem.W.bound_map hub)) (by rw [e.length]; exact hz') ?_
    exact fin e hz' _ (by rw [PySem.W.sortVals_length false rfl]; exact e.length) (PySem.W.sortVals_data false e er' halike)
def sortedD : List D → Option D
  | [.lst ds] => if sortOk ds = true then some (.lst (ds.mergeSort leS)) else none
  | [.tup ds] => if sortOk ds = true then some (.lst (ds.mergeSort leS)) else none
  | _ => none
theorem cd_sorted {k : Nat} (hr : Room k X.A) : CallD X (.builtin "sorted") sortedD := by
  refine ⟨_, cr_sortD (by have := hr.un; omega), fun F H vs ds z Q hF ha hz k => ?_⟩
  unfold sortedD at hz
  split at hz
  · split at hz
    · rename_i hok
      cases hz
      obtain ⟨v, rfl, a⟩ := ats1 ha
      cases a with
      | lst hs ha => exact ⟨_, _, _, F, rfl, .inl (SqL.of (hF _ _ hs)), ha, hF, hok, fun ys p hy hp => k _ _ _ (Stp.new hF hp) (.lst upd_same (hy.mono (Stp.new hF hp).f))⟩
    · cases hz
  · split at hz
    · rename_i hok
      cases hz
      obtain ⟨v, rfl, a⟩ := ats1 ha
      cases a with
      | tup hs ha => exact ⟨_, _, _, F, rfl, .inr (ex_t hF hs), ha, hF, hok, fun ys p hy hp => k _ _ _ (Stp.new hF hp) (.lst upd_same (hy.mono (Stp.new hF hp).f))⟩
    · cases hz
  · cases hz
end
end MX

namespace MX
open PySem PySem.Spec L2 NdefX ClX
open PyProof.Rows hiding St
/-! ### own errors: their __init__s call super().__init__ -/
structure ErrC (K : PySem.W.Frag) (C : Addr) : Prop where
  o : OexC K C
  nm : PySem.W.findIn K (.ref C) "name" = some none
  pl : PySem.W.findIn K (.ref C) "place" = some none
  ve : PySem.W.subIn K (.ref C) (.type "ValueError") = some true
  cl : PySem.W.isClsIn K C = true
/-- the def f (an __init__) whose __class__ is D -/
structure IFun (prog : Program) (K : PySem.W.Frag) (x qual : Str) (st : Stmt) (f D cc c : Addr) (fd : FuncData) : Prop where
  ex : ∃ (oc : Value) (od : Option Addr) (kV doc pm : Value) (an : Option Addr) (ct : Value) (osl : Array (Option Value)),
    fd = PySem.W.fnX x qual (defArgs st) (defBody st) (defScope st) [("__class__", cc)] .none kV doc pm an (.ref c) ct ∧ K.lookup f = some ⟨oc, od, .func fd, osl⟩
  cd : PySem.W.codeIn K (.ref c) qual = true
  cell : ∃ (cl : Value) (cld : Option Addr) (csl : Array (Option Value)), K.lookup cc = some ⟨cl, cld, .cell (some (.ref D)), csl⟩
  code : ∃ (ccl : Value) (cdd : Option Addr) (vs : Array Value) (ccs : Array (Option Value)) (file : Str) (tf : Tok), K.lookup c = some ⟨ccl, cdd, .fields vs, ccs⟩ ∧ vs[2]? = some (.str file tf) ∧ ((prog.main.file : Str) == file) = true
  kp : PySem.W.keepIn K (.ref f) = true
  isD : PySem.W.isClsIn K D = true
  top : (prog.main.scope.names.lookup ("super" : Str)).isSome = false
  any : PySem.W.nsIn K PySem.cStatics "thirdparty.any" = some none
abbrev nfOf (x qual : Str) (st : Stmt) (cc c : Addr) : NF := ⟨x, qual, defArgs st, defBody st, defScope st, [("__class__", cc)], c⟩
section
variable {CX : CXT} {P : Program} {w : World} {K : PySem.W.Frag} {mg : Str → Option Value} {base : Heap} {N ps : List Str} {x qual : Str} {st : Stmt} {f D cc c : Addr} {fd : FuncData} {k : Nat} {sp : Sp}
theorem ifn_of (F : IFun P K x qual st f D cc c fd) (S : NScope N ps ["__class__"] (defScope st)) (len : ∀ vs H Q E, sp vs H Q E → vs.length = ps.length)
    (hbody : ∀ (A : Around) (outer : List Env) (s : Shared) (H : Hp) (vs : List V) (Q : VK) (E : XK), Room k (A.deeper (envF (nfOf x qual st cc c) f s.heap.objs.size)) → sp vs H Q E →
      ∀ s', Inv (ncx CX P w K mg base N (nfOf x qual st cc c) f A outer s H E) [] (startF N vs [some (.ref D)]) H s' →
        _root_.PySem.wpAt (model P w) (A.deeper (envF (nfOf x qual st cc c) f s.heap.objs.size)) (.func (defBody st) (envF (nfOf x qual st cc c) f s.heap.objs.size)) (execs (defBody st) (envF (nfOf x qual st cc c) f s.heap.objs.size))
          (SP (ncx CX P w K mg base N (nfOf x qual st cc c) f A outer s H E) [] { nx := fun _ H' => Q .non H', rt := Q }) (ncx CX P w K mg base N (nfOf x qual st cc c) f A outer s H E).xe s') :
    FnOk P w K mg base CX (k + 1) f fd ps sp := by
  obtain ⟨oc, od, kV, doc, pm, an, ct, osl, rfl, lk⟩ := F.ex
  refine ⟨len, fun A outer s H args us vs Q E hr e0 hb r hsp => ?_⟩
  have KX : K.In s.heap := e0.mod.kin.keeps fun b o e => (e0.bs b o e).1
  have hl := len _ _ _ _ hsp
  have lim : s.heap.NoLimit := e0.mod.nolimit.keeps fun b o e => (e0.bs b o e).1
  refine ks_codeAny_call_defAt (body := defBody st) hr.depth (KX _ _ lk) rfl lim (PySem.W.codeRec_of KX F.cd) rfl hb S.nocell (fun ⟨n, _⟩ hy => S.par n (List.of_mem_zip hy).1) (fun h₁ hns kp => ?_) S.co S.gen S.kind
  obtain ⟨cl, cld, csl, hcc⟩ := F.cell
  have C : CellsAt [("__class__", cc)] ["__class__"] [some (V.ref D)] s.heap H := {
    len := rfl
    all := fun y c' hc => by
      have e : c' = cc := by
        unfold List.lookup at hc
        split at hc
        · exact (Option.some.inj hc).symm
        · cases hc
      subst e
      exact ⟨(e0.bs _ _ (e0.mod.kin _ _ hcc)).2, _, _, KX _ _ hcc, rfl⟩
    inj := fun y z c' h1 h2 => by
      unfold List.lookup at h1 h2
      split at h1
      · rename_i e1
        split at h2
        · rename_i e2
          rw [beq_iff_eq] at e1 e2
          rw [e1, e2]
        · cases h2
      · cases h1
    has := fun i y hi => by
      cases i with
      | zero =>
        cases hi
        exact ⟨cc, rfl, fun v hv => by cases hv; exact ⟨.ref D, rfl, _, KX _ _ hcc, rfl⟩⟩
      | succ i => cases hi }
  have I : Inv (ncx CX P w K mg base N (nfOf x qual st cc c) f A outer s H E) [] (startF N vs [some (.ref D)]) H { s with heap := h₁, toks := s.toks + (ps.zip us).length } := inv_startN (F := nfOf x qual st cc c) S hr.hd e0 hl r C hns kp
  refine ks_wpAt_mono (hbody A outer s H vs Q E (hr.deeper _) hsp _ I) (fun fl s' hs => ?_) fun e s' hs => hs
  have fin : ∀ {σ' : L2.St} {H' : Hp} {v : V} {u : Value}, Inv (ncx CX P w K mg base N (nfOf x qual st cc c) f A outer s H E) [] σ' H' s' → L2.RelV v u → Q v H' → CE outer P w H s Q u s' :=
    fun {σ' H' v u} J rv q => ⟨v, H', J.os, J.bare, J.base, J.hok, rv, q⟩
  cases fl with
  | ret u =>
    obtain ⟨v, σ', H', J, rv, q⟩ := hs
    exact fin J rv q
  | next =>
    obtain ⟨σ', H', J, q⟩ := hs
    exact fin (v := V.non) (u := Value.none) J rfl q
  | brk =>
    obtain ⟨_, _, _, q⟩ := hs
    exact False.elim q
  | cont =>
    obtain ⟨_, _, _, q⟩ := hs
    exact False.elim q
end
section
open PySem.W
variable {X : Cx} {pins : List (Addr × Obj)} {σ : L2.St} {H : Hp} {s : Shared} {a C D f cc c u : Addr} {fd : FuncData} {x qual : Str} {st : Stmt}
theorem ld_glb {Q : Value → Shared → Prop} {E : Value → Shared → Prop} (I : Inv X pins σ H s) (hg : Gl X "super") (hm : X.mg "super" = none) (h : Q (.type "super") s) : wpAny (model X.prog X.w) X.A (loadName X.env "super") Q E s := by
  obtain ⟨mb, h1, h2⟩ := I.mod.blt
  exact ks_loadName_global I.ok.kind hg (PySem.Calls.loadGlobal_builtin (by rw [I.ok.glob]; exact I.mod.glob.keeps I.bk) hm (by rw [I.ok.blt]; exact h1.keeps I.bk) ((h2 "super" (by decide)).trans (by decide +kernel)) h)
/-- the object that super() makes -/
theorem sup_base {body : List Stmt} {p0 p1 : Pos} {attr : Str} {whole : Sem Value} {ar : PySem.Arg} {cdD : ClassData} {Q : Value → Shared → Prop} (I : Inv X pins σ H s)
    (hlf : ∃ (oc : Value) (od : Option Addr) (osl : Array (Option Value)), X.K.lookup f = some ⟨oc, od, .func fd, osl⟩) (hfu : X.env.func = some f) (hco : X.env.code = .ref c)
    (hp : (fd.params.posonlyargs ++ fd.params.args).head? = some ar)
    (hcode : ∃ (ccl : Value) (cdd : Option Addr) (vs : Array Value) (ccs : Array (Option Value)) (file : Str) (tf : Tok), X.K.lookup c = some ⟨ccl, cdd, .fields vs, ccs⟩ ∧ vs[2]? = some (.str file tf) ∧ ((X.prog.main.file : Str) == file) = true)
    (hcell : ∃ (cl : Value) (cld : Option Addr) (csl : Array (Option Value)), X.K.lookup cc = some ⟨cl, cld, .cell (some (.ref D)), csl⟩) (hcl : X.env.cells.lookup ("__class__" : Str) = some cc)
    (hat : (attr == ("__class__" : Str)) = false) (hg : Gl X "super") (hm : X.mg "super" = none) (hkc : X.env.kindOf "__class__" = some .free)
    (hN : X.N[0]? = some ar.arg) (hloc : X.env.kindOf ar.arg = some .local) (hs0 : σ[0]? = some (some (.ref a)))
    (htop : (X.prog.main.scope.names.lookup ("super" : Str)).isSome = false) (hD : clsIn X.K D = some cdD) (ea : H a = some (exo a C none)) (hsub : mroIn X.K C (.ref D) = some true)
    (h : ∀ so s', Inv X ((so, ks_superObj D a C) :: pins) σ H s' → Q (.ref so) s') :
    _root_.PySem.wpAt (model X.prog X.w) X.A (.func body X.env) (attributeBase (.Call (.Name "super" p0) [] [] p1) attr X.env whole) Q X.xe s := by
  obtain ⟨oc, od, osl, hf⟩ := hlf
  obtain ⟨ccl, cdd, vs, ccs, file, tf, hc1, hc2, hc3⟩ := hcode
  obtain ⟨cl, cld, csl, hcc⟩ := hcell
  have KX := I.kIn
  obtain ⟨t1, ho⟩ := exo_at I.hok ea
  obtain ⟨oD, hD1, hD2⟩ : ∃ oD, s.heap.get? D = some oD ∧ oD.data = .cls cdD := by
    unfold clsIn at hD
    split at hD
    · rename_i c d cd' sl hq
      cases hD
      exact ⟨_, KX _ _ hq, rfl⟩
    · cases hD
  obtain ⟨m, hns, hloc2⟩ := I.loc
  obtain ⟨u, ru, lu⟩ := hloc2 0 ar.arg _ hN hs0 (.inl hloc)
  obtain rfl : u = Value.ref a := ru
  have hma : m ar.arg = some (.ref a) := by
    rcases lu with ⟨_, z⟩ | ⟨z, _⟩
    · exact z
    · rcases z with z | z <;> rw [hloc] at z <;> cases z
  refine ks_wpAt_super_base (env := X.env) (cc := c) hg hkc hat hfu (KX _ _ hf) rfl hp hco (KX _ _ hc1) rfl hc2 hc3 htop ?_
  refine ld_glb I hg hm ⟨rfl, ?_⟩
  refine wpAny_loadName_free I.ok.kind hkc hcl ⟨_, KX _ _ hcc, rfl⟩ ?_
  refine wpAny_loadName_local I.ok.kind hloc hns hma ?_
  refine ks_wpAny_isType_cls hD1 hD2 ⟨rfl, ?_⟩
  obtain ⟨hh, g, d, t, os⟩ := s
  refine ks_wpAny_call_super hD1 hD2 ho rfl (fun c e => by cases e) (looks_mroIn KX hsub) (fun h' e k => ?_)
  exact h _ _ (pin_new (t' := t) I k (Nat.le_refl _) e (fun v z => by cases z))

/-- .. its __init__, the built-in's: a method-wrapper -/
theorem sup_getB {so : Addr} {pl : Sem Bool} {Q : Value × List Value → Shared → Prop} {E : Value → Shared → Prop} {A : Around} (I : Inv X ((so, ks_superObj D a C) :: pins) σ H s) (ea : H a = some (exo a C none)) (ho : nsIn X.K PySem.cStatics "thirdparty.any" = some none)
    (hm : ks_superIn X.K C D "__init__" = some (some (.builtin "ValueError.__init__"))) (hB : subIn X.K (.ref C) (.type "ValueError") = some true)
    (h : ∀ q s', Inv X ((q, kxs_mw "ValueError.__init__" a) :: pins) σ H s' → Q (.ref q, []) s') : wpAny (model X.prog X.w) A (getMethod (.ref so) "__init__" pl) Q E s := by
  have KX := I.kIn
  obtain ⟨t1, hoe⟩ := exo_at I.hok ea
  have J : InstAt s.heap a { cls := .ref C, data := .fields #[.ref t1, .none, .none, .none, .bool false, .none] } C none := ⟨hoe, rfl, rfl, trivial⟩
  have hI : Looks (model X.prog X.w) s.heap (isInstance (.ref a) (.type "ValueError")) true := J.type.andThen (looks_subIn KX hB)
  cases hc : clsIn X.K C with
  | none => unfold ks_superIn at hm; rw [hc] at hm; cases hm
  | some cd =>
    unfold ks_superIn at hm
    rw [hc] at hm
    have hso := pin_at I
    obtain ⟨hh, g, d, t, os⟩ := s
    refine kxs_getMethod kxs_ValueError hso (looks_opaque KX ho) (l₀ := cd.mro) ?_ rfl KX hm hI (ks_ne KX J hc) rfl ?_
    · exact fun A Q E s k q => wpAny_bind ((looks_clsIn KX hc) A _ E s k (wpAny_pure q))
    · exact h _ _ (pin_new (t' := t + 1) (unpin I) (fun b o e => Heap.get?_push_of_some _ e) (Nat.le_refl _) (Heap.get?_push_at rfl rfl) (fun v z => by cases z))
/-- .. an own def: a bound method -/
theorem sup_getF {so f2 : Addr} {pl : Sem Bool} {Q : Value × List Value → Shared → Prop} {E : Value → Shared → Prop} {A : Around} (I : Inv X ((so, ks_superObj D a C) :: pins) σ H s) (ea : H a = some (exo a C none)) (ho : nsIn X.K PySem.cStatics "thirdparty.any" = some none)
    (hm : ks_superIn X.K C D "__init__" = some (some (.ref f2))) (ht : typeIn X.K (.ref f2) = some (.type "function"))
    (h : ∀ q s', X.base.get? q = none → Inv X ((q, methodObj (.ref f2) (.ref a)) :: pins) σ H s' → Q (.ref q, []) s') : wpAny (model X.prog X.w) A (getMethod (.ref so) "__init__" pl) Q E s := by
  have KX := I.kIn
  obtain ⟨t1, hoe⟩ := exo_at I.hok ea
  have J : InstAt s.heap a { cls := .ref C, data := .fields #[.ref t1, .none, .none, .none, .bool false, .none] } C none := ⟨hoe, rfl, rfl, trivial⟩
  cases hc : clsIn X.K C with
  | none => unfold ks_superIn at hm; rw [hc] at hm; cases hm
  | some cd =>
    unfold ks_superIn at hm
    rw [hc] at hm
    obtain ⟨of, hof, hofc⟩ : ∃ of, s.heap.get? f2 = some of ∧ of.cls = .type "function" := by
      have ht' : (X.K.lookup f2).map (·.cls) = some (.type "function") := ht
      cases z : X.K.lookup f2 with
      | none => rw [z] at ht'; cases ht'
      | some of => rw [z] at ht'; exact ⟨of, KX _ _ z, Option.some.inj ht'⟩
    have hso := pin_at I
    have hb := base_none (unpin I) (Nat.le_refl _)
    obtain ⟨hh, g, d, t, os⟩ := s
    refine ks_wpAny_getMethod_super hso (looks_opaque KX ho) (l₀ := cd.mro) ?_ rfl KX hm hof hofc (ks_ne KX J hc) rfl ?_
    · exact fun A Q E s k q => wpAny_bind ((looks_clsIn KX hc) A _ E s k (wpAny_pure q))
    · exact h _ _ hb (pin_new (t' := t + 1) (unpin I) (fun b o e => Heap.get?_push_of_some _ e) (Nat.le_refl _) (Heap.get?_push_at rfl rfl) (fun v z => by cases z))
/-- the method-wrapper called -/
theorem sup_runB {us : List Value} {q : Addr} {Q : Value → Shared → Prop} {E : Value → Shared → Prop} {A : Around} (T : OexC X.K C) (I : Inv X ((q, kxs_mw "ValueError.__init__" a) :: pins) σ H s) (ea : H a = some (exo a C none)) (hl : us.length ≤ sizeLine)
    (h : ∀ s', Inv X pins σ H s' → Q .none s') : wpAny (model X.prog X.w) A (call (.ref q) us) Q E s := by
  obtain ⟨nm, qn, N, bs, bm, sn, sub, ab, col, dd, k0, k1, k2, k3, k5, hC, hbm⟩ := T.cls
  obtain ⟨t1, ho⟩ := exo_at I.hok ea
  have hu := pin_at I
  have hCs := I.kIn _ _ hC
  obtain ⟨hp, g, d, tk, os⟩ := s
  refine wpAny_call (codeAny_of_tree ?_)
  show wpAny _ A.in1 (callAny (.ref q) ⟨us, []⟩) _ _ _
  simp only [callAny]
  refine wpAny_bind (wpAny_load hu ?_)
  simp only [kxs_mw, show (Value.type "method-wrapper" == Value.type "method" || Value.type "method-wrapper" == Value.type "builtin_function_or_method" || Value.type "method-wrapper" == Value.type "method-wrapper") = true by decide, if_true]
  refine KFB.if_so (by decide) ?_
  refine wpAny_bind (check_bound_init PySem.F.excBase_ValueError.toExcCallFacts hCs ho rfl ?_)
  refine wpAny_bind (wpAny_pure (wpAny_pure ?_))
  refine ⟨plainId_quiet PySem.F.excBase_ValueError.init.plain _, codeAny_builtin PySem.F.excBase_ValueError.initEntry ?_⟩
  refine exc_init_tree (cls := .ref C) (t0 := t1) (dv := none) (c2 := .none) (c3 := .none) (b4 := .bool false) ho hl fun h' k hx _ => ?_
  have J := I.write (t' := tk) (x := a) (e := a) (o := exo a C none) (by rw [ea]; exact True.intro) (.inl rfl) k ⟨_, hx⟩ (exo_ok hx)
  have eu : upd H a (exo a C none) = H := by
    funext b
    by_cases hb : b = a
    · rw [hb, upd_same, ea]
    · rw [upd_ne hb]
  rw [eu] at J
  exact h _ (unpin J)
theorem sup_callWithB {q : Addr} {pos : Pos} {A : Around} {e : Expr} {rest : List Expr} {Q : Value → Shared → Prop} {E : Value → Shared → Prop} {M : Model} {env : Env}
    (h : wpAny M A (spliced (backTo pos (starEach (e :: rest) env))) (fun vs s₁ => KxsAt "ValueError.__init__" q a s₁.heap ∧ wpAny M A (call (.ref q) vs) Q E s₁) E s)
    (he : starEach (e :: rest) env = (false, eval e env) :: starEach rest env := by rfl) (hplain : (backTo pos (starEach rest env)).any (·.1) = false := by rfl) :
    wpAny M A (callWith pos (.ref q) [] (backTo pos (starEach (e :: rest) env)) []) Q E s := by
  rw [he] at h ⊢
  refine kxs_callWith (i := "ValueError.__init__") (x := a) (by show (false || (backTo pos (starEach rest env)).any (·.1)) = false; rw [hplain]; rfl) ?_
  exact PySem.Calls.evalArgs_plain h

end
/-! ### what such an __init__ does -/
def spI (ok : Addr → Prop) (fs : V → List (Str × V)) : Sp := fun vs H Q _ => ∃ (a C : Addr) (y : V), vs = [.ref a, y] ∧ ok C ∧ H a = some (exo a C none) ∧
  ∀ (dx : Addr) (H' : Hp), H dx = none → dx ≠ a → H' = upd (upd H dx (exd dx (fs y))) a (exo a C (some dx)) → Q .non H'
theorem spI_len {ok : Addr → Prop} {fs : V → List (Str × V)} {n : Nat} (h : n = 2) : ∀ vs H Q E, spI ok fs vs H Q E → vs.length = n := fun vs H Q E ⟨a, C, y, e, _⟩ => by rw [e, h]; rfl
def okB (K : PySem.W.Frag) (D : Addr) (C : Addr) : Prop := ErrC K C ∧ PySem.W.mroIn K C (.ref D) = some true ∧ PySem.W.ks_superIn K C D "__init__" = some (some (.builtin "ValueError.__init__"))
def fsB (nm : Str) (y : V) : List (Str × V) := [("name", .str nm), ("place", y)]
theorem upd3 {H : Hp} {a dx : Addr} {o1 o2 o3 : HO} (h : dx ≠ a) : upd (upd (upd H dx o1) a o2) dx o3 = upd (upd H dx o3) a o2 := by
  funext b
  by_cases h1 : b = dx
  · subst h1
    rw [upd_same, upd_ne h, upd_same]
  · by_cases h2 : b = a
    · subst h2
      rw [upd_ne h1, upd_same, upd_same]
    · rw [upd_ne h1, upd_ne h2, upd_ne h1, upd_ne h2, upd_ne h1]
section
variable {P : Program} {w : World} {K : PySem.W.Frag} {mg : Str → Option Value} {base : Heap} {qual : Str} {st : Stmt} {f D cc c : Addr} {fd : FuncData} {nm : Str}
def SupCall (pl : Env → Sem Bool) (p1 p2 p3 p4 p5 : Pos) : Prop := ∀ env : Env, eval (.Call (.Attribute (.Call (.Name "super" p1) [] [] p2) "__init__" p3) [.Name "place" p4] [] p5) env = (do
      let ov ← attributeBase (.Call (.Name "super" p1) [] [] p2) "__init__" env (eval (.Call (.Name "super" p1) [] [] p2) env)
      standAt p3.atName
      let (f, first) ← holding [ov] (getMethod ov "__init__" (pl env))
      callWith p5 f first (backTo p5 (starEach [.Name "place" p4] env)) [])
/-- the base class's: super().__init__(place); self.place = place; self.name = nm -/
theorem ini_base {k : Nat} {p1 p2 p3 p4 p5 p6 p7 p8 p9 p10 p11 p12 p13 p14 : Pos} {kd : Nat} {pl : Env → Sem Bool} (F : IFun P K "__init__" qual st f D cc c fd) (hm : mg "super" = none)
    (hb : defBody st = [.Expr (.Call (.Attribute (.Call (.Name "super" p1) [] [] p2) "__init__" p3) [.Name "place" p4] [] p5) p6,
      .Assign [.Attribute (.Name "self" p7) "place" p8] (.Name "place" p9) p10, .Assign [.Attribute (.Name "self" p11) "name" p12] (.Constant (.str nm) kd p13) p14])
    (S : NScope ["self", "place", "__class__"] ["self", "place"] ["__class__"] (defScope st)) (hg : (defScope st).names.lookup ("super" : Str) = some .globalImplicit)
    (he : SupCall pl p1 p2 p3 p4 p5)
    (hpar : ∃ ar ar2, (defArgs st).posonlyargs ++ (defArgs st).args = [ar, ar2] ∧ ar.arg = "self") :
    FnOk P w K mg base (L2.CX P w) (k + 1) f fd ["self", "place"] (spI (okB K D) (fsB nm)) := by
  refine ifn_of F S (spI_len rfl) fun A outer s H vs Q E hr hsp s' I => ?_
  obtain ⟨a, C, y, rfl, ⟨ec, hmro, hsup⟩, ea, q⟩ := hsp
  obtain ⟨oc, od, kV, doc, pm, an, ct, osl, hfd, lk⟩ := F.ex
  obtain ⟨ar, ar2, har, harn⟩ := hpar
  generalize hX : ncx (L2.CX P w) P w K mg base ["self", "place", "__class__"] (nfOf "__init__" qual st cc c) f A outer s H E = X at I ⊢
  have hXK : X.K = K := by rw [← hX]; rfl
  have hXm : X.mg = mg := by rw [← hX]; rfl
  have hXp : X.prog = P := by rw [← hX]; rfl
  have hXw : X.w = w := by rw [← hX]; rfl
  have hXN : X.N = (["self", "place", "__class__"] : List Str) := by rw [← hX]; rfl
  have hXe : X.env = envF (nfOf "__init__" qual st cc c) f s.heap.objs.size := by rw [← hX]; rfl
  have hXA : X.A = A.deeper (envF (nfOf "__init__" qual st cc c) f s.heap.objs.size) := by rw [← hX]; rfl
  subst hXK hXm hXp hXw
  rw [← hXA, ← hXe]
  have hsc : X.env.scope = defScope st := by rw [hXe]
  have hkd : ∀ x, X.env.kindOf x = (defScope st).names.lookup x := fun x => congrArg (fun e : Env => e.kindOf x) hXe
  have l0 : X.env.kindOf "self" = some .local := (hkd _).trans (S.par _ (by simp))
  have l1 : X.env.kindOf "place" = some .local := (hkd _).trans (S.par _ (by simp))
  have N0 : X.N[0]? = some ("self" : Str) := by rw [hXN]; rfl
  have N1 : X.N[1]? = some ("place" : Str) := by rw [hXN]; rfl
  have v0 : Vis X.env.scope "self" := .inl (by rw [hsc]; exact S.par _ (by simp))
  have v1 : Vis X.env.scope "place" := .inl (by rw [hsc]; exact S.par _ (by simp))
  have hfe : X.env.func = some f := congrArg (fun e : Env => e.func) hXe
  have hce : X.env.code = .ref c := congrArg (fun e : Env => e.code) hXe
  have hcl : X.env.cells.lookup ("__class__" : Str) = some cc := congrArg (fun e : Env => e.cells.lookup ("__class__" : Str)) hXe
  obtain ⟨cdD, hD⟩ := Option.isSome_iff_exists.mp (show (PySem.W.clsIn X.K D).isSome = true from F.isD)
  rw [hb]
  refine ks_wpAt_execs_cons (ks_wpAt_Expr_any (ks_wpAt_MethodCall ?_ (he _)) I.quiet)
  refine sup_base (ar := ar) (f := f) (c := c) (cc := cc) (D := D) (C := C) (a := a) (fd := fd) (cdD := cdD) I ⟨oc, od, osl, lk⟩ hfe hce ?_ F.code F.cell hcl (by decide) ((hkd _).trans hg) hm ((hkd _).trans (S.frk _ (by simp))) (by rw [harn]; exact N0) (by rw [harn]; exact l0) rfl F.top hD ea hmro fun so s1 I1 => ?_
  · rw [hfd]
    show ((defArgs st).posonlyargs ++ (defArgs st).args).head? = some ar
    rw [har]
    rfl
  refine sup_getB I1 ea F.any hsup ec.ve fun q1 s2 I2 => ?_
  refine sup_callWithB (a := a) (thn ((pa_cons (pv 1 (x := "place") N1 v1) pa_nil).run p5 _ s2 (startF ["self", "place", "__class__"] [.ref a, y] [some (.ref D)]) H (fun us H1 => us = [y] ∧ H1 = H) I2 ?_) fun us s3 hus => ?_)
  · exact ⟨y, rfl, ⟨rfl, rfl⟩⟩
  obtain ⟨vs, H1, I3, r3, rfl, rfl⟩ := hus
  refine ⟨pin_at I3, sup_runB ec.o I3 ea (by rw [← r3.length, sizeLine_eq]; show 1 ≤ _; omega) fun s4 I4 => ?_⟩
  refine wpAt_of_wpAny ?_
  refine (pss_cons (ps_ost (f := "place") (pv 0 (x := "self") N0 v0) (pv 1 (x := "place") N1 v1)) (pss_one (ps_ost (f := "name") (pv 0 (x := "self") N0 v0) pe_str))).run [] s4 _ H1 _ I4 ?_
  refine ⟨y, rfl, .ref a, rfl, a, C, rfl, ec.o, ec.pl, .inl ⟨ea, fun dx n ne => ?_⟩⟩
  refine ⟨.ref a, rfl, a, C, rfl, ec.o, ec.nm, .inr ⟨dx, [("place", y)], upd_same, ?_, Nat.le_of_ble_eq_true rfl, ?_⟩⟩
  · rw [upd_ne ne, upd_same]
  · exact q dx _ n ne (upd3 ne)

theorem IFun.binds {x : Str} {ps : List Str} (F : IFun P K x qual st f D cc c fd)
    (h : ∀ (kV doc pm : Value) (an : Option Addr) (ct : Value) (us : List Value), us.length = ps.length → bindArgs (PySem.W.fnX x qual (defArgs st) (defBody st) (defScope st) [("__class__", cc)] .none kV doc pm an (.ref c) ct) ⟨us, []⟩ = pure (ps.zip us)) : Binds K fd ps [] := by
  obtain ⟨oc, od, kV, doc, pm, an, ct, osl, rfl, lk⟩ := F.ex
  exact .all (h kV doc pm an ct)
/-- a further class's: super().__init__(place); self.name = nm -/
theorem ini_sub {k : Nat} {p1 p2 p3 p4 p5 p6 p7 p8 p9 p10 : Pos} {kd : Nat} {pl : Env → Sem Bool} {f2 D2 : Addr} {fd2 : FuncData} {nm2 : Str} (F : IFun P K "__init__" qual st f D cc c fd) (hm : mg "super" = none)
    (hb : defBody st = [.Expr (.Call (.Attribute (.Call (.Name "super" p1) [] [] p2) "__init__" p3) [.Name "place" p4] [] p5) p6,
      .Assign [.Attribute (.Name "self" p7) "name" p8] (.Constant (.str nm) kd p9) p10])
    (S : NScope ["self", "place", "__class__"] ["self", "place"] ["__class__"] (defScope st)) (hg : (defScope st).names.lookup ("super" : Str) = some .globalImplicit)
    (he : SupCall pl p1 p2 p3 p4 p5)
    (hpar : ∃ ar ar2, (defArgs st).posonlyargs ++ (defArgs st).args = [ar, ar2] ∧ ar.arg = "self")
    (F2 : FnOk P w K mg base (L2.CX P w) k f2 fd2 ["self", "place"] (spI (okB K D2) (fsB nm2))) (hb2 : Binds K fd2 ["self", "place"] [])
    (ok : okB K D2 D) (hmro : PySem.W.mroIn K D (.ref D) = some true) (hsup : PySem.W.ks_superIn K D D "__init__" = some (some (.ref f2))) (ht : PySem.W.typeIn K (.ref f2) = some (.type "function")) (hfi : PySem.W.fnIn K f2 = true) :
    FnOk P w K mg base (L2.CX P w) (k + 1) f fd ["self", "place"] (spI (fun C => C = D) (fun y => ("name", .str nm) :: fsB nm2 y)) := by
  refine ifn_of F S (spI_len rfl) fun A outer s H vs Q E hr hsp s' I => ?_
  obtain ⟨a, C, y, rfl, rfl, ea, q⟩ := hsp
  obtain ⟨oc, od, kV, doc, pm, an, ct, osl, hfd, lk⟩ := F.ex
  obtain ⟨ar, ar2, har, harn⟩ := hpar
  generalize hX : ncx (L2.CX P w) P w K mg base ["self", "place", "__class__"] (nfOf "__init__" qual st cc c) f A outer s H E = X at I ⊢
  have hXK : X.K = K := by rw [← hX]; rfl
  have hXm : X.mg = mg := by rw [← hX]; rfl
  have hXp : X.prog = P := by rw [← hX]; rfl
  have hXw : X.w = w := by rw [← hX]; rfl
  have hXb : X.base = base := by rw [← hX]; rfl
  have hXN : X.N = (["self", "place", "__class__"] : List Str) := by rw [← hX]; rfl
  have hXe : X.env = envF (nfOf "__init__" qual st cc c) f s.heap.objs.size := by rw [← hX]; rfl
  have hXA : X.A = A.deeper (envF (nfOf "__init__" qual st cc c) f s.heap.objs.size) := by rw [← hX]; rfl
  subst hXK hXm hXp hXw hXb
  rw [← hXA, ← hXe]
  rw [← hXA] at hr
  have hsc : X.env.scope = defScope st := by rw [hXe]
  have hkd : ∀ x, X.env.kindOf x = (defScope st).names.lookup x := fun x => congrArg (fun e : Env => e.kindOf x) hXe
  have l0 : X.env.kindOf "self" = some .local := (hkd _).trans (S.par _ (by simp))
  have l1 : X.env.kindOf "place" = some .local := (hkd _).trans (S.par _ (by simp))
  have N0 : X.N[0]? = some ("self" : Str) := by rw [hXN]; rfl
  have N1 : X.N[1]? = some ("place" : Str) := by rw [hXN]; rfl
  have v0 : Vis X.env.scope "self" := .inl (by rw [hsc]; exact S.par _ (by simp))
  have v1 : Vis X.env.scope "place" := .inl (by rw [hsc]; exact S.par _ (by simp))
  have hfe : X.env.func = some f := congrArg (fun e : Env => e.func) hXe
  have hce : X.env.code = .ref c := congrArg (fun e : Env => e.code) hXe
  have hcl : X.env.cells.lookup ("__class__" : Str) = some cc := congrArg (fun e : Env => e.cells.lookup ("__class__" : Str)) hXe
  obtain ⟨cdD, hD⟩ := Option.isSome_iff_exists.mp (show (PySem.W.clsIn X.K C).isSome = true from F.isD)
  rw [hb]
  refine ks_wpAt_execs_cons (ks_wpAt_Expr_any (ks_wpAt_MethodCall ?_ (he _)) I.quiet)
  refine sup_base (ar := ar) (f := f) (c := c) (cc := cc) (D := C) (C := C) (a := a) (fd := fd) (cdD := cdD) I ⟨oc, od, osl, lk⟩ hfe hce ?_ F.code F.cell hcl (by decide) ((hkd _).trans hg) hm ((hkd _).trans (S.frk _ (by simp))) (by rw [harn]; exact N0) (by rw [harn]; exact l0) rfl F.top hD ea hmro fun so s1 I1 => ?_
  · rw [hfd]
    show ((defArgs st).posonlyargs ++ (defArgs st).args).head? = some ar
    rw [har]
    rfl
  have ec := ok.1
  refine sup_getF I1 ea F.any hsup ht fun q1 s2 hqb I2 => ?_
  refine callwith_cm (σ := startF ["self", "place", "__class__"] [.ref a, y] [some (.ref C)]) I2 hqb hfi (thn ((pa_cons (pv 1 (x := "place") N1 v1) pa_nil).run p5 _ s2 (startF ["self", "place", "__class__"] [.ref a, y] [some (.ref C)]) H (fun us H1 => us = [y] ∧ H1 = H) I2 ?_) fun us s3 hus => ?_) rfl rfl
  · exact ⟨y, rfl, ⟨rfl, rfl⟩⟩
  obtain ⟨vs, H1, I3, r3, rfl, rfl⟩ := hus
  refine ⟨⟨pin_at I3, I3.kIn⟩, wpAny_mono (run_cm (CX := L2.CX X.prog X.w) (k := k) (E := E0) (Q := fun v H' => v = .non ∧ ∃ dx, H1 dx = none ∧ dx ≠ a ∧ H' = upd (upd H1 dx (exd dx (fsB nm2 y))) a (exo a C (some dx))) (F2.raw hb2 .nil) hr passL I3 r3 ?_) (fun u s4 hu => ?_) fun _ _ z => z⟩
  · exact ⟨a, C, y, rfl, ok, ea, fun dx H' n ne e => ⟨rfl, dx, n, ne, e⟩⟩
  obtain ⟨v, H4, I4, rv, rfl, dx, n, ne, rfl⟩ := hu
  refine wpAt_of_wpAny ?_
  refine (pss_one (ps_ost (f := "name") (pv 0 (x := "self") N0 v0) pe_str)).run [] s4 _ _ _ I4 ?_
  refine ⟨.ref a, rfl, a, C, rfl, ec.o, ec.nm, .inr ⟨dx, fsB nm2 y, upd_same, ?_, Nat.le_of_ble_eq_true rfl, ?_⟩⟩
  · rw [upd_ne ne, upd_same]
  · exact q dx _ n ne (upd3 ne)
end
end MX

namespace MX
open PySem PySem.Spec L2
open PyProof.Rows hiding St
/-! ### an own error is made -/
/-- the class that the module's name x holds, its __init__ and what that stores -/
structure MkE (P : Program) (w : World) (K : PySem.W.Frag) (mg : Str → Option Value) (base : Heap) (k : Nat) (x : Str) (C : Addr) (nm : Str) : Prop where
  ex : ∃ (fI : Addr) (fd : FuncData) (fs : V → List (Str × V)) (ok : Addr → Prop), FnOk P w K mg base (L2.CX P w) k fI fd ["self", "place"] (spI ok fs) ∧ ok C ∧ Binds K fd ["self", "place"] [] ∧ PySem.W.findIn K (.ref C) "__init__" = some (some (.ref fI)) ∧ PySem.W.typeIn K (.ref fI) = some (.type "function") ∧
    (∀ y, (fs y).lookup ("name" : Str) = some (.str nm)) ∧ ∀ y, (fs y).lookup ("place" : Str) = some y
  o : OexC K C
  g : mg x = some (.ref C)
section
variable {X : Cx} {W : WX} {e : Expr} {f : MS → Out D} {pos p : Pos} {k : Nat} {x nm : Str} {C : Addr}
/-- .. as a value -/
def tMkV (C : Addr) (nm : Str) (te : TE) : TE := fun σ H Q => te σ H fun y H1 => ∀ (a d : Addr) (fs : List (Str × V)), H1 a = none → H1 d = none → d ≠ a → fs.lookup ("name" : Str) = some (.str nm) → fs.lookup ("place" : Str) = some y → Q (.ref a) (upd (upd H1 d (exd d fs)) a (exo a C (some d)))
theorem pe_mkV {te : TE} (M : MkE X.prog X.w X.K X.mg X.base k x C nm) (hr : Room (k + 1) X.A) (hg : Gl X x) (he : PE X e te)
    (hdb : (x == ("__debug__" : Str)) = false := by decide) (hs : starEach [e] X.env = (false, eval e X.env) :: starEach [] X.env := by rfl) : PE X (.Call (.Name x p) [e] [] pos) (tMkV C nm te) := by
  refine ⟨fun pins s σ H Q I h => ?_⟩
  obtain ⟨fI, fd, fs, ok, F1, okC, hb, iC, tI, hnm, hpl⟩ := M.ex
  have T := M.o
  obtain ⟨nm', q, N, bs, bm, sn, sub, ab, col, dd, k0, k1, k2, k3, k5, hC, hbm⟩ := T.cls
  refine PySem.wpAny_Call_Name_kw (ld_glob I hg M.g ?_ hdb)
  refine PySem.W.callWith_K (h₀ := X.base) I.ok.mod.kin T.kC (thn ((pa_cons he pa_nil hs).run pos pins s σ H (fun vs H1 => match vs with
    | [y] => ∀ (a d : Addr) (fs : List (Str × V)), H1 a = none → H1 d = none → d ≠ a → fs.lookup ("name" : Str) = some (.str nm) → fs.lookup ("place" : Str) = some y → Q (.ref a) (upd (upd H1 d (exd d fs)) a (exo a C (some d)))
    | _ => False) I h) fun us s1 ⟨vs, H1, I1, r1, q1⟩ => ⟨I1.kIn, ?_⟩) hs rfl
  show wpAny _ _ (call (.ref C) us) _ _ _
  obtain ⟨y, rfl⟩ : ∃ y, vs = [y] := by
    cases vs with
    | nil => exact q1.elim
    | cons y l =>
      cases l with
      | nil => exact ⟨y, rfl⟩
      | cons _ _ => exact q1.elim
  have q1 : ∀ (a d : Addr) (fs : List (Str × V)), H1 a = none → H1 d = none → d ≠ a → fs.lookup ("name" : Str) = some (.str nm) → fs.lookup ("place" : Str) = some y → Q (.ref a) (upd (upd H1 d (exd d fs)) a (exo a C (some d))) := q1
  obtain ⟨hp, g, dr, tk, os⟩ := s1
  have hsz : hp.objs.size ≤ hp.objs.size + 1 := Nat.le_succ _
  have hn : H1 (hp.objs.size + 1) = none := I1.hok.fresh hsz
  have kk : ∀ b o, hp.get? b = some o → ((hp.push (PySem.W.kdv_tup us)).push (PySem.HandSPX.excO C hp.objs.size)).get? b = some o := fun b o e => Heap.get?_push_of_some _ (Heap.get?_push_of_some _ e)
  have hget : ((hp.push (PySem.W.kdv_tup us)).push (PySem.HandSPX.excO C hp.objs.size)).get? (hp.objs.size + 1) = some (PySem.HandSPX.excO C hp.objs.size) := by heap_get
  have I2 : Inv X pins σ (upd H1 (hp.objs.size + 1) (exo (hp.objs.size + 1) C none)) ⟨(hp.push (PySem.W.kdv_tup us)).push (PySem.HandSPX.excO C hp.objs.size), g, dr, tk, os⟩ :=
    I1.laid (t' := tk) (a := hp.objs.size + 1) (o := exo (hp.objs.size + 1) C none) (h' := (hp.push (PySem.W.kdv_tup us)).push (PySem.HandSPX.excO C hp.objs.size)) kk hsz (exo_ok hget)
  have r2 : Vals (V.ref (hp.objs.size + 1) :: ([y] ++ [])) (Value.ref (hp.objs.size + 1) :: (us ++ [])) := .cons rfl (r1.append .nil)
  have hl : (Value.ref (hp.objs.size + 1) :: us ++ []).length = 2 := r2.length.symm
  have hus : us.length ≤ sizeLine := by
    rw [← Paired.length r1, sizeLine_eq]
    show 1 ≤ _
    omega
  have hsp : spI ok fs [V.ref (hp.objs.size + 1), y] (upd H1 (hp.objs.size + 1) (exo (hp.objs.size + 1) C none)) (fun v H' => v = .non ∧ Q (.ref (hp.objs.size + 1)) H') E0 := by
    refine ⟨_, C, y, rfl, okC, upd_same, fun dx H' hdx hne hH => ⟨rfl, ?_⟩⟩
    rw [upd_ne hne] at hdx
    have e : H' = upd (upd H1 dx (exd dx (fs y))) (hp.objs.size + 1) (exo (hp.objs.size + 1) C (some dx)) := by
      rw [hH]
      funext b
      by_cases h1 : b = hp.objs.size + 1
      · subst h1
        rw [upd_same, upd_same]
      · rw [upd_ne h1, upd_ne h1]
        by_cases h2 : b = dx
        · subst h2
          rw [upd_same, upd_same]
        · rw [upd_ne h2, upd_ne h2, upd_ne h1]
    rw [e]
    exact q1 _ dx _ hn hdx hne (hnm y) (hpl y)
  refine PySem.wpAny_call (PySem.HandSPX.call_own PySem.F.excBase_ValueError (fun Y => PySem.HandSPX.refsVE_contains Y bm hbm) (I1.kIn _ _ hC) (PySem.W.looks_findIn I1.kIn iC) (fun self => PySem.W.bind_fn I1.kIn self tI) hus
    (codeAny_mono (F1.run _ X.stack _ _ ⟨Value.ref (hp.objs.size + 1) :: us, []⟩ (Value.ref (hp.objs.size + 1) :: us ++ []) _ _ E0 (hr.make C us []) (I2.env0.make C us []) (hb _ (Value.ref (hp.objs.size + 1) :: us) I2.kIn hl) r2 hsp) fun r s' hq' => ?_))
  cases r with
  | error er => exact passL pins σ _ _ er s' I2 hq'
  | ok fl =>
    cases fl with
    | ret u =>
      obtain ⟨v, H', J, rv, ev, q2⟩ := I2.after hq'
      subst ev
      exact ⟨rv, .ref _, H', J, rfl, q2⟩
    | next => exact False.elim hq'
    | brk => exact False.elim hq'
    | cont => exact False.elim hq'
def mMkV (C : Addr) (nm : Str) (f : MS → Out D) : MS → Out D := fun st => (f st).bind fun d st1 => .ok (.exc C nm d) st1
theorem re_mkV (M : MkE X.prog X.w X.K X.mg X.base k x C nm) (hr : Room (k + 1) X.A) (he : RE X W e f) (hg : Gl X x := by rfl)
    (hdb : (x == ("__debug__" : Str)) = false := by decide) (hs : starEach [e] X.env = (false, eval e X.env) :: starEach [] X.env := by rfl) : RE X W (.Call (.Name x p) [e] [] pos) (mMkV C nm f) := by
  obtain ⟨t, t1, t2⟩ := he
  refine ⟨_, pe_mkV M hr hg t1 hdb hs, fun B st F σ H Q r pp => ?_⟩
  refine t2 B st F σ H _ r (PostG.bind pp fun d st1 v F1 H1 e1 r1 a1 p1 => ?_)
  intro a dx fs ha hd hne hn hpl
  have S1 := Stp.new (o := exd dx fs) r1.ext hd
  have ha2 : upd H1 dx (exd dx fs) a = none := by rw [upd_ne (Ne.symm hne)]; exact ha
  have r2 := r1.step S1
  have S2 := Stp.new (o := exo a C (some dx)) r2.ext ha2
  exact p1 _ _ _ (S1.trans S2).f (r2.step S2) (.exc upd_same (by rw [upd_ne hne, upd_same]) hn hpl (At.mono (S1.trans S2).f a1))
/-! ### its fields; isinstance -/
structure ExA (K : PySem.W.Frag) (C : Addr) : Prop where
  x : XfC K C
  nm : PySem.W.findIn K (.ref C) "name" = some none
  pl : PySem.W.findIn K (.ref C) "place" = some none
  hc : PySem.W.findIn K (.ref C) "__class__" = some (some (.builtin "object.__class__"))
  hn : PySem.W.specialIn K (.builtin "object.__class__") "__get__" = some (some (.builtin "getset_descriptor.__get__"))
  ht : PySem.W.takesIn K (.builtin "object.__class__") = some true
  hm : PySem.W.mroIn K C (.type "object") = some true
  cl : PySem.W.isClsIn K C = true
end
inductive EF where
  | name | place
def EF.nm : EF → Str
  | .name => "name" | .place => "place"
section
variable {X : Cx} {W : WX} {e : Expr} {f : MS → Out D} {pos p : Pos}
def excA (ok : Addr → Bool) : EF → D → Option D
  | .name, .exc C nm _ => if ok C = true then some (.str nm) else none
  | .place, .exc C _ d => if ok C = true then some d else none
  | _, _ => none
theorem exc_inst {pins : List (Addr × Obj)} {σ : L2.St} {H F : Hp} {s : Shared} {v : V} {C : Addr} {nm : Str} {d : D} {fd : Str} {y : V} (I : L2.Inv X pins σ H s) (e : Ex F H) {a dx : Addr} {fs : List (Str × V)} (h1 : F a = some (exo a C (some dx))) (h2 : F dx = some (exd dx fs)) :
    ∃ (ox od : Obj), PySem.W.InstAt s.heap a ox C (some od) ∧ ∀ f y, fs.lookup f = some y → ∃ u, PySem.W.lookIn f od = some (some u) ∧ RelV y u := by
  obtain ⟨t1, ho⟩ := exo_at I.hok (e _ _ h1)
  obtain ⟨mA, hns, hr⟩ := exd_at I.hok (e _ _ h2)
  obtain ⟨od, ho2, hl⟩ := lookIn_ns hns
  refine ⟨_, od, ⟨ho, rfl, rfl, ho2⟩, fun f y hy => ?_⟩
  obtain ⟨u, hu, ru⟩ := RelO.some_of (v := y) (o := mA f) (by rw [← hy]; exact hr f)
  exact ⟨u, by rw [hl, hu], ru⟩
def tExA (n : Str) (te : TE) : TE := fun σ H Q => te σ H fun x H1 => ∃ (a C dx : Addr) (fs : List (Str × V)) (y : V) (F : Hp), x = .ref a ∧ Ex F H1 ∧ F a = some (exo a C (some dx)) ∧ F dx = some (exd dx fs) ∧ fs.lookup n = some y ∧ XfC X.K C ∧ PySem.W.findIn X.K (.ref C) n = some none ∧ Q y H1
theorem pe_exA {te : TE} {n : Str} (he : PE X e te) (hb : attributeBase e n X.env (eval e X.env) = eval e X.env := by rfl) : PE X (.Attribute e n pos) (tExA (X := X) n te) := by
  refine ⟨fun pins s σ H Q I h => ?_⟩
  refine attr_of hb (thn (he.run pins s σ H _ I h) fun u s1 hh => ?_)
  obtain ⟨x, H1, I1, rx, a, C, dx, fs, y, F, ex, eF, h1, h2, hl, T, hno, q⟩ := hh
  subst ex
  obtain rfl : u = Value.ref a := rx
  obtain ⟨ox, od, J, hf⟩ := exc_inst (v := .non) (nm := n) (d := .non) (fd := n) (y := .non) I1 eF h1 h2
  obtain ⟨u, hu, ru⟩ := hf n y hl
  exact PySem.HandSPX.exc_get I1.kIn J T.ga T.gg T.exC (PySem.W.findObj_own T.hdC hno rfl hu) (handed_of ru) ⟨y, H1, I1.tok _, ru, q⟩
theorem re_exA {ok : Addr → Bool} (n : EF) (hok : ∀ C, ok C = true → ExA X.K C) (he : RE X W e f) (hb : attributeBase e n.nm X.env (eval e X.env) = eval e X.env := by rfl) : RE X W (.Attribute e n.nm pos) (mUn (excA ok n) f) := by
  obtain ⟨t, t1, t2⟩ := he
  refine ⟨_, pe_exA t1 hb, fun B st F σ H Q r pp => ?_⟩
  refine t2 B st F σ H _ r (PostG.bind pp fun d st1 v F1 H1 e1 r1 a1 p1 => ?_)
  cases hz : excA ok n d with
  | none => rw [hz] at p1; exact p1.elim
  | some z =>
    rw [hz] at p1
    cases n with
    | name =>
      cases a1 with
      | exc h1 h2 h3 h4 h5 =>
        rename_i a C dx fs nm y d
        simp only [excA] at hz
        by_cases hc : ok C = true
        · rw [if_pos hc] at hz
          cases hz
          have A := hok C hc
          exact ⟨a, C, dx, fs, _, F1, rfl, r1.ext, h1, h2, h3, A.x, A.nm, p1 _ F1 H1 (Same.refl _) r1 (.str _)⟩
        · rw [if_neg hc] at hz
          cases hz
      | _ => cases hz
    | place =>
      cases a1 with
      | exc h1 h2 h3 h4 h5 =>
        rename_i a C dx fs nm y d
        simp only [excA] at hz
        by_cases hc : ok C = true
        · rw [if_pos hc] at hz
          cases hz
          have A := hok C hc
          exact ⟨a, C, dx, fs, _, F1, rfl, r1.ext, h1, h2, h4, A.x, A.pl, p1 _ F1 H1 (Same.refl _) r1 h5⟩
        · rw [if_neg hc] at hz
          cases hz
      | _ => cases hz

def rIsX (K : PySem.W.Frag) : List V → Hp → VK → Prop := fun xs H Q => ∃ (a C dx : Addr) (fs : List (Str × V)) (c : V) (cv : Value) (b : Bool) (F : Hp), xs = [.ref a, c] ∧ Ex F H ∧ F a = some (exo a C (some dx)) ∧ F dx = some (exd dx fs) ∧ (∀ u, RelV c u → u = cv) ∧ ExA K C ∧ PySem.W.kitOne K (.ref C) cv = some b ∧ Q (.bl b) H
theorem call_isX : CallR X (.builtin "isinstance") (rIsX X.K) := by
  intro pins s σ H xs us Q I r h
  obtain ⟨a, C, dx, fs, c, cv, b, F, rfl, eF, h1, h2, hcv, A, e, q⟩ := h
  cases r with
  | cons rx rr =>
    cases rr with
    | cons rt rr =>
      cases rr
      cases rx
      have ec := hcv _ rt
      subst ec
      obtain ⟨ox, od, J, _⟩ := exc_inst (v := .non) (nm := "") (d := .non) (fd := "") (y := .non) I eF h1 h2
      exact PySem.W.kia_one (PySem.W.kitx_exc A.cl A.x.ga A.x.gg A.x.exC A.hc A.hn A.ht A.hm) I.kIn J e (fun z => nomatch z) fun tk => ⟨.bl b, H, I.kept (t' := tk) fun _ _ z => z, rfl, q⟩
def isE (tb : Addr → Option Bool) : D → Option D
  | .exc C _ _ => (tb C).map .bl
  | _ => none
theorem re_isX {x : Str} {p p2 : Pos} {c : V} {cv : Value} {tb : Addr → Option Bool} (htb : ∀ C b, tb C = some b → ExA X.K C ∧ PySem.W.kitOne X.K (.ref C) cv = some b) (hc : PE X (.Name x p2) (tC c)) (hcv : ∀ u, RelV c u → u = cv) (he : RE X W e f) (hm : X.mg "isinstance" = none) (hg : Gl X "isinstance" := by rfl)
    (h1 : starEach [e, .Name x p2] X.env = (false, eval e X.env) :: starEach [.Name x p2] X.env := by rfl) (h2 : starEach [.Name x p2] X.env = (false, eval (.Name x p2) X.env) :: starEach [] X.env := by rfl)
    (hpl : (backTo pos (starEach [.Name x p2] X.env)).any (·.1) = false := by rfl) : RE X W (.Call (.Name "isinstance" p) [e, .Name x p2] [] pos) (mUn (isE tb) f) := by
  obtain ⟨u, u1, u2⟩ := he
  refine ⟨_, pe_callB call_isX hg hm (by decide +kernel) (pa_cons u1 (pa_cons hc pa_nil h2) h1) (by decide) (by decide) h1 hpl, fun B st F σ H Q r pp => ?_⟩
  refine u2 B st F σ H _ r (PostG.bind pp fun d st1 v F1 H1 e1 r1 a1 p1 => ?_)
  cases hz : isE tb d with
  | none => rw [hz] at p1; exact p1.elim
  | some z =>
    rw [hz] at p1
    cases a1 with
    | exc h1 h2 h3 h4 h5 =>
      rename_i a C dx fs nm y d
      simp only [isE] at hz
      cases hb : tb C with
      | none => rw [hb] at hz; cases hz
      | some b =>
        rw [hb] at hz
        cases hz
        obtain ⟨A, hk⟩ := htb C b hb
        exact ⟨a, C, dx, fs, c, cv, b, F1, rfl, r1.ext, h1, h2, hcv, A, hk, p1 _ F1 H1 (Same.refl _) r1 (.bl b)⟩
    | _ => cases hz
/-- isinstance(e, an own class) -/
theorem re_isXo {x : Str} {p p2 : Pos} {C0 : Addr} {tb : Addr → Option Bool} (hx : X.mg x = some (.ref C0)) (htb : ∀ C b, tb C = some b → ExA X.K C ∧ PySem.W.kitOne X.K (.ref C) (.ref C0) = some b) (he : RE X W e f) (hm : X.mg "isinstance" = none) (hg : Gl X "isinstance" := by rfl) (hgx : Gl X x := by rfl)
    (hd : (x == ("__debug__" : Str)) = false := by decide)
    (h1 : starEach [e, .Name x p2] X.env = (false, eval e X.env) :: starEach [.Name x p2] X.env := by rfl) (h2 : starEach [.Name x p2] X.env = (false, eval (.Name x p2) X.env) :: starEach [] X.env := by rfl)
    (hpl : (backTo pos (starEach [.Name x p2] X.env)).any (·.1) = false := by rfl) : RE X W (.Call (.Name "isinstance" p) [e, .Name x p2] [] pos) (mUn (isE tb) f) :=
  re_isX (c := .ref C0) htb (pe_glob hgx hx rfl hd) (fun u r => r) he hm hg h1 h2 hpl
theorem re_isXb {x : Str} {T : String} {p p2 : Pos} {tb : Addr → Option Bool} (hx : X.mg x = none) (hv : bootBuiltins x = some (.type T)) (htb : ∀ C b, tb C = some b → ExA X.K C ∧ PySem.W.kitOne X.K (.ref C) (.type T) = some b) (he : RE X W e f) (hm : X.mg "isinstance" = none) (hg : Gl X "isinstance" := by rfl) (hgx : Gl X x := by rfl)
    (hn : x ≠ "__name__" := by decide) (hd : (x == ("__debug__" : Str)) = false := by decide)
    (h1 : starEach [e, .Name x p2] X.env = (false, eval e X.env) :: starEach [.Name x p2] X.env := by rfl) (h2 : starEach [.Name x p2] X.env = (false, eval (.Name x p2) X.env) :: starEach [] X.env := by rfl)
    (hpl : (backTo pos (starEach [.Name x p2] X.env)).any (·.1) = false := by rfl) : RE X W (.Call (.Name "isinstance" p) [e, .Name x p2] [] pos) (mUn (isE tb) f) :=
  re_isX (c := .ty T) htb (pe_bltn (v := .ty T) hgx hx hv rfl hn hd) (fun u r => r) he hm hg h1 h2 hpl
/-! ### raise -/
def mRaise (nm : Str) (f : MS → Out D) : MS → OutS := fun st => (f st).toS fun d st1 => .err nm d st1
theorem rs_raise {k : Nat} {x : Str} {C : Addr} {p2 : Pos} (hc : X.calm = true) (tk : Takes X W) (M : MkE X.prog X.w X.K X.mg X.base k x C x) (hr : Room (k + 1) X.A) (he : RE X W e f) (hg : Gl X x := by rfl)
    (hdb : (x == ("__debug__" : Str)) = false := by decide) (hs : starEach [e] X.env = (false, eval e X.env) :: starEach [] X.env := by rfl) : RS X W (.Raise (some (.Call (.Name x p) [e] [] pos)) none p2) (mRaise x f) := by
  obtain ⟨t, t1, t2⟩ := he
  obtain ⟨fI, fd, fs, ok, F1, okC, hb, iC, tI, hnm, hpl⟩ := M.ex
  refine ⟨_, ps_raise hc tk (pmk_oex (pos := pos) (p := p) M.o iC tI F1 hr hb .nil passL hg M.g (pa_cons t1 pa_nil hs) hdb hs rfl), fun B st F σ H D' r pp => ?_⟩
  refine t2 B st F σ H _ r (PostS.toS pp fun d st1 v F1 H1 e1 r1 a1 p1 => ?_)
  refine ⟨by simp, fun a ha => ?_⟩
  refine ⟨a, C, v, rfl, okC, upd_same, fun dx H' hdx hne hH => ⟨rfl, dx, fs v, ?_, ?_, ?_, ?_⟩⟩
  · rw [hH, upd_same]
  · rw [hH, upd_ne hne, upd_same]
  · rw [upd_ne hne] at hdx; exact hdx
  · rw [upd_ne hne] at hdx
    have e : upd (del H' a) dx (.xd (fs v)) = upd H1 dx (.xd (fs v)) := by
      rw [hH]
      funext b
      by_cases h1 : b = dx
      · subst h1
        rw [upd_same, upd_same]
      · rw [upd_ne h1, upd_ne h1]
        by_cases h2 : b = a
        · subst h2
          rw [del_same, ha]
        · rw [del_ne h2, upd_ne h2, upd_ne h1, upd_ne h2]
    rw [e]
    have S1 := Stp.hid (o := .xd (fs v)) r1.ext hdx
    exact p1 _ _ σ F1 _ (Same.refl _) (r1.step S1) ⟨C, dx, fs v, v, M.g, rfl, rfl, upd_same, hnm v, hpl v, a1⟩
end
end MX

namespace MX
open PySem PySem.Spec L2
open PyProof.Rows hiding St
section
variable {X : Cx} {W : WX} {a b c d : Expr} {pos p : Pos} {fa fb fc fd : MS → Out D}
/-! ### a op b op' c op'' d -/
def tChain3 (r r' r'' : R2) (ta tb tc td : TE) : TE := fun σ H Q => ta σ H fun x H1 => tb σ H1 fun y H2 => r x y H2 fun z H3 => ∃ k, z = .bl k ∧
  (if k = true then tc σ H3 fun w H4 => r' y w H4 fun z' H5 => ∃ k', z' = .bl k' ∧ (if k' = true then td σ H5 fun v H6 => r'' w v H6 Q else Q (.bl false) H5) else Q (.bl false) H3)
theorem pe_chain3 {ta tb tc td : TE} {op op' op'' : CmpOp} {r r' r'' : R2} (ho : OpR X (compareOp op) r) (ho' : OpR X (compareOp op') r') (ho'' : OpR X (compareOp op'') r'') (ha : PE X a ta) (hb : PE X b tb) (hc : PE X c tc) (hd : PE X d td)
    (hm : lastMarks [op, op', op''] [b, c, d] = false := by with_unfolding_all rfl) : PE X (.Compare a [op, op', op''] [b, c, d] pos) (tChain3 r r' r'' ta tb tc td) := by
  refine ⟨fun pins s σ H Q I h => ?_⟩
  refine Compare_chain (thn (ha.run pins s σ H _ I h) fun v s1 ⟨x, H1, I1, r1, q1⟩ => chain_link (thn (hb.run pins s1 σ H1 _ I1 q1) fun u s2 ⟨y, H2, I2, r2, q2⟩ =>
    thn (ho pins s2 σ H2 x y v u _ I2 r1 r2 q2) fun d s3 ⟨z, H3, I3, r3, k, e, q3⟩ => ?_)) hm
  subst e
  cases r3
  refine wpAny_truthy_bool ?_
  cases k with
  | false => exact ite_ff ⟨.bl false, H3, I3, rfl, q3⟩
  | true =>
    refine ite_tt (chain_link (thn (hc.run pins s3 σ H3 _ I3 q3) fun w' s4 ⟨z', H4, I4, r4, q4⟩ => thn (ho' pins s4 σ H4 y z' u w' _ I4 r2 r4 q4) fun d s5 ⟨z5, H5, I5, r5, k', e, q5⟩ => ?_))
    subst e
    cases r5
    refine wpAny_truthy_bool ?_
    cases k' with
    | false => exact ite_ff ⟨.bl false, H5, I5, rfl, q5⟩
    | true => exact ite_tt (chain_last (thn (hd.run pins s5 σ H5 _ I5 q5) fun w6 s6 ⟨z6, H6, I6, r6, q6⟩ => ho'' pins s6 σ H6 z' z6 w' w6 Q I6 r4 r6 q6))
def mChain3 (g g' g'' : D → D → Option D) (fa fb fc fd : MS → Out D) : MS → Out D := fun st => (fa st).bind fun x st1 => (fb st1).bind fun y st2 => (lift (g x y) st2).bind fun z st3 => match z with
  | .bl true => (fc st3).bind fun w st4 => (lift (g' y w) st4).bind fun z' st5 => match z' with
    | .bl true => (fd st5).bind fun v st6 => lift (g'' w v) st6
    | .bl false => .ok (.bl false) st5
    | _ => .stuck
  | .bl false => .ok (.bl false) st3
  | _ => .stuck
theorem re_chain3 {op op' op'' : CmpOp} {g g' g'' : D → D → Option D} (ho : OpD X (compareOp op) g) (ho' : OpD X (compareOp op') g') (ho'' : OpD X (compareOp op'') g'') (ha : RE X W a fa) (hb : RE X W b fb) (hc : RE X W c fc) (hd : RE X W d fd)
    (hm : lastMarks [op, op', op''] [b, c, d] = false := by with_unfolding_all rfl) : RE X W (.Compare a [op, op', op''] [b, c, d] pos) (mChain3 g g' g'' fa fb fc fd) := by
  obtain ⟨r2, o1, o2⟩ := ho
  obtain ⟨r3, o3, o4⟩ := ho'
  obtain ⟨r4, o5, o6⟩ := ho''
  obtain ⟨t, h1, h2⟩ := ha
  obtain ⟨u, g1, g2⟩ := hb
  obtain ⟨v, k1, k2⟩ := hc
  obtain ⟨w, l1, l2⟩ := hd
  refine ⟨_, pe_chain3 o1 o3 o5 h1 g1 k1 l1 hm, fun B st F σ H Q r p => ?_⟩
  refine h2 B st F σ H _ r (PostG.bind p fun d1 st1 v1 F1 H1 e1 r1 a1 p1 => ?_)
  refine g2 B st1 F1 σ H1 _ r1 (PostG.bind p1 fun d2 st2 v2 F2 H2 e2 r2 a2 p2 => ?_)
  cases hz : g d1 d2 with
  | none => rw [hz] at p2; exact p2.elim
  | some z =>
    rw [hz] at p2
    refine o2 F2 H2 v1 v2 d1 d2 z _ r2.ext (At.mono e2 a1) a2 hz fun w3 F3 H3 s a3 => ?_
    cases a3 with
    | bl k =>
      refine ⟨k, rfl, ?_⟩
      cases k with
      | false => exact iteF (p2 _ F3 H3 s.f (r2.step s) (.bl false))
      | true =>
        refine iteT ?_
        have p3 := PostG.mono s.f p2
        refine k2 B st2 F3 σ H3 _ (r2.step s) (PostG.bind p3 fun d4 st4 v4 F4 H4 e4 r4 a4 p4 => ?_)
        cases hz4 : g' d2 d4 with
        | none => rw [hz4] at p4; exact p4.elim
        | some z4 =>
          rw [hz4] at p4
          refine o4 F4 H4 v2 v4 d2 d4 z4 _ r4.ext (At.mono (s.f.trans e4) a2) a4 hz4 fun w5 F5 H5 s5 a5 => ?_
          cases a5 with
          | bl k' =>
            refine ⟨k', rfl, ?_⟩
            cases k' with
            | false => exact iteF (p4 _ F5 H5 s5.f (r4.step s5) (.bl false))
            | true =>
              refine iteT ?_
              have p5 := PostG.mono s5.f p4
              refine l2 B st4 F5 σ H5 _ (r4.step s5) (PostG.bind p5 fun d6 st6 v6 F6 H6 e6 r6 a6 p6 => ?_)
              cases hz6 : g'' d4 d6 with
              | none => rw [hz6] at p6; exact p6.elim
              | some z6 =>
                rw [hz6] at p6
                refine o6 F6 H6 v4 v6 d4 d6 z6 _ r6.ext (At.mono (s5.f.trans e6) a4) a6 hz6 fun w7 F7 H7 s7 a7 => ?_
                exact p6 w7 F7 H7 s7.f (r6.step s7) a7
          | _ => exact p4.elim
    | _ => exact p2.elim
/-! ### f() -/
def mCall0 (mf : MF) : MS → Out D := fun st => match mf [] with
  | .ok d _ => .ok d st
  | .err c d _ => .err c d st
  | .stuck => .stuck
theorem re_call0 {x : Str} {k : Nat} {fa' : Addr} {fd : FuncData} {ps : List Str} {mf : MF} (FF : FnOk X.prog X.w X.K X.mg X.base (L2.CX X.prog X.w) k fa' fd ps (spM X.K X.mg mf)) (hr : Room k X.A) (hm : X.mg x = some (.ref fa'))
    (hk : PySem.W.keepIn X.K (.ref fa') = true) (hb : Binds X.K fd ps []) (tk : Takes X W) (hg : Gl X x := by rfl) (hdb : (x == ("__debug__" : Str)) = false := by decide) : RE X W (.Call (.Name x p) [] [] pos) (mCall0 mf) := by
  refine ⟨tCallSD (spM X.K X.mg mf) [] (fun σ => WE W σ) tNil, ⟨fun pins s σ H Q I h => ?_⟩, fun B st F σ H Q r pp => ?_⟩
  · refine wpAny_Call_Name_kw (ld_glob I hg hm ?_ hdb)
    exact PySem.W.callWith_K0 I.kIn hk (run_fnSD (us := []) FF hr hb .nil (passAt tk σ) I .nil h)
  · refine ⟨F, [], [], ⟨Same.refl F, r.ext, fun _ _ q _ => q, fun _ q => q, fun _ _ n => n, rfl, fun i d h => by simp at h, fun i b d h => by simp at h, fun i d h => by simp at h, fun i j b d b' d' a h => by simp at h⟩, ?_⟩
    have back : ∀ {F' H' : Hp} {ss : List Slot}, Rel X.K ⟨F, H, [], []⟩ F' ss [] H' → Ex F F' → Rel X.K B F' st σ H' := fun rc e => call_end (as := []) (vs := []) (I := []) r (fun a h => by cases h) e (fun j i h => by cases h) rc
    unfold mCall0 at pp
    cases hmf : mf [] with
    | stuck => rw [hmf] at pp; exact pp
    | ok d ss' =>
      rw [hmf] at pp
      exact fun v F' H' e2 rc' a2 => pp v F' H' e2 (back rc' e2) a2
    | err cc d ss' =>
      rw [hmf] at pp
      exact fun cls dx F' H' e2 rc' a2 => pp cls dx F' H' e2 (back rc' e2) a2
end
/-! ### makers: what the top has written -/
def inCls (s : Stmt) (i : Nat) : Stmt := match s with
  | .ClassDef _ _ _ body _ _ _ _ _ _ _ => body.getD i (.Pass ⟨0, 0, 0, 0⟩)
  | _ => .Pass ⟨0, 0, 0, 0⟩
def fileB (P : Program) (K : PySem.W.Frag) (c : Addr) : Bool := match (K.lookup c : Option Obj) with
  | some ⟨_, _, .fields vs, _⟩ => (match (vs[2]? : Option Value) with
    | some (Value.str file _) => ((P.main.file : Str) == file)
    | _ => false)
  | _ => false
def cellB (K : PySem.W.Frag) (cc D : Addr) : Bool := match (K.lookup cc : Option Obj) with
  | some ⟨_, _, .cell (some (.ref D')), _⟩ => decide (D' = D)
  | _ => false
/-- what is asked of an own error's class besides its text: C0 the base class -/
def errB (P : Program) (K : PySem.W.Frag) (qual : Str) (C f cc c C0 : Addr) : Bool :=
  decide (PySem.W.findIn K (.ref C) "__setattr__" = some (some (.builtin "object.__setattr__"))) && (decide (PySem.W.subIn K (.ref C) (.type "BaseException") = some true) && (decide (PySem.W.typeIn K (.ref C) = some (.type "type")) && (PySem.W.keepIn K (.ref C) &&
  (decide (PySem.W.findIn K (.ref C) "name" = some none) && (decide (PySem.W.findIn K (.ref C) "place" = some none) && (decide (PySem.W.subIn K (.ref C) (.type "ValueError") = some true) && (PySem.W.isClsIn K C && (decide (PySem.W.typeIn K (.ref f) = some (.type "function")) && (PySem.W.fnIn K f && (PySem.W.keepIn K (.ref f) &&
  (PySem.W.codeIn K (.ref c) qual && (fileB P K c && (cellB K cc C && (decide (PySem.W.nsIn K PySem.cStatics "thirdparty.any" = some none) && (!(P.main.scope.names.lookup ("super" : Str)).isSome &&
  (decide (PySem.W.mroIn K C (.ref C0) = some true) && decide (PySem.W.ks_superIn K C C0 "__init__" = some (some (.builtin "ValueError.__init__")))))))))))))))))))
def subB (K : PySem.W.Frag) (C f0 : Addr) : Bool := decide (PySem.W.mroIn K C (.ref C) = some true) && (decide (PySem.W.ks_superIn K C C "__init__" = some (some (.ref f0))) && (decide (PySem.W.typeIn K (.ref f0) = some (.type "function")) && PySem.W.fnIn K f0))
/-- .. its fields are read, it is asked by isinstance -/
def exaB (K : PySem.W.Frag) (C : Addr) : Bool :=
  xfB K C && (decide (PySem.W.findIn K (.ref C) "name" = some none) && (decide (PySem.W.findIn K (.ref C) "place" = some none) && (decide (PySem.W.findIn K (.ref C) "__class__" = some (some (.builtin "object.__class__"))) && (decide (PySem.W.specialIn K (.builtin "object.__class__") "__get__" = some (some (.builtin "getset_descriptor.__get__"))) &&
  (decide (PySem.W.takesIn K (.builtin "object.__class__") = some true) && (decide (PySem.W.mroIn K C (.type "object") = some true) && PySem.W.isClsIn K C))))))
section
variable {P : Program} {w : World} {K : PySem.W.Frag} {mg : Str → Option Value} {base : Heap} {C f cc c C0 f0 : Addr} {qual x : Str} {st : Stmt} {fd : FuncData}
theorem exa_by (h : exaB K C = true) : ExA K C := by
  unfold exaB at h
  simp only [Bool.and_eq_true, decide_eq_true_eq] at h
  obtain ⟨h1, h2, h3, h4, h5, h6, h7, h8⟩ := h
  exact ⟨xfB_ok h1, h2, h3, h4, h5, h6, h7, h8⟩
structure ErrT (P : Program) (K : PySem.W.Frag) (qual : Str) (st : Stmt) (C f cc c C0 : Addr) (fd : FuncData) : Prop where
  I : IFun P K "__init__" qual st f C cc c fd
  E : ErrC K C
  i : PySem.W.findIn K (.ref C) "__init__" = some (some (.ref f))
  t : PySem.W.typeIn K (.ref f) = some (.type "function")
  m : PySem.W.mroIn K C (.ref C0) = some true
  s : PySem.W.ks_superIn K C C0 "__init__" = some (some (.builtin "ValueError.__init__"))
theorem errt_mk {oc kV doc pm ct : Value} {od an : Option Addr} {osl : Array (Option Value)} {nm q : Str} {N : Addr} {bs bm : List Value} {sn : List Str} {sub : List Value} {ab : Bool} {col : Option Bool} {dd : Option Addr} {k0 k1 k2 k3 k5 : Option Value}
    (i : PySem.W.findIn K (.ref C) "__init__" = some (some (.ref f)))
    (l : K.lookup f = some ⟨oc, od, .func (PySem.W.fnX "__init__" qual (defArgs st) (defBody st) (defScope st) [("__class__", cc)] .none kV doc pm an (.ref c) ct), osl⟩)
    (o : K.lookup C = some (excClassObj nm q C N bs bm true sn sub ab col dd k0 k1 k2 k3 k5 "ValueError.__new__")) (r : PySem.HandSPX.refsVE bm = true) (b : errB P K qual C f cc c C0 = true) :
    ErrT P K qual st C f cc c C0 (PySem.W.fnX "__init__" qual (defArgs st) (defBody st) (defScope st) [("__class__", cc)] .none kV doc pm an (.ref c) ct) := by
  unfold errB at b
  simp only [Bool.and_eq_true, decide_eq_true_eq, Bool.not_eq_true'] at b
  obtain ⟨h1, h2, h3, h4, h5, h6, h7, h8, h9, h10, h11, h12, h13, h14, h15, h16, h17, h18⟩ := b
  refine ⟨⟨⟨oc, od, kV, doc, pm, an, ct, osl, rfl, l⟩, h12, ?_, ?_, h11, h8, h16, h15⟩, ⟨⟨⟨nm, q, N, bs, bm, sn, sub, ab, col, dd, k0, k1, k2, k3, k5, o, r⟩, h1, h2, h3, h4⟩, h5, h6, h7, h8⟩, i, h9, h17, h18⟩
  · unfold cellB at h14
    split at h14
    · rename_i e
      rw [decide_eq_true_eq] at h14
      subst h14
      exact ⟨_, _, _, e⟩
    · cases h14
  · unfold fileB at h13
    split at h13
    · rename_i e
      split at h13
      · rename_i e2
        exact ⟨_, _, _, _, _, _, e, e2, h13⟩
      · cases h13
    · cases h13
theorem ErrT.bind (T : ErrT P K qual st C f cc c C0 fd) (h : ∀ (kV doc pm : Value) (an : Option Addr) (ct : Value) (us : List Value), us.length = 2 → bindArgs (PySem.W.fnX "__init__" qual (defArgs st) (defBody st) (defScope st) [("__class__", cc)] .none kV doc pm an (.ref c) ct) ⟨us, []⟩ = pure ((["self", "place"] : List Str).zip us)) : Binds K fd ["self", "place"] [] :=
  T.I.binds (ps := ["self", "place"]) h
theorem mkE_base {k : Nat} {fs : V → List (Str × V)} {nm : Str} (T : ErrT P K qual st C f cc c C fd) (g : mg x = some (.ref C)) (F : FnOk P w K mg base (L2.CX P w) k f fd ["self", "place"] (spI (okB K C) fs)) (hb : Binds K fd ["self", "place"] [])
    (h1 : ∀ y, (fs y).lookup ("name" : Str) = some (.str nm)) (h2 : ∀ y, (fs y).lookup ("place" : Str) = some y) : MkE P w K mg base k x C nm :=
  ⟨⟨f, fd, fs, okB K C, F, ⟨T.E, T.m, T.s⟩, hb, T.i, T.t, h1, h2⟩, T.E.o, g⟩
theorem mkE_sub {k : Nat} {fs : V → List (Str × V)} {nm : Str} (T : ErrT P K qual st C f cc c C0 fd) (g : mg x = some (.ref C)) (F : FnOk P w K mg base (L2.CX P w) k f fd ["self", "place"] (spI (fun C' => C' = C) fs)) (hb : Binds K fd ["self", "place"] [])
    (h1 : ∀ y, (fs y).lookup ("name" : Str) = some (.str nm)) (h2 : ∀ y, (fs y).lookup ("place" : Str) = some y) : MkE P w K mg base k x C nm :=
  ⟨⟨f, fd, fs, _, F, rfl, hb, T.i, T.t, h1, h2⟩, T.E.o, g⟩
theorem subB_by (h : subB K C f0 = true) : PySem.W.mroIn K C (.ref C) = some true ∧ PySem.W.ks_superIn K C C "__init__" = some (some (.ref f0)) ∧ PySem.W.typeIn K (.ref f0) = some (.type "function") ∧ PySem.W.fnIn K f0 = true := by
  unfold subB at h
  simp only [Bool.and_eq_true, decide_eq_true_eq] at h
  exact h
end
end MX

namespace MX
open PySem PySem.Spec L2
open PyProof.Rows hiding St
/-! ### a law at its script -/
def spL (K : PySem.W.Frag) : Sp := fun vs H Q _ => ∃ (a : Addr) (ns : List Int), vs = [.ref a] ∧ ns.length ≤ 63 ∧ SqL K H a (ns.map V.int) ∧ ∀ H', Q (.bl true) H'
theorem spL_of {K : PySem.W.Frag} {mg : Str → Option Value} {mf : MF} {vs : List V} {H : Hp} {Q : VK} {E : XK} (law : ∀ ns : List Int, ns.length ≤ 63 → ∃ st, mf [.val (.scr (ns.map D.int))] = .ok (.bl true) st) (q : spL K vs H Q E) : spM K mg mf vs H Q E := by
  obtain ⟨a, ns, rfl, hl, hs, q⟩ := q
  obtain ⟨st, e⟩ := law ns hl
  refine ⟨H, [], [.val (.scr (ns.map D.int))], ⟨Same.refl H, Same.refl H, fun _ _ q _ => q, fun _ q => q, fun _ _ n => n, rfl, fun i d h => ?_, fun i b d h => ?_, fun i d h => ?_, fun i j b d b' d' a h => ?_⟩, ?_⟩
  · cases i with
    | zero => cases h; exact ⟨.ref a, rfl, .scr hs (ats_ints ns)⟩
    | succ i => cases h
  · cases i with
    | zero => cases h
    | succ i => cases h
  · cases i with
    | zero => cases h
    | succ i => cases h
  · cases i with
    | zero => cases h
    | succ i => cases h
  · rw [e]
    intro v F' H' _ _ av
    cases av
    exact q H'
theorem walk_mx {l : PySem.W.OpenLaw} {q : Program} {loose : List Str} {XP : (Str → Option Value) → Heap → Prop} {YP : World → Heap → Prop} {d : DefRec} {K : Params → PySem.W.Frag} (k : Nat) (hn : l.most = some 63) (hdf : d.params.defaults = []) (hr : Room k callerA)
    (hY : ∀ (w : World) (h : Heap), YP w h → (K w.params).In h)
    (F : ∀ (w : World) (mg : Str → Option Value) (fa : Addr) (h : Heap), (K w.params).In h → h.Ns mainGlobals mg → mg d.name = some (.ref fa) →
      ∃ fd : FuncData, (∀ (s : Shared) (u : Value), BindsTo s fd ⟨[u], []⟩ [("script", u)]) ∧ ∀ base : Heap, (K w.params).In base → base.Ns mainGlobals mg → FnOk l.prog w (K w.params) mg base (L2.CX l.prog w) k fa fd ["script"] (spL (K w.params))) :
    PySem.W.WalkO q loose XP YP l.row.toRowW d [] (fun f vs => PySem.call f vs) :=
  L2.walk_of (n := 63) (k := k) (x := "script") (CX := fun w => L2.CX l.prog w) (sp := fun w => spL (K w.params)) hn (by decide) hdf hr hY F (fun w H a ns hl _ hs => ⟨a, ns, rfl, hl, hs, fun _ => rfl⟩) fun w H s e s' h => by
    obtain ⟨_, _, _, _, _, _, _, _, _, _, _, _, z⟩ := h
    exact z
end MX

namespace MX
open PySem PySem.Spec L2
open PyProof.Rows hiding St
/-! ### plain reasoning over mirrors -/
def Ok {α : Type} (o : Out α) (P : α → MS → Prop) : Prop := match o with
  | .ok a st => P a st
  | _ => False
def OkS (o : OutS) (N : MS → Prop) (R : D → MS → Prop) : Prop := match o with
  | .nx st => N st
  | .ret d st => R d st
  | _ => False
theorem Ok.ex {α : Type} {o : Out α} {P : α → MS → Prop} (h : Ok o P) : ∃ a st, o = .ok a st ∧ P a st := by
  cases o with
  | ok a st => exact ⟨a, st, rfl, h⟩
  | _ => exact h.elim
theorem Ok.mono {α : Type} {o : Out α} {P Q : α → MS → Prop} (h : Ok o P) (k : ∀ a st, P a st → Q a st) : Ok o Q := by
  cases o with
  | ok a st => exact k _ _ h
  | _ => exact h
theorem OkS.mono {o : OutS} {N N' : MS → Prop} {R R' : D → MS → Prop} (h : OkS o N R) (k : ∀ st, N st → N' st) (k' : ∀ d st, R d st → R' d st) : OkS o N' R' := by
  cases o with
  | nx st => exact k _ h
  | ret d st => exact k' _ _ h
  | _ => exact h
theorem ok_ok {α : Type} (a : α) (st : MS) (P : α → MS → Prop) : Ok (.ok a st) P = P a st := rfl
theorem ok_bind {α β : Type} (o : Out α) (k : α → MS → Out β) (P : β → MS → Prop) : Ok (o.bind k) P = Ok o fun a st => Ok (k a st) P := by cases o <;> rfl
theorem ok_lift {α : Type} (z : Option α) (st : MS) (P : α → MS → Prop) : Ok (lift z st) P = ∃ a, z = some a ∧ P a st := by
  cases z with
  | none => simp [lift, Ok]
  | some a => simp [lift, Ok]
theorem ok_ite {α : Type} {c : Prop} [Decidable c] (a b : Out α) (P : α → MS → Prop) : Ok (if c then a else b) P = if c then Ok a P else Ok b P := by split <;> rfl
theorem okS_nx (st : MS) (N : MS → Prop) (R : D → MS → Prop) : OkS (.nx st) N R = N st := rfl
theorem okS_ret (d : D) (st : MS) (N : MS → Prop) (R : D → MS → Prop) : OkS (.ret d st) N R = R d st := rfl
theorem okS_toS {α : Type} (o : Out α) (k : α → MS → OutS) (N : MS → Prop) (R : D → MS → Prop) : OkS (o.toS k) N R = Ok o fun a st => OkS (k a st) N R := by cases o <;> rfl
theorem okS_seq (o : OutS) (k : MS → OutS) (N : MS → Prop) (R : D → MS → Prop) : OkS (o.seq k) N R = OkS o (fun st => OkS (k st) N R) R := by cases o <;> rfl
theorem okS_ite {c : Prop} [Decidable c] (a b : OutS) (N : MS → Prop) (R : D → MS → Prop) : OkS (if c then a else b) N R = if c then OkS a N R else OkS b N R := by split <;> rfl
theorem ok_def {n N : Nat} {g : MS → OutS} {ss : List Slot} {P : D → List Slot → Prop} (hl : ss.length = n) (h : OkS (g (ss ++ List.replicate (N - n) .no)) (fun st => P .non (fin n st)) fun d st => P d (fin n st)) : Ok (mDef n N g ss) P := by
  unfold mDef
  rw [if_pos hl]
  cases hg : g (ss ++ List.replicate (N - n) .no) with
  | nx st => rw [hg] at h; exact h
  | ret d st => rw [hg] at h; exact h
  | _ => rw [hg] at h; exact h.elim
/-! calls by values alone -/
theorem ok_call {mf : MF} {fa : MS → Out (List Arg)} {st : MS} {P : D → MS → Prop} : Ok (mCall mf fa st) P = Ok (fa st) fun as st1 => cntOwn as ≤ 1 ∧ ∃ ss, slotsOf st1 as = some ss ∧ Ok (mf ss) fun d ss' => P d (putBack st1 as ss') := by
  unfold mCall
  rw [ok_bind]
  congr 1
  funext as st1
  by_cases h : cntOwn as ≤ 1
  · rw [if_pos h]
    cases hs : slotsOf st1 as with
    | none => simp [Ok, hs]
    | some ss =>
      dsimp only
      cases hm : mf ss with
      | ok d ss' => simp [Ok, hs, hm, h]
      | err c d ss' => simp [Ok, hs, hm, h]
      | stuck => simp [Ok, hs, hm, h]
  · rw [if_neg h]
    simp [Ok, h]
theorem ok_gVal (f : MS → Out D) (g : MS → Out (List Arg)) (st : MS) (P : List Arg → MS → Prop) : Ok (gVal f g st) P = Ok (f st) fun d st1 => Ok (g st1) fun as st2 => P (.v d :: as) st2 := by
  unfold gVal
  simp only [ok_bind, ok_ok]
theorem ok_gNil (st : MS) (P : List Arg → MS → Prop) : Ok (gNilM st) P = P [] st := rfl
theorem ok_gOwn (i : Nat) (g : MS → Out (List Arg)) (st : MS) (P : List Arg → MS → Prop) : Ok (gOwn i g st) P = (isOwn st i = true ∧ Ok (g st) fun as st2 => P (.o i :: as) st2) := by
  unfold gOwn
  by_cases h : isOwn st i = true
  · rw [if_pos h, ok_bind]
    simp only [ok_ok, h, true_and]
  · rw [if_neg h]
    simp [Ok, h]
/-- f(x), x a value -/
theorem ok_call1 {mf : MF} {f : MS → Out D} {st : MS} {P : D → MS → Prop} : Ok (mCall mf (gVal f gNilM) st) P = Ok (f st) fun d st1 => Ok (mf [.val d]) fun r _ => P r st1 := by
  rw [ok_call, ok_gVal]
  simp only [ok_gNil, cntOwn, slotsOf, Option.map_some, Nat.zero_le, true_and, Option.some.injEq, exists_eq_left', putBack, ownArg, Option.map_none]
theorem ok_call2 {mf : MF} {f g : MS → Out D} {st : MS} {P : D → MS → Prop} : Ok (mCall mf (gVal f (gVal g gNilM)) st) P = Ok (f st) fun d st1 => Ok (g st1) fun e st2 => Ok (mf [.val d, .val e]) fun r _ => P r st2 := by
  rw [ok_call, ok_gVal]
  simp only [ok_gVal, ok_gNil, cntOwn, slotsOf, Option.map_some, Nat.zero_le, true_and, Option.some.injEq, exists_eq_left', putBack, ownArg, Option.map_none]
/-- f(tape, x): the own list in slot i -/
theorem ok_callO {mf : MF} {i : Nat} {f : MS → Out D} {st : MS} {P : D → MS → Prop} {b : Bool} {ds : List D} (hi : st[i]? = some (.own b (.lst ds))) (hf : Ok (f st) fun d st1 => st1 = st ∧ Ok (mf [.own true (.lst ds), .val d]) fun r ss => ∃ ds' r1, ss = .own true (.lst ds') :: r1 ∧ P r (st.set i (.own b (.lst ds')))) :
    Ok (mCall mf (gOwn i (gVal f gNilM)) st) P := by
  rw [ok_call, ok_gOwn]
  refine ⟨by unfold isOwn; rw [hi], ?_⟩
  rw [ok_gVal]
  refine hf.mono fun d st1 h => ?_
  obtain ⟨rfl, h⟩ := h
  simp only [ok_gNil, cntOwn, slotsOf, hi, Option.map_some, Option.some.injEq, exists_eq_left']
  refine ⟨Nat.le_refl _, h.mono fun r ss hh => ?_⟩
  obtain ⟨ds', r1, rfl, hp⟩ := hh
  simpa [putBack, ownArg, hi] using hp
theorem ok_callO0 {mf : MF} {i : Nat} {st : MS} {P : D → MS → Prop} {b : Bool} {ds : List D} (hi : st[i]? = some (.own b (.lst ds))) (hf : Ok (mf [.own true (.lst ds)]) fun r ss => ∃ ds' r1, ss = .own true (.lst ds') :: r1 ∧ P r (st.set i (.own b (.lst ds')))) :
    Ok (mCall mf (gOwn i gNilM) st) P := by
  rw [ok_call, ok_gOwn]
  refine ⟨by unfold isOwn; rw [hi], ?_⟩
  simp only [ok_gNil, cntOwn, slotsOf, hi, Option.map_some, Option.some.injEq, exists_eq_left']
  refine ⟨Nat.le_refl _, hf.mono fun r ss hh => ?_⟩
  obtain ⟨ds', r1, rfl, hp⟩ := hh
  simpa [putBack, ownArg, hi] using hp
/-! loops -/
theorem okS_for {tg : D → MS → Option MS} {body : MS → OutS} {N : MS → Prop} {R : D → MS → Prop} (I : List D → MS → Prop) (hN : ∀ st, I [] st → N st)
    (step : ∀ d ds st, I (d :: ds) st → ∃ st1, tg d st = some st1 ∧ OkS (body st1) (fun st2 => I ds st2) R) : ∀ {ds : List D} {st : MS}, I ds st → OkS (forM tg body ds st) N R
  | [], st, h => hN st h
  | d :: ds, st, h => by
    obtain ⟨st1, e, h1⟩ := step d ds st h
    unfold forM
    rw [e]
    dsimp only
    cases hb : body st1 with
    | nx st2 => rw [hb] at h1; exact okS_for I hN step h1
    | ret d st2 => rw [hb] at h1; exact h1
    | _ => rw [hb] at h1; exact h1.elim
theorem ok_comp {vs : List Nat} {tg : D → MS → Option MS} {test : MS → Out Bool} {elt : MS → Out D} {P : List D → MS → Prop} (I : List D → List D → MS → Prop) (hN : ∀ acc st, I [] acc st → P acc st)
    (step : ∀ d ds acc st, I (d :: ds) acc st → ∃ s1, tg d (enter st vs) = some s1 ∧ Ok (test s1) fun k s2 => if k = true then Ok (elt s2) fun y s3 => acc.length < sizeLine ∧ I ds (acc ++ [y]) (leave st s3 vs) else I ds acc (leave st s2 vs)) :
    ∀ {ds acc : List D} {st : MS}, I ds acc st → Ok (compM vs tg test elt ds acc st) P
  | [], acc, st, h => hN acc st h
  | d :: ds, acc, st, h => by
    obtain ⟨s1, e, h1⟩ := step d ds acc st h
    unfold compM
    rw [e]
    dsimp only
    cases ht : test s1 with
    | ok k s2 =>
      rw [ht] at h1
      cases k with
      | false => exact ok_comp I hN step h1
      | true =>
        simp only [ok_ok, if_true] at h1
        dsimp only
        cases hy : elt s2 with
        | ok y s3 =>
          rw [hy] at h1
          obtain ⟨hl, h1⟩ := h1
          dsimp only
          rw [if_pos hl]
          exact ok_comp I hN step h1
        | _ => rw [hy] at h1; exact h1.elim
    | _ => rw [ht] at h1; exact h1.elim
/-- a comprehension that changes nothing: a filter, then a map -/
theorem ok_compP {vs : List Nat} {tg : D → MS → Option MS} {test : MS → Out Bool} {elt : MS → Out D} {P : List D → MS → Prop} {so : MS} (p : D → Bool) (f : D → D) {ds : List D} (hl : ds.length ≤ 1000)
    (step : ∀ d ∈ ds, ∃ s1, tg d (enter so vs) = some s1 ∧ Ok (test s1) fun k s2 => k = p d ∧ leave so s2 vs = so ∧ (p d = true → Ok (elt s2) fun y s3 => y = f d ∧ leave so s3 vs = so)) (h : P ((ds.filter p).map f) so) : Ok (compM vs tg test elt ds [] so) P := by
  refine ok_comp (fun rest acc st => st = so ∧ rest.length + acc.length ≤ 1000 ∧ (∀ d ∈ rest, d ∈ ds) ∧ acc ++ (rest.filter p).map f = (ds.filter p).map f) (fun acc st hI => ?_) (fun d rest acc st hI => ?_) ⟨rfl, by simpa using hl, fun d h => h, rfl⟩
  · obtain ⟨rfl, _, _, e⟩ := hI
    simp at e
    rw [e]
    exact h
  · obtain ⟨rfl, hc, hm, e⟩ := hI
    obtain ⟨s1, e1, h1⟩ := step d (hm d (by simp))
    refine ⟨s1, e1, h1.mono fun k s2 hk => ?_⟩
    obtain ⟨rfl, h2, h3⟩ := hk
    cases hp : p d with
    | true =>
      rw [if_pos rfl]
      refine (h3 hp).mono fun y s3 hy => ?_
      obtain ⟨rfl, h4⟩ := hy
      simp at hc
      refine ⟨by rw [sizeLine_eq]; omega, h4, by simp; omega, fun d' h' => hm d' (by simp [h']), ?_⟩
      rw [← e]
      simp [hp]
    | false =>
      rw [if_neg (by simp)]
      simp at hc
      refine ⟨h2, by omega, fun d' h' => hm d' (by simp [h']), ?_⟩
      rw [← e]
      simp [hp]
/-! ### the mirrors' parts, asked so -/
section
variable {α : Type} (f fa fb fc fe fj : MS → Out D) (g h : MS → OutS) (c c' : MS → Out Bool) (fs : MS → Out (List D)) (st : MS) (N : MS → Prop) (R : D → MS → Prop) (P : D → MS → Prop) (Pb : Bool → MS → Prop) (Pl : List D → MS → Prop)
@[simp] theorem w_ok (a : α) (Q : α → MS → Prop) : Ok (.ok a st) Q = Q a st := rfl
@[simp] theorem w_nx : OkS (.nx st) N R = N st := rfl
@[simp] theorem w_retS (d : D) : OkS (.ret d st) N R = R d st := rfl
@[simp] theorem w_bind {β : Type} (o : Out α) (k : α → MS → Out β) (Q : β → MS → Prop) : Ok (o.bind k) Q = Ok o fun a st => Ok (k a st) Q := ok_bind o k Q
@[simp] theorem w_lift (z : Option α) (Q : α → MS → Prop) : Ok (lift z st) Q = ∃ a, z = some a ∧ Q a st := ok_lift z st Q
@[simp] theorem w_mC (d : D) : Ok (mC d st) P = P d st := rfl
theorem w_mVar {i : Nat} {d : D} (hi : st[i]? = some (.val d)) : Ok (mVar i st) P = P d st := by unfold mVar; rw [hi]; rfl
@[simp] theorem w_mNil : Ok (mNil st) Pl = Pl [] st := rfl
@[simp] theorem w_mCons : Ok (mCons f fs st) Pl = Ok (f st) fun d st1 => Ok (fs st1) fun ds st2 => Pl (d :: ds) st2 := by simp [mCons]
@[simp] theorem w_mTup : Ok (mTup fs st) P = Ok (fs st) fun ds st1 => ds.length ≤ sizeLine ∧ P (.tup ds) st1 := by
  unfold mTup
  rw [ok_bind]
  congr 1
  funext ds st1
  split <;> simp [*, Ok]
@[simp] theorem w_mLst : Ok (mLst fs st) Pl = Ok (fs st) fun ds st1 => ds.length ≤ sizeLine ∧ Pl ds st1 := by
  unfold mLst
  rw [ok_bind]
  congr 1
  funext ds st1
  split <;> simp [*, Ok]
@[simp] theorem w_mLv : Ok (mLv fs st) P = Ok (fs st) fun ds st1 => P (.lst ds) st1 := by simp [mLv]
@[simp] theorem w_mBin (op : D → D → Option D) : Ok (mBin op fa fb st) P = Ok (fa st) fun x st1 => Ok (fb st1) fun y st2 => ∃ z, op x y = some z ∧ P z st2 := by simp [mBin]
@[simp] theorem w_mTst : Ok (mTst f st) Pb = Ok (f st) fun d st1 => ∃ k, d = .bl k ∧ Pb k st1 := by
  unfold mTst
  rw [ok_bind]
  congr 1
  funext d st1
  cases d <;> simp [Ok]
@[simp] theorem w_mChain (op op' : D → D → Option D) : Ok (mChain op op' fa fb fc st) P = Ok (fa st) fun x st1 => Ok (fb st1) fun y st2 => ∃ k, op x y = some (.bl k) ∧ if k = true then Ok (fc st2) fun w st4 => ∃ z, op' y w = some z ∧ P z st4 else P (.bl false) st2 := by
  unfold mChain
  simp only [ok_bind, ok_lift]
  congr 1
  funext x st1
  congr 1
  funext y st2
  apply propext
  constructor
  · rintro ⟨z, h1, h2⟩
    cases z with
    | bl k =>
      refine ⟨k, h1, ?_⟩
      cases k with
      | false => exact h2
      | true =>
        rw [if_pos rfl]
        simpa only [ok_bind, ok_lift] using h2
    | _ => exact h2.elim
  · rintro ⟨k, h1, h2⟩
    refine ⟨_, h1, ?_⟩
    cases k with
    | false => exact h2
    | true =>
      rw [if_pos rfl] at h2
      simpa only [ok_bind, ok_lift] using h2
@[simp] theorem w_mTru : Ok (mTru f st) Pb = Ok (f st) fun d st1 => ∃ k, d.truth = some k ∧ Pb k st1 := by simp [mTru]
@[simp] theorem w_mAndT : Ok (mAndT c c' st) Pb = Ok (c st) fun k st1 => if k = true then Ok (c' st1) Pb else Pb false st1 := by
  unfold mAndT
  rw [ok_bind]
  congr 1
  funext k st1
  rw [ok_ite]; rfl
@[simp] theorem w_mOrT : Ok (mOrT c c' st) Pb = Ok (c st) fun k st1 => if k = true then Pb true st1 else Ok (c' st1) Pb := by
  unfold mOrT
  rw [ok_bind]
  congr 1
  funext k st1
  rw [ok_ite]; rfl
@[simp] theorem w_mNotT : Ok (mNotT c st) Pb = Ok (c st) fun k st1 => Pb (!k) st1 := by simp [mNotT]
@[simp] theorem w_mAndV : Ok (mAndV fa fb st) P = Ok (fa st) fun d st1 => ∃ k, d.truth = some k ∧ if k = true then Ok (fb st1) P else P d st1 := by
  unfold mAndV
  simp only [ok_bind, ok_lift, ok_ite, ok_ok]
@[simp] theorem w_mOrV : Ok (mOrV fa fb st) P = Ok (fa st) fun d st1 => ∃ k, d.truth = some k ∧ if k = true then P d st1 else Ok (fb st1) P := by
  unfold mOrV
  simp only [ok_bind, ok_lift, ok_ite, ok_ok]
@[simp] theorem w_mNotV : Ok (mNotV f st) P = Ok (f st) fun d st1 => ∃ k, d.truth = some k ∧ P (.bl (!k)) st1 := by
  unfold mNotV
  simp only [ok_bind, ok_lift, ok_ok]
@[simp] theorem w_mIf : Ok (mIf c fa fb st) P = Ok (c st) fun k st1 => if k = true then Ok (fa st1) P else Ok (fb st1) P := by
  unfold mIf
  simp only [ok_bind, ok_ite]
@[simp] theorem w_mUn (op : D → Option D) : Ok (mUn op f st) P = Ok (f st) fun x st1 => ∃ z, op x = some z ∧ P z st1 := by simp [mUn]
@[simp] theorem w_mCB (op : List D → Option D) : Ok (mCB op fs st) P = Ok (fs st) fun x st1 => ∃ z, op x = some z ∧ P z st1 := by simp [mCB]
@[simp] theorem w_mSeq : OkS (mSeq g h st) N R = OkS (g st) (fun st => OkS (h st) N R) R := okS_seq _ _ _ _
@[simp] theorem w_mRet : OkS (mRet f st) N R = Ok (f st) R := by unfold mRet; rw [okS_toS]; rfl
@[simp] theorem w_mExpr : OkS (mExpr f st) N R = Ok (f st) fun _ st1 => N st1 := by unfold mExpr; rw [okS_toS]; rfl
@[simp] theorem w_mIfS : OkS (mIfS c g h st) N R = Ok (c st) fun k st1 => if k = true then OkS (g st1) N R else OkS (h st1) N R := by
  unfold mIfS
  rw [okS_toS]
  congr 1
  funext k st1
  exact okS_ite _ _ _ _
@[simp] theorem w_mAsg (tg : D → MS → Option MS) : OkS (mAsg f tg st) N R = Ok (f st) fun d st1 => ∃ st2, tg d st1 = some st2 ∧ N st2 := by
  unfold mAsg
  rw [okS_toS]
  congr 1
  funext d st1
  cases tg d st1 <;> simp [OkS]
@[simp] theorem w_tgName (i : Nat) (d : D) (st2 : MS) : (tgName i d st = some st2) = (st.set i (.val d) = st2) := by simp [tgName]
@[simp] theorem w_mOwn (i : Nat) : OkS (mOwn i fs st) N R = Ok (fs st) fun ds st1 => N (st1.set i (.own false (.lst ds))) := by unfold mOwn; rw [okS_toS]; rfl
@[simp] theorem w_mPar (i j : Nat) : OkS (mPar i j fs st) N R = Ok (fs st) fun ds st1 => ∃ d e, ds = [d, e] ∧ N ((st1.set i (.val d)).set j (.val e)) := by
  unfold mPar
  rw [okS_toS]
  congr 1
  funext ds st1
  cases ds with
  | nil => simp [OkS]
  | cons d ds =>
    cases ds with
    | nil => simp [OkS]
    | cons e ds =>
      cases ds with
      | nil => exact propext ⟨fun z => ⟨d, e, rfl, z⟩, fun ⟨d', e', h1, h2⟩ => by cases h1; exact h2⟩
      | cons _ _ => simp [OkS]
@[simp] theorem w_mRng1 : Ok (mRng1 fs st) Pl = Ok (fs st) fun ds st1 => ∃ j, ds = [.int j] ∧ rngOk j = true ∧ Pl (rngD 0 j.toNat) st1 := by
  unfold mRng1
  rw [ok_bind]
  congr 1
  funext ds st1
  apply propext
  constructor
  · intro h
    split at h
    · split at h
      · exact ⟨_, rfl, ‹_›, h⟩
      · exact h.elim
    · exact h.elim
  · rintro ⟨j, rfl, h1, h2⟩
    simp [h1, Ok, h2]
@[simp] theorem w_mRng2 : Ok (mRng2 fs st) Pl = Ok (fs st) fun ds st1 => ∃ i j, ds = [.int i, .int j] ∧ (rngOk i && rngOk j) = true ∧ Pl (rngD i (j - i).toNat) st1 := by
  unfold mRng2
  rw [ok_bind]
  congr 1
  funext ds st1
  apply propext
  constructor
  · intro h
    split at h
    · split at h
      · exact ⟨_, _, rfl, ‹_›, h⟩
      · exact h.elim
    · exact h.elim
  · rintro ⟨i, j, rfl, h1, h2⟩
    dsimp only
    rw [if_pos h1]
    exact h2
@[simp] theorem w_mItems : Ok (mItems f st) Pl = Ok (f st) fun d st1 => ∃ ds, d.items = some ds ∧ Pl ds st1 := by simp [mItems]
@[simp] theorem w_mFor (fi : MS → Out (List D)) (tg : D → MS → Option MS) (body : MS → OutS) : OkS (mFor fi tg body st) N R = Ok (fi st) fun ds st1 => OkS (forM tg body ds st1) N R := by unfold mFor; rw [okS_toS]
@[simp] theorem w_mComp (vs : List Nat) (fi : MS → Out (List D)) (tg : D → MS → Option MS) (test : MS → Out Bool) (elt : MS → Out D) : Ok (mComp vs fi tg test elt st) Pl = Ok (fi st) fun ds st1 => Ok (compM vs tg test elt ds [] st1) Pl := by unfold mComp; rw [ok_bind]
@[simp] theorem w_mSl (fl fu : MS → Out (Option Int)) : Ok (mSl f fl fu st) P = Ok (f st) fun d st1 => Ok (fl st1) fun lo st2 => Ok (fu st2) fun hi st3 => ∃ z, slD d lo hi = some z ∧ P z st3 := by simp [mSl]
@[simp] theorem w_mPart (Q : Option Int → MS → Prop) : Ok (mPart f st) Q = Ok (f st) fun d st1 => ∃ i, d = .int i ∧ Q (some i) st1 := by
  unfold mPart
  rw [ok_bind]
  congr 1
  funext d st1
  cases d <;> simp [Ok]
@[simp] theorem w_call1 (mf : MF) : Ok (mCall mf (gVal f gNilM) st) P = Ok (f st) fun d st1 => Ok (mf [.val d]) fun r _ => P r st1 := ok_call1
@[simp] theorem w_call2 (mf : MF) : Ok (mCall mf (gVal fa (gVal fb gNilM)) st) P = Ok (fa st) fun d st1 => Ok (fb st1) fun e st2 => Ok (mf [.val d, .val e]) fun r _ => P r st2 := ok_call2
@[simp] theorem w_call0 (mf : MF) : Ok (mCall0 mf st) P = Ok (mf []) fun r _ => P r st := by
  unfold mCall0
  cases mf [] <;> simp [Ok]
@[simp] theorem w_mLenSet : Ok (mLenSet f st) P = Ok (f st) fun d st1 => ∃ ds ks, d = .tup ds ∧ ds.length ≤ 4000 ∧ keysOf ds = some ks ∧ P (.int (dcnt ks)) st1 := by
  unfold mLenSet
  rw [ok_bind]
  congr 1
  funext d st1
  cases d with
  | tup ds =>
    apply propext
    dsimp only
    constructor
    · intro h
      split at h
      · rename_i h1
        rw [ok_lift] at h
        obtain ⟨a, h2, h3⟩ := h
        cases hk : keysOf ds with
        | none => rw [hk] at h2; cases h2
        | some ks => rw [hk] at h2; cases h2; exact ⟨ds, ks, rfl, h1, hk, h3⟩
      · exact h.elim
    · rintro ⟨ds', ks, h1, h2, h3, h4⟩
      cases h1
      rw [if_pos h2, ok_lift, h3]
      exact ⟨_, rfl, h4⟩
  | _ => simp [Ok]

@[simp] theorem w_mIxO (i : Nat) : Ok (mIxO i fj st) P = (isOwn st i = true ∧ Ok (fj st) fun k st1 => ∃ b ds j d, st1[i]? = some (.own b (.lst ds)) ∧ k = .int j ∧ atI ds j = some d ∧ P d st1) := by
  unfold mIxO
  by_cases hi : isOwn st i = true
  · rw [if_pos hi, ok_bind]
    simp only [hi, true_and]
    congr 1
    funext k st1
    apply propext
    constructor
    · intro hh
      split at hh
      · rw [ok_lift] at hh
        obtain ⟨d, h2, h3⟩ := hh
        exact ⟨_, _, _, d, by assumption, rfl, h2, h3⟩
      · exact hh.elim
    · rintro ⟨b, ds, j, d, h1, rfl, h2, h3⟩
      rw [h1]
      dsimp only
      rw [ok_lift]
      exact ⟨d, h2, h3⟩
  · rw [if_neg hi]
    simp [Ok, hi]
@[simp] theorem w_mSetI (i : Nat) : OkS (mSetI i fe fj st) N R = Ok (fe st) fun d st1 => isOwn st1 i = true ∧ Ok (fj st1) fun k st2 => ∃ st3, setAt st2 i d k = some st3 ∧ N st3 := by
  unfold mSetI
  rw [okS_toS]
  congr 1
  funext d st1
  by_cases hi : isOwn st1 i = true
  · rw [if_pos hi, okS_toS]
    simp only [hi, true_and]
    congr 1
    funext k st2
    cases setAt st2 i d k <;> simp [OkS]
  · rw [if_neg hi]
    simp [OkS, hi]
@[simp] theorem w_mLenO (i : Nat) : Ok (mLenO i st) P = ∃ b ds, st[i]? = some (.own b (.lst ds)) ∧ P (.int ds.length) st := by
  unfold mLenO
  apply propext
  constructor
  · intro hh
    split at hh
    · exact ⟨_, _, ‹_›, hh⟩
    · exact hh.elim
  · rintro ⟨b, ds, h1, h2⟩
    rw [h1]
    exact h2
end
theorem w_ixO {i : Nat} {st : MS} {b : Bool} {ds : List D} {j : Int} {d : D} {P : D → MS → Prop} (hi : st[i]? = some (.own b (.lst ds))) (ha : atI ds j = some d) : Ok (mIxO i (mC (.int j)) st) P = P d st := by
  unfold mIxO isOwn
  rw [hi]
  dsimp only
  rw [if_pos rfl]
  simp [mC, hi, ha]
@[simp] theorem eqD_int (i j : Int) : eqD (.int i) (.int j) = some (.bl (i == j)) := by simp [eqD, cmpOk, D.plain, D.dep, D.beq]
@[simp] theorem neD_int (i j : Int) : neD (.int i) (.int j) = some (.bl (!(i == j))) := by simp [neD, cmpOk, D.plain, D.dep, D.beq]
@[simp] theorem eqD_bl (i j : Bool) : eqD (.bl i) (.bl j) = some (.bl (i == j)) := by simp [eqD, cmpOk, D.plain, D.dep, D.beq]
@[simp] theorem neD_bl (i j : Bool) : neD (.bl i) (.bl j) = some (.bl (!(i == j))) := by simp [neD, cmpOk, D.plain, D.dep, D.beq]
@[simp] theorem ltD_int (i j : Int) : ltD (.int i) (.int j) = some (.bl (decide (i < j))) := rfl
@[simp] theorem leD_int (i j : Int) : leD (.int i) (.int j) = some (.bl (decide (i ≤ j))) := rfl
@[simp] theorem gtD_int (i j : Int) : gtD (.int i) (.int j) = some (.bl (decide (j < i))) := rfl
@[simp] theorem geD_int (i j : Int) : geD (.int i) (.int j) = some (.bl (decide (j ≤ i))) := rfl
@[simp] theorem addD_int (i j : Int) : addD (.int i) (.int j) = some (.int (i + j)) := rfl
@[simp] theorem subD_int (i j : Int) : subD (.int i) (.int j) = some (.int (i - j)) := rfl
@[simp] theorem mulD_int (i j : Int) : mulD (.int i) (.int j) = if mulOk i j = true then some (.int (i * j)) else none := rfl
@[simp] theorem modD_int (i j : Int) : modD (.int i) (.int j) = if j = 0 then none else some (.int (i.fmod j)) := rfl
@[simp] theorem divD_int (i j : Int) : divD (.int i) (.int j) = if divOk j = true then some (.int (i.fdiv j)) else none := rfl
@[simp] theorem powD_int (i j : Int) : powD (.int i) (.int j) = if 0 ≤ j ∧ j ≤ 1000000 ∧ i.natAbs < 2 ^ 64 then some (.int (i ^ j.toNat)) else none := rfl
@[simp] theorem negD_int (i : Int) : negD (.int i) = some (.int (-i)) := rfl
@[simp] theorem lenD_lst (xs : List D) : lenD [.lst xs] = some (.int xs.length) := rfl
@[simp] theorem lenD_tup (xs : List D) : lenD [.tup xs] = some (.int xs.length) := rfl
@[simp] theorem absD_int (i : Int) : absD [.int i] = some (.int (if i < 0 then -i else i)) := rfl
@[simp] theorem intOfD_int (i : Int) : intOfD [.int i] = some (.int i) := rfl
@[simp] theorem truth_bl (b : Bool) : (D.bl b).truth = some b := rfl
theorem atI_0 {α : Type} (a : α) (l : List α) : atI (a :: l) 0 = some a := by unfold atI ixN; simp
theorem atI_1 {α : Type} (a b : α) (l : List α) : atI (a :: b :: l) 1 = some b := by
  unfold atI ixN
  rw [if_pos (by decide), if_pos (by simp only [List.length_cons]; omega)]; rfl
theorem atI_2 {α : Type} (a b c : α) (l : List α) : atI (a :: b :: c :: l) 2 = some c := by
  unfold atI ixN
  rw [if_pos (by decide), if_pos (by simp only [List.length_cons]; omega)]; rfl
theorem atI_3 {α : Type} (a b c d : α) (l : List α) : atI (a :: b :: c :: d :: l) 3 = some d := by
  unfold atI ixN
  rw [if_pos (by decide), if_pos (by simp only [List.length_cons]; omega)]; rfl
theorem atI_get {α : Type} (l : List α) {k : Int} (h0 : 0 ≤ k) (h1 : k < l.length) : atI l k = some (l[k.toNat]'(by omega)) := by
  unfold atI ixN
  rw [if_pos h0, if_pos h1]
  simp only [Option.bind_some]
  exact List.getElem?_eq_getElem _
/-! ### the law's own draws -/
/-- _law_draw(tape, many) -/
def mDraw : MF := mDef 2 4 (mSeq (mIfS (mTst (mBin eqD (mIxO 0 (mC (.int 2))) (mC (.int 0)))) (mSeq (mAsg (mIf (mTst (mBin ltD (mIxO 0 (mC (.int 1))) (mCB lenD (mCons (mIxO 0 (mC (.int 0))) mNil)))) (mCB absD (mCons (mCB intOfD (mCons (mBin ixD (mIxO 0 (mC (.int 0))) (mIxO 0 (mC (.int 1)))) mNil)) mNil)) (mC (.int 0))) (tgName 2)) (mSeq (mSetI 0 (mBin addD (mIxO 0 (mC (.int 1))) (mC (.int 1))) (mC (.int 1))) (mSeq (mSetI 0 (mBin modD (mCB intOfD (mCons (mBin addD (mBin addD (mBin mulD (mIxO 0 (mC (.int 3))) (mC (.int 48271))) (mBin mulD (mVar 2) (mC (.int 7919)))) (mC (.int 12345))) mNil)) (mC (.int 2147483647))) (mC (.int 3))) (mSetI 0 (mIf (mTst (mBin geD (mVar 2) (mBin powD (mC (.int 10)) (mC (.int 18))))) (mVar 2) (mC (.int 0))) (mC (.int 2)))))) .nx) (mSeq (mIfS (mTst (mBin gtD (mIxO 0 (mC (.int 2))) (mC (.int 0)))) (mSeq (mAsg (mBin modD (mCB intOfD (mCons (mIxO 0 (mC (.int 2))) mNil)) (mVar 1)) (tgName 3)) (mSeq (mSetI 0 (mBin divD (mCB intOfD (mCons (mIxO 0 (mC (.int 2))) mNil)) (mVar 1)) (mC (.int 2))) (mRet (mVar 3)))) .nx) (mRet (mBin modD (mCB intOfD (mCons (mBin divD (mIxO 0 (mC (.int 3))) (mC (.int 7))) mNil)) (mVar 1)))))
def tpD (l : List Int) (a x c : Int) : List D := [.lst (l.map .int), .int a, .int x, .int c]
def Tp (ds : List D) : Prop := ∃ (l : List Int) (a x c : Int), ds = tpD l a x c ∧ 0 ≤ a ∧ 0 ≤ x ∧ 0 ≤ c
theorem mulOk_small {i j : Int} (h : -(2 ^ 64) < j ∧ j < 2 ^ 64) : mulOk i j = true := by
  unfold mulOk
  rw [decide_eq_true h]
  simp
theorem draw_two {a x c : Int} {l : List Int} {m : Int} {q : Slot} (ha : 0 ≤ a) (hx : 0 ≤ x) (hc : 0 ≤ c) (hm : 0 < m) (hm2 : m < 1000000) :
    OkS (mSeq (mIfS (mTst (mBin gtD (mIxO 0 (mC (.int 2))) (mC (.int 0)))) (mSeq (mAsg (mBin modD (mCB intOfD (mCons (mIxO 0 (mC (.int 2))) mNil)) (mVar 1)) (tgName 3)) (mSeq (mSetI 0 (mBin divD (mCB intOfD (mCons (mIxO 0 (mC (.int 2))) mNil)) (mVar 1)) (mC (.int 2))) (mRet (mVar 3)))) .nx) (mRet (mBin modD (mCB intOfD (mCons (mBin divD (mIxO 0 (mC (.int 3))) (mC (.int 7))) mNil)) (mVar 1)))
      [.own true (.lst (tpD l a x c)), .val (.int m), q, .no]) (fun st => False) (fun r st => ∃ (i : Int) (ds' : List D), r = .int i ∧ 0 ≤ i ∧ i < m ∧ Tp ds' ∧ fin 2 st = [.own true (.lst ds'), .no]) := by
  have hd : divOk m = true := by unfold divOk; simp; omega
  have hd7 : divOk 7 = true := by decide
  have hm0 : m ≠ 0 := by omega
  unfold tpD
  simp only [w_mSeq, w_mIfS, w_mTst, w_mBin, w_mIxO, w_mC, isOwn, List.getElem?_cons_zero, true_and, Option.some.injEq, Slot.own.injEq, D.lst.injEq, D.int.injEq]
  refine ⟨true, _, 2, _, ⟨rfl, rfl⟩, rfl, atI_2 _ _ _ _, _, gtD_int _ _, _, rfl, ?_⟩
  by_cases h : 0 < x
  · rw [if_pos (by simpa using h)]
    simp only [w_mAsg, w_mBin, w_mCB, w_mCons, w_mNil, w_mIxO, w_mC, isOwn, List.getElem?_cons_zero, true_and, Option.some.injEq, Slot.own.injEq, D.lst.injEq, D.int.injEq]
    refine ⟨true, _, 2, _, ⟨rfl, rfl⟩, rfl, atI_2 _ _ _ _, _, intOfD_int _, ?_⟩
    rw [w_mVar (d := .int m) (hi := rfl)]
    refine ⟨_, by rw [modD_int, if_neg hm0], _, rfl, ?_⟩
    simp only [w_mSetI, w_mBin, w_mCB, w_mCons, w_mNil, w_mIxO, w_mC, isOwn, List.getElem?_cons_zero, true_and, Option.some.injEq, Slot.own.injEq, D.lst.injEq, D.int.injEq, List.set_cons_succ]
    refine ⟨true, _, 2, _, ⟨rfl, rfl⟩, rfl, atI_2 _ _ _ _, _, intOfD_int _, ?_⟩
    rw [w_mVar (d := .int m) (hi := rfl)]
    refine ⟨_, by rw [divD_int, if_pos hd], rfl, _, rfl, ?_⟩
    rw [w_mRet, w_mVar (d := .int (x.fmod m)) (hi := rfl)]
    refine ⟨_, _, rfl, Int.fmod_nonneg_of_pos _ hm, Int.fmod_lt_of_pos _ hm, ⟨l, a, x.fdiv m, c, rfl, ha, Int.fdiv_nonneg hx (by omega), hc⟩, rfl⟩
  · rw [if_neg (by simpa using h)]
    simp only [w_nx, w_mRet, w_mBin, w_mCB, w_mCons, w_mNil, w_mIxO, w_mC, isOwn, List.getElem?_cons_zero, true_and, Option.some.injEq, Slot.own.injEq, D.lst.injEq, D.int.injEq]
    refine ⟨true, _, 3, _, ⟨rfl, rfl⟩, rfl, atI_3 _ _ _ _ _, _, by rw [divD_int, if_pos hd7], _, intOfD_int _, ?_⟩
    rw [w_mVar (d := .int m) (hi := rfl)]
    refine ⟨_, by rw [modD_int, if_neg hm0], _, _, rfl, Int.fmod_nonneg_of_pos _ hm, Int.fmod_lt_of_pos _ hm, ⟨l, a, x, c, rfl, ha, hx, hc⟩, rfl⟩
theorem draw_ok {ds : List D} {m : Int} (h : Tp ds) (hm : 0 < m) (hm2 : m < 1000000) : Ok (mDraw [.own true (.lst ds), .val (.int m)]) fun r ss => ∃ (i : Int) (ds' : List D), r = .int i ∧ 0 ≤ i ∧ i < m ∧ Tp ds' ∧ ss = [.own true (.lst ds'), .no] := by
  obtain ⟨l, a, x, c, rfl, ha, hx, hc⟩ := h
  refine ok_def rfl ?_
  show OkS (mSeq _ _ [.own true (.lst (tpD l a x c)), .val (.int m), .no, .no]) _ _
  rw [w_mSeq, w_mIfS]
  have hfin : ∀ {a x c : Int} {q : Slot} {N : MS → Prop}, 0 ≤ a → 0 ≤ x → 0 ≤ c → OkS (mSeq (mIfS (mTst (mBin gtD (mIxO 0 (mC (.int 2))) (mC (.int 0)))) (mSeq (mAsg (mBin modD (mCB intOfD (mCons (mIxO 0 (mC (.int 2))) mNil)) (mVar 1)) (tgName 3)) (mSeq (mSetI 0 (mBin divD (mCB intOfD (mCons (mIxO 0 (mC (.int 2))) mNil)) (mVar 1)) (mC (.int 2))) (mRet (mVar 3)))) .nx) (mRet (mBin modD (mCB intOfD (mCons (mBin divD (mIxO 0 (mC (.int 3))) (mC (.int 7))) mNil)) (mVar 1)))
      [.own true (.lst (tpD l a x c)), .val (.int m), q, .no]) N (fun r st => ∃ (i : Int) (ds' : List D), r = .int i ∧ 0 ≤ i ∧ i < m ∧ Tp ds' ∧ fin 2 st = [.own true (.lst ds'), .no]) := fun ha hx hc => (draw_two ha hx hc hm hm2).mono (fun _ z => z.elim) fun _ _ z => z
  simp only [w_mTst, w_mBin, w_mIxO, w_mC, isOwn, List.getElem?_cons_zero, true_and, tpD, Option.some.injEq, Slot.own.injEq, D.lst.injEq, D.int.injEq]
  refine ⟨true, _, 2, _, ⟨rfl, rfl⟩, rfl, atI_2 _ _ _ _, _, eqD_int _ _, _, rfl, ?_⟩
  by_cases h : x = 0
  · subst h
    rw [if_pos (by decide), w_mSeq, w_mAsg]
    -- the cell
    have cell : ∃ v : Int, 0 ≤ v ∧ ∀ (P : D → MS → Prop), P (.int v) [.own true (.lst (tpD l a 0 c)), .val (.int m), .no, .no] → Ok (mIf (mTst (mBin ltD (mIxO 0 (mC (.int 1))) (mCB lenD (mCons (mIxO 0 (mC (.int 0))) mNil)))) (mCB absD (mCons (mCB intOfD (mCons (mBin ixD (mIxO 0 (mC (.int 0))) (mIxO 0 (mC (.int 1)))) mNil)) mNil)) (mC (.int 0)) [.own true (.lst (tpD l a 0 c)), .val (.int m), .no, .no]) P := by
      by_cases hal : a < l.length
      · have hg : ixD (.lst (l.map .int)) (.int a) = some (.int (l[a.toNat]'(by omega))) := by
          unfold ixD
          dsimp only
          rw [atI_get _ ha (by simpa using hal)]
          simp
        refine ⟨if l[a.toNat]'(by omega) < 0 then -(l[a.toNat]'(by omega)) else l[a.toNat]'(by omega), by split <;> omega, fun P hP => ?_⟩
        rw [w_mIf, w_mTst, w_mBin, w_ixO (hi := rfl) (ha := atI_1 _ _ _), w_mCB, w_mCons, w_ixO (hi := rfl) (ha := atI_0 _ _), w_mNil]
        refine ⟨_, lenD_lst _, _, ltD_int _ _, _, rfl, ?_⟩
        rw [if_pos (by simpa using hal), w_mCB, w_mCons, w_mCB, w_mCons, w_mBin, w_ixO (hi := rfl) (ha := atI_0 _ _), w_ixO (hi := rfl) (ha := atI_1 _ _ _)]
        refine ⟨_, hg, ?_⟩
        rw [w_mNil]
        refine ⟨_, intOfD_int _, ?_⟩
        rw [w_mNil]
        exact ⟨_, absD_int _, hP⟩
      · refine ⟨0, Int.le_refl 0, fun P hP => ?_⟩
        rw [w_mIf, w_mTst, w_mBin, w_ixO (hi := rfl) (ha := atI_1 _ _ _), w_mCB, w_mCons, w_ixO (hi := rfl) (ha := atI_0 _ _), w_mNil]
        refine ⟨_, lenD_lst _, _, ltD_int _ _, _, rfl, ?_⟩
        rw [if_neg (by simpa using hal), w_mC]
        exact hP
    obtain ⟨v, hv, hcell⟩ := cell
    refine hcell _ ⟨_, rfl, ?_⟩
    rw [w_mSeq, w_mSetI, w_mBin]
    show Ok (mIxO 0 (mC (.int 1)) [.own true (.lst (tpD l a 0 c)), .val (.int m), .val (.int v), .no]) _
    rw [w_ixO (hi := rfl) (ha := atI_1 _ _ _), w_mC]
    refine ⟨_, addD_int _ _, rfl, ?_⟩
    rw [w_mC]
    refine ⟨[.own true (.lst (tpD l (a + 1) 0 c)), .val (.int m), .val (.int v), .no], rfl, ?_⟩
    have hmod : (2147483647 : Int) ≠ 0 := by decide
    rw [w_mSeq, w_mSetI, w_mBin, w_mCB, w_mCons, w_mBin, w_mBin, w_mBin, w_ixO (hi := rfl) (ha := atI_3 _ _ _ _ _), w_mC]
    refine ⟨_, by rw [mulD_int, if_pos (mulOk_small (by decide))], ?_⟩
    rw [w_mBin, w_mVar (d := .int v) (hi := rfl), w_mC]
    refine ⟨_, by rw [mulD_int, if_pos (mulOk_small (by decide))], _, addD_int _ _, ?_⟩
    rw [w_mC]
    refine ⟨_, addD_int _ _, ?_⟩
    rw [w_mNil]
    refine ⟨_, intOfD_int _, ?_⟩
    rw [w_mC]
    refine ⟨_, by rw [modD_int, if_neg hmod], rfl, ?_⟩
    rw [w_mC]
    refine ⟨[.own true (.lst (tpD l (a + 1) 0 ((c * 48271 + v * 7919 + 12345).fmod 2147483647))), .val (.int m), .val (.int v), .no], rfl, ?_⟩
    have hc' : 0 ≤ (c * 48271 + v * 7919 + 12345).fmod 2147483647 := Int.fmod_nonneg_of_pos _ (by decide)
    rw [w_mSetI, w_mIf, w_mTst, w_mBin, w_mVar (d := .int v) (hi := rfl), w_mBin, w_mC, w_mC]
    refine ⟨_, by rw [powD_int, if_pos (by decide)], _, geD_int _ _, _, rfl, ?_⟩
    by_cases hb : (10 : Int) ^ (18 : Int).toNat ≤ v
    · rw [if_pos (by simpa using hb), w_mVar (d := .int v) (hi := rfl)]
      refine ⟨rfl, ?_⟩
      rw [w_mC]
      exact ⟨[.own true (.lst (tpD l (a + 1) v ((c * 48271 + v * 7919 + 12345).fmod 2147483647))), .val (.int m), .val (.int v), .no], rfl, hfin (by omega) hv hc'⟩
    · rw [if_neg (by simpa using hb), w_mC]
      refine ⟨rfl, ?_⟩
      rw [w_mC]
      exact ⟨[.own true (.lst (tpD l (a + 1) 0 ((c * 48271 + v * 7919 + 12345).fmod 2147483647))), .val (.int m), .val (.int v), .no], rfl, hfin (by omega) (Int.le_refl 0) hc'⟩
  · rw [if_neg (by simpa using h)]
    exact hfin ha hx hc
theorem draw_call {i : Nat} {st : MS} {b : Bool} {ds : List D} {m : Int} {f : MS → Out D} {P : D → MS → Prop} (hi : st[i]? = some (.own b (.lst ds))) (ht : Tp ds) (hm : 0 < m) (hm2 : m < 1000000) (hf : f st = .ok (.int m) st)
    (h : ∀ r ds', 0 ≤ r → r < m → Tp ds' → P (.int r) (st.set i (.own b (.lst ds')))) : Ok (mCall mDraw (gOwn i (gVal f gNilM)) st) P := by
  refine ok_callO hi ?_
  rw [hf]
  refine ⟨rfl, (draw_ok ht hm hm2).mono fun r ss hh => ?_⟩
  obtain ⟨k, ds', rfl, h1, h2, h3, rfl⟩ := hh
  exact ⟨ds', _, rfl, h k ds' h1 h2 h3⟩
/-- a def that draws alone -/
theorem own_call {mf : MF} {i : Nat} {st : MS} {b : Bool} {ds : List D} {P : D → MS → Prop} {A : D → Prop} (hi : st[i]? = some (.own b (.lst ds))) (hf : Ok (mf [.own true (.lst ds)]) fun r ss => ∃ ds', A r ∧ Tp ds' ∧ ss = [.own true (.lst ds')])
    (h : ∀ r ds', A r → Tp ds' → P r (st.set i (.own b (.lst ds')))) : Ok (mCall mf (gOwn i gNilM) st) P := by
  refine ok_callO0 hi (hf.mono fun r ss hh => ?_)
  obtain ⟨ds', h1, h2, rfl⟩ := hh
  exact ⟨ds', _, rfl, h r ds' h1 h2⟩
theorem Ok.of_eq {α : Type} {o : Out α} {a : α} {st : MS} {P : α → MS → Prop} (h : o = .ok a st) (p : P a st) : Ok o P := by rw [h]; exact p
/-! entering and leaving a comprehension, place by place -/
def enterL (vs : List Nat) : Nat → MS → MS
  | _, [] => []
  | j, s :: st => enterS vs j s :: enterL vs (j + 1) st
theorem enterL_get (vs : List Nat) : ∀ (st : MS) (j i : Nat), (enterL vs j st)[i]? = st[i]?.map (enterS vs (j + i))
  | [], j, i => rfl
  | s :: st, j, 0 => rfl
  | s :: st, j, i + 1 => by
    have := enterL_get vs st (j + 1) i
    have e : j + 1 + i = j + (i + 1) := by omega
    rw [e] at this
    exact this
theorem enter_eq (st : MS) (vs : List Nat) : enter st vs = enterL vs 0 st := by
  apply List.ext_getElem?
  intro i
  unfold enter
  rw [enterL_get, List.getElem?_mapIdx, Nat.zero_add]
def leaveL (vs : List Nat) (st : MS) : Nat → MS → MS
  | _, [] => []
  | j, s :: so => leaveS vs st j s :: leaveL vs st (j + 1) so
theorem leaveL_get (vs : List Nat) (st : MS) : ∀ (so : MS) (j i : Nat), (leaveL vs st j so)[i]? = so[i]?.map (leaveS vs st (j + i))
  | [], j, i => rfl
  | s :: so, j, 0 => rfl
  | s :: so, j, i + 1 => by
    have := leaveL_get vs st so (j + 1) i
    have e : j + 1 + i = j + (i + 1) := by omega
    rw [e] at this
    exact this
theorem leave_eq (so st : MS) (vs : List Nat) : leave so st vs = leaveL vs st 0 so := by
  apply List.ext_getElem?
  intro i
  unfold leave
  rw [leaveL_get, List.getElem?_mapIdx, Nat.zero_add]
theorem w_mLRg (k : List D → D) (f : MS → Out (Int × Int)) (st : MS) (P : D → MS → Prop) : Ok (mLRg k f st) P = Ok (f st) fun q st1 => rgOkB q.1 q.2 = true ∧ P (k (rngD q.1 (q.2 - q.1).toNat)) st1 := by
  unfold mLRg
  rw [ok_bind]
  congr 1
  funext q st1
  by_cases h : rgOkB q.1 q.2 = true
  · rw [if_pos h, ok_ok]; simp [h]
  · rw [if_neg h]; simp [Ok, h]
theorem w_mPair1 (f : MS → Out D) (st : MS) (Q : Int × Int → MS → Prop) : Ok (mPair1 f st) Q = Ok (f st) fun d st1 => ∃ j, d = .int j ∧ Q (0, j) st1 := by
  unfold mPair1
  rw [ok_bind]
  congr 1
  funext d st1
  cases d <;> simp [Ok]
theorem w_mChain3 (g g' g'' : D → D → Option D) (fa fb fc fd : MS → Out D) (st : MS) (P : D → MS → Prop) : Ok (mChain3 g g' g'' fa fb fc fd st) P = Ok (fa st) fun x st1 => Ok (fb st1) fun y st2 => ∃ k, g x y = some (.bl k) ∧ if k = true then Ok (fc st2) fun w st4 => ∃ k', g' y w = some (.bl k') ∧ if k' = true then Ok (fd st4) fun v st6 => ∃ z, g'' w v = some z ∧ P z st6 else P (.bl false) st4 else P (.bl false) st2 := by
  unfold mChain3
  simp only [ok_bind, ok_lift]
  congr 1
  funext x st1
  congr 1
  funext y st2
  apply propext
  have inner : ∀ (w : D) (st4 : MS), (∃ a, g' y w = some a ∧ Ok (match a with | .bl true => (fd st4).bind fun v st6 => lift (g'' w v) st6 | .bl false => .ok (.bl false) st4 | _ => .stuck) P) ↔ ∃ k', g' y w = some (.bl k') ∧ if k' = true then Ok (fd st4) fun v st6 => ∃ z, g'' w v = some z ∧ P z st6 else P (.bl false) st4 := by
    intro w st4
    constructor
    · rintro ⟨z, h1, h2⟩
      cases z with
      | bl k =>
        refine ⟨k, h1, ?_⟩
        cases k with
        | false => exact h2
        | true =>
          rw [if_pos rfl]
          simpa only [ok_bind, ok_lift] using h2
      | _ => exact h2.elim
    · rintro ⟨k, h1, h2⟩
      refine ⟨_, h1, ?_⟩
      cases k with
      | false => exact h2
      | true =>
        rw [if_pos rfl] at h2
        simpa only [ok_bind, ok_lift] using h2
  constructor
  · rintro ⟨z, h1, h2⟩
    cases z with
    | bl k =>
      refine ⟨k, h1, ?_⟩
      cases k with
      | false => exact h2
      | true =>
        rw [if_pos rfl]
        have h2 : Ok ((fc st2).bind _) P := h2
        rw [ok_bind] at h2
        refine Ok.mono h2 fun w st4 h3 => ?_
        rw [ok_bind, ok_lift] at h3
        exact (inner w st4).mp h3
    | _ => exact h2.elim
  · rintro ⟨k, h1, h2⟩
    refine ⟨_, h1, ?_⟩
    cases k with
    | false => exact h2
    | true =>
      rw [if_pos rfl] at h2
      show Ok ((fc st2).bind _) P
      rw [ok_bind]
      refine Ok.mono h2 fun w st4 h3 => ?_
      rw [ok_bind, ok_lift]
      exact (inner w st4).mpr h3
end MX

namespace K00
open PySem PySem.Spec L2 MX
open PyProof.Rows hiding St
def topS (i : Nat) : Stmt := PySem.Challenge.pw_somelengthsmove_k00_whole_words_and_erro.main.body.getD i (.Pass ⟨0, 0, 0, 0⟩)
abbrev s5 : Stmt := topS 5
abbrev N5 : List Str := ["value"]
abbrev s6 : Stmt := topS 6
abbrev N6 : List Str := ["value"]
abbrev s7 : Stmt := topS 7
abbrev N7 : List Str := ["value", "limit"]
abbrev s8 : Stmt := topS 8
abbrev N8 : List Str := ["value", "sign"]
abbrev s9 : Stmt := topS 9
abbrev N9 : List Str := ["value", "one"]
abbrev s10 : Stmt := topS 10
abbrev N10 : List Str := ["value", "limit", "one"]
abbrev s11 : Stmt := topS 11
abbrev N11 : List Str := ["value", "k"]
abbrev s12 : Stmt := topS 12
abbrev N12 : List Str := ["value", "limit"]
abbrev s13 : Stmt := topS 13
abbrev N13 : List Str := ["value", "many"]
abbrev s14 : Stmt := topS 14
abbrev N14 : List Str := ["a", "b"]
abbrev s29 : Stmt := topS 29
abbrev N29 : List Str := ["tape", "many", "cell", "digit"]
abbrev s30 : Stmt := topS 30
abbrev N30 : List Str := ["tape", "rows"]
abbrev s31 : Stmt := topS 31
abbrev N31 : List Str := ["value"]
abbrev s32 : Stmt := topS 32
abbrev N32 : List Str := ["tape", "text", "k"]
abbrev s33 : Stmt := topS 33
abbrev N33 : List Str := ["text", "good", "one"]
abbrev s34 : Stmt := topS 34
abbrev N34 : List Str := ["a", "b", "rows", "k"]
abbrev s35 : Stmt := topS 35
abbrev N35 : List Str := ["names", "place", "made", "base", "one"]
abbrev s36 : Stmt := topS 36
abbrev N36 : List Str := ["script", "tape", "turn", "value", "limit", "whole", "text", "names", "fine", "row", "plain", "inside", "rises", "some", "a", "b", "k", "one"]
abbrev ini16 : Stmt := inCls (topS 16) 0
abbrev ini17 : Stmt := inCls (topS 17) 0
abbrev ini18 : Stmt := inCls (topS 18) 0
abbrev ini19 : Stmt := inCls (topS 19) 0
abbrev ini20 : Stmt := inCls (topS 20) 0
abbrev ini21 : Stmt := inCls (topS 21) 0
abbrev ini22 : Stmt := inCls (topS 22) 0
abbrev ini23 : Stmt := inCls (topS 23) 0
abbrev ini24 : Stmt := inCls (topS 24) 0
abbrev ini25 : Stmt := inCls (topS 25) 0
abbrev ini26 : Stmt := inCls (topS 26) 0
abbrev ini27 : Stmt := inCls (topS 27) 0
def okE (cs : Nat → Addr) (C : Addr) : Bool := decide (C = cs 16) || decide (C = cs 17) || decide (C = cs 18) || decide (C = cs 19) || decide (C = cs 20) || decide (C = cs 21) || decide (C = cs 22) || decide (C = cs 23) || decide (C = cs 24) || decide (C = cs 25) || decide (C = cs 26) || decide (C = cs 27)
def tb16 (cs : Nat → Addr) (C : Addr) : Option Bool := if okE cs C = true then some true else none
def tb17 (cs : Nat → Addr) (C : Addr) : Option Bool := if C = cs 16 then some false else if C = cs 17 then some true else if C = cs 18 then some false else if C = cs 19 then some false else if C = cs 20 then some false else if C = cs 21 then some false else if C = cs 22 then some false else if C = cs 23 then some false else if C = cs 24 then some false else if C = cs 25 then some false else if C = cs 26 then some false else if C = cs 27 then some false else none
def tbV (cs : Nat → Addr) (C : Addr) : Option Bool := if okE cs C = true then some true else none
/-- is_integer(value) -/
def m5 : MF := mDef 1 1 (mRet (mAndV (mUn (isTy .int) (mVar 0)) (mNotV (mUn (isTy .bool) (mVar 0)))))
/-- is_count(value) -/
def m6 : MF := mDef 1 1 (mRet (mAndV (mCall m5 (gVal (mVar 0) gNilM)) (mBin geD (mVar 0) (mC (.int 0)))))
/-- is_below(value, limit) -/
def m7 : MF := mDef 2 2 (mRet (mAndV (mCall m6 (gVal (mVar 0) gNilM)) (mBin ltD (mVar 0) (mVar 1))))
/-- is_name(value) -/
def m8 : MF := mDef 1 2 (mSeq (mIfS (mOrT (mNotT (mTru (mUn (isTy .str) (mVar 0)))) (mOrT (mNotT (mTst (mChain leD leD (mC (.int 1)) (mCB lenD (mCons (mVar 0) mNil)) (mC (.int 12))))) (mTst (mBin ninD (mBin ixD (mVar 0) (mC (.int 0))) (mC (.str (Str.ofString "abcdefghijklmnopqrstuvwxyz"))))))) (mRet (mC (.bl false))) .nx) (mRet (mCB allD (mCons (mLv (mComp (([("sign", 1)] : List (Str × Nat)).map (·.2)) (mItems (mVar 0)) (tgName 1) (fun st => .ok true st) (mOrV (mBin inD (mVar 1) (mC (.str (Str.ofString "abcdefghijklmnopqrstuvwxyz")))) (mBin inD (mVar 1) (mC (.str (Str.ofString "0123456789"))))))) mNil))))
/-- are_names(value) -/
def m9 : MF := mDef 1 2 (mRet (mAndV (mUn (isTy .tuple) (mVar 0)) (mAndV (mCB allD (mCons (mLv (mComp (([("one", 1)] : List (Str × Nat)).map (·.2)) (mItems (mVar 0)) (tgName 1) (fun st => .ok true st) (mCall m8 (gVal (mVar 1) gNilM)))) mNil)) (mBin eqD (mLenSet (mVar 0)) (mCB lenD (mCons (mVar 0) mNil))))))
/-- are_below(value, limit) -/
def m10 : MF := mDef 2 3 (mRet (mAndV (mUn (isTy .tuple) (mVar 0)) (mCB allD (mCons (mLv (mComp (([("one", 2)] : List (Str × Nat)).map (·.2)) (mItems (mVar 0)) (tgName 2) (fun st => .ok true st) (mCall m7 (gVal (mVar 2) (gVal (mVar 1) gNilM))))) mNil))))
/-- is_rising(value) -/
def m11 : MF := mDef 1 2 (mRet (mCB allD (mCons (mLv (mComp (([("k", 1)] : List (Str × Nat)).map (·.2)) (mRng2 (mCons (mC (.int 1)) (mCons (mCB lenD (mCons (mVar 0) mNil)) mNil))) (tgName 1) (fun st => .ok true st) (mBin ltD (mBin ixD (mVar 0) (mBin subD (mVar 1) (mC (.int 1)))) (mBin ixD (mVar 0) (mVar 1))))) mNil)))
/-- are_rising_below(value, limit) -/
def m12 : MF := mDef 2 2 (mRet (mAndV (mCall m10 (gVal (mVar 0) (gVal (mVar 1) gNilM))) (mCall m11 (gVal (mVar 0) gNilM))))
/-- is_order(value, many) -/
def m13 : MF := mDef 2 2 (mRet (mAndV (mCall m10 (gVal (mVar 0) (gVal (mVar 1) gNilM))) (mAndV (mBin eqD (mCB lenD (mCons (mVar 0) mNil)) (mVar 1)) (mBin eqD (mLenSet (mVar 0)) (mVar 1)))))
/-- common(a, b) -/
def m14 : MF := mDef 2 2 (mRet (mCB gcdD (mCons (mVar 0) (mCons (mVar 1) mNil))))
/-- _law_draw(tape, many) -/
def m29 : MF := mDef 2 4 (mSeq (mIfS (mTst (mBin eqD (mIxO 0 (mC (.int 2))) (mC (.int 0)))) (mSeq (mAsg (mIf (mTst (mBin ltD (mIxO 0 (mC (.int 1))) (mCB lenD (mCons (mIxO 0 (mC (.int 0))) mNil)))) (mCB absD (mCons (mCB intOfD (mCons (mBin ixD (mIxO 0 (mC (.int 0))) (mIxO 0 (mC (.int 1)))) mNil)) mNil)) (mC (.int 0))) (tgName 2)) (mSeq (mSetI 0 (mBin addD (mIxO 0 (mC (.int 1))) (mC (.int 1))) (mC (.int 1))) (mSeq (mSetI 0 (mBin modD (mCB intOfD (mCons (mBin addD (mBin addD (mBin mulD (mIxO 0 (mC (.int 3))) (mC (.int 48271))) (mBin mulD (mVar 2) (mC (.int 7919)))) (mC (.int 12345))) mNil)) (mC (.int 2147483647))) (mC (.int 3))) (mSetI 0 (mIf (mTst (mBin geD (mVar 2) (mBin powD (mC (.int 10)) (mC (.int 18))))) (mVar 2) (mC (.int 0))) (mC (.int 2)))))) .nx) (mSeq (mIfS (mTst (mBin gtD (mIxO 0 (mC (.int 2))) (mC (.int 0)))) (mSeq (mAsg (mBin modD (mCB intOfD (mCons (mIxO 0 (mC (.int 2))) mNil)) (mVar 1)) (tgName 3)) (mSeq (mSetI 0 (mBin divD (mCB intOfD (mCons (mIxO 0 (mC (.int 2))) mNil)) (mVar 1)) (mC (.int 2))) (mRet (mVar 3)))) .nx) (mRet (mBin modD (mCB intOfD (mCons (mBin divD (mIxO 0 (mC (.int 3))) (mC (.int 7))) mNil)) (mVar 1)))))
/-- _law_value(tape) -/
def m30 : MF := mDef 1 2 (mSeq (mAsg (mLv (mLst (mCons (mUn negD (mC (.int 1))) (mCons (mC (.int 0)) (mCons (mC (.int 1)) (mCons (mC (.int 5)) (mCons (mBin powD (mC (.int 10)) (mC (.int 20))) (mCons (mC (.bl true)) (mCons (mC (.bl false)) (mCons (mC .non) (mCons (mC (.str (Str.ofString "a"))) (mCons (mC (.str (Str.ofString ""))) (mCons (mTup mNil) (mCons (mTup (mCons (mC (.int 0)) mNil)) (mCons (mLv (mLst (mCons (mC (.int 0)) mNil))) mNil))))))))))))))) (tgName 1)) (mRet (mBin ixD (mVar 1) (mCall m29 (gOwn 0 (gVal (mCB lenD (mCons (mVar 1) mNil)) gNilM))))))
/-- _law_whole(value) -/
def m31 : MF := mDef 1 1 (mRet (mAndV (mUn (isTy .int) (mVar 0)) (mAndV (mBin nisD (mVar 0) (mC (.bl true))) (mBin nisD (mVar 0) (mC (.bl false))))))
/-- _law_text(tape) -/
def m32 : MF := mDef 1 3 (mSeq (mAsg (mC (.str (Str.ofString ""))) (tgName 1)) (mSeq (mFor (mRng1 (mCons (mCall m29 (gOwn 0 (gVal (mC (.int 15)) gNilM))) mNil)) (tgName 2) (mAsg (mBin addD (mVar 1) (mBin ixD (mC (.str (Str.ofString "abz019A_ -"))) (mIf (mTst (mBin eqD (mCall m29 (gOwn 0 (gVal (mC (.int 6)) gNilM))) (mC (.int 0)))) (mCall m29 (gOwn 0 (gVal (mC (.int 10)) gNilM))) (mCall m29 (gOwn 0 (gVal (mC (.int 3)) gNilM)))))) (tgName 1))) (mRet (mVar 1))))
/-- _law_name(text) -/
def m33 : MF := mDef 1 3 (mSeq (mAsg (mBin eqD (mLv (mComp (([("one", 2)] : List (Str × Nat)).map (·.2)) (mItems (mVar 0)) (tgName 2) (mNotT (mOrT (mTst (mChain leD leD (mC (.str (Str.ofString "a"))) (mVar 2) (mC (.str (Str.ofString "z"))))) (mTst (mChain leD leD (mC (.str (Str.ofString "0"))) (mVar 2) (mC (.str (Str.ofString "9"))))))) (mVar 2))) (mLv (mLst mNil))) (tgName 1)) (mRet (mAndV (mVar 1) (mAndV (mChain ltD ltD (mC (.int 0)) (mCB lenD (mCons (mVar 0) mNil)) (mC (.int 13))) (mChain leD leD (mC (.str (Str.ofString "a"))) (mSl (mVar 0) (fun st => .ok none st) (mPart (mC (.int 1)))) (mC (.str (Str.ofString "z"))))))))
/-- _law_divides(a, b) -/
def m34 : MF := mDef 2 4 (mSeq (mAsg (mLv (mComp (([("k", 3)] : List (Str × Nat)).map (·.2)) (mRng2 (mCons (mC (.int 1)) (mCons (mBin addD (mCB maxD (mCons (mCB absD (mCons (mVar 0) mNil)) (mCons (mCB absD (mCons (mVar 1) mNil)) mNil))) (mC (.int 1))) mNil))) (tgName 3) (mAndT (mTst (mBin eqD (mBin modD (mVar 0) (mVar 3)) (mC (.int 0)))) (mTst (mBin eqD (mBin modD (mVar 1) (mVar 3)) (mC (.int 0))))) (mVar 3))) (tgName 2)) (mRet (mIf (mAndT (mTst (mBin neD (mVar 2) (mLv (mLst mNil)))) (mTst (mBin neD (mTup (mCons (mVar 0) (mCons (mVar 1) mNil))) (mTup (mCons (mC (.int 0)) (mCons (mC (.int 0)) mNil)))))) (mBin ixD (mVar 2) (mUn negD (mC (.int 1)))) (mC (.int 0)))))
/-- _law_classes() -/
def m35 (cs : Nat → Addr) : MF := mDef 0 5 (mSeq (mAsg (mLv (mLst (mCons (mC (.str (Str.ofString "TooLarge"))) (mCons (mC (.str (Str.ofString "InvalidWeb"))) (mCons (mC (.str (Str.ofString "InvalidHueing"))) (mCons (mC (.str (Str.ofString "InvalidText"))) (mCons (mC (.str (Str.ofString "InvalidMoment"))) (mCons (mC (.str (Str.ofString "InvalidMotion"))) (mCons (mC (.str (Str.ofString "InvalidTurning"))) (mCons (mC (.str (Str.ofString "InvalidFrame"))) (mCons (mC (.str (Str.ofString "InvalidPaper"))) (mCons (mC (.str (Str.ofString "InvalidAct"))) (mCons (mC (.str (Str.ofString "InvalidPlace"))) mNil))))))))))))) (tgName 0)) (mSeq (mAsg (mTup (mCons (mC (.str (Str.ofString "x"))) (mCons (mC (.int 3)) mNil))) (tgName 1)) (mSeq (mAsg (mLv (mLst (mCons (mMkV (cs 17) "TooLarge" (mVar 1)) (mCons (mMkV (cs 18) "InvalidWeb" (mVar 1)) (mCons (mMkV (cs 19) "InvalidHueing" (mVar 1)) (mCons (mMkV (cs 20) "InvalidText" (mVar 1)) (mCons (mMkV (cs 21) "InvalidMoment" (mVar 1)) (mCons (mMkV (cs 22) "InvalidMotion" (mVar 1)) (mCons (mMkV (cs 23) "InvalidTurning" (mVar 1)) (mCons (mMkV (cs 24) "InvalidFrame" (mVar 1)) (mCons (mMkV (cs 25) "InvalidPaper" (mVar 1)) (mCons (mMkV (cs 26) "InvalidAct" (mVar 1)) (mCons (mMkV (cs 27) "InvalidPlace" (mVar 1)) mNil))))))))))))) (tgName 2)) (mSeq (mIfS (mOrT (mTst (mBin neD (mLv (mComp (([("one", 4)] : List (Str × Nat)).map (·.2)) (mItems (mVar 2)) (tgName 4) (fun st => .ok true st) (mUn (excA (okE cs) .name) (mVar 4)))) (mVar 0))) (mTst (mBin neD (mLv (mComp (([("one", 4)] : List (Str × Nat)).map (·.2)) (mItems (mVar 2)) (tgName 4) (mOrT (mTst (mBin neD (mUn (excA (okE cs) .place) (mVar 4)) (mVar 1))) (mNotT (mTru (mUn (isE (tb16 cs)) (mVar 4))))) (mVar 4))) (mLv (mLst mNil))))) (mRet (mC (.bl false))) .nx) (mSeq (mAsg (mMkV (cs 16) "MoveError" (mC .non)) (tgName 3)) (mRet (mAndV (mBin isD (mUn (excA (okE cs) .place) (mVar 3)) (mC .non)) (mAndV (mBin eqD (mUn (excA (okE cs) .name) (mVar 3)) (mC (.str (Str.ofString "MoveError")))) (mAndV (mUn (isE (tbV cs)) (mVar 3)) (mNotV (mUn (isE (tb17 cs)) (mVar 3))))))))))))
/-- law(script) -/
def m36 (cs : Nat → Addr) : MF := mDef 1 18 (mSeq (mOwn 1 (mLst (mCons (mCB listD (mCons (mVar 0) mNil)) (mCons (mC (.int 0)) (mCons (mC (.int 0)) (mCons (mC (.int 0)) mNil)))))) (mSeq (mFor (mRng1 (mCons (mC (.int 6)) mNil)) (tgName 2) (mSeq (mPar 3 4 (mCons (mCall m30 (gOwn 1 gNilM)) (mCons (mCall m29 (gOwn 1 (gVal (mC (.int 7)) gNilM))) mNil))) (mSeq (mAsg (mCall m31 (gVal (mVar 3) gNilM)) (tgName 5)) (mSeq (mIfS (mOrT (mTst (mBin neD (mCall m5 (gVal (mVar 3) gNilM)) (mVar 5))) (mOrT (mTst (mBin neD (mCall m6 (gVal (mVar 3) gNilM)) (mAndV (mVar 5) (mBin geD (mVar 3) (mC (.int 0)))))) (mTst (mBin neD (mCall m7 (gVal (mVar 3) (gVal (mVar 4) gNilM))) (mAndV (mVar 5) (mChain leD ltD (mC (.int 0)) (mVar 3) (mVar 4))))))) (mRet (mC (.bl false))) .nx) (mSeq (mAsg (mCall m32 (gOwn 1 gNilM)) (tgName 6)) (mIfS (mOrT (mTst (mBin neD (mCall m8 (gVal (mVar 6) gNilM)) (mCall m33 (gVal (mVar 6) gNilM)))) (mTst (mBin neD (mCall m8 (gVal (mVar 3) gNilM)) (mBin eqD (mVar 3) (mC (.str (Str.ofString "a"))))))) (mRet (mC (.bl false))) .nx)))))) (mSeq (mAsg (mCB tupleD (mCons (mLv (mComp (([("k", 16)] : List (Str × Nat)).map (·.2)) (mRng1 (mCons (mCall m29 (gOwn 1 (gVal (mC (.int 4)) gNilM))) mNil)) (tgName 16) (fun st => .ok true st) (mCall m32 (gOwn 1 gNilM)))) mNil)) (tgName 7)) (mSeq (mAsg (mAndV (mBin eqD (mLv (mComp (([("one", 17)] : List (Str × Nat)).map (·.2)) (mItems (mVar 7)) (tgName 17) (mNotT (mTru (mCall m33 (gVal (mVar 17) gNilM)))) (mVar 17))) (mLv (mLst mNil))) (mBin eqD (mLv (mComp (([("k", 16)] : List (Str × Nat)).map (·.2)) (mRng1 (mCons (mCB lenD (mCons (mVar 7) mNil)) mNil)) (tgName 16) (mTst (mBin inD (mBin ixD (mVar 7) (mVar 16)) (mSl (mVar 7) (fun st => .ok none st) (mPart (mVar 16))))) (mVar 16))) (mLv (mLst mNil)))) (tgName 8)) (mSeq (mIfS (mOrT (mTst (mBin neD (mCall m9 (gVal (mVar 7) gNilM)) (mVar 8))) (mOrT (mTst (mBin nisD (mCall m9 (gVal (mCB listD (mCons (mVar 7) mNil)) gNilM)) (mC (.bl false)))) (mOrT (mTst (mBin nisD (mCall m9 (gVal (mTup (mCons (mC (.str (Str.ofString "a"))) (mCons (mC (.str (Str.ofString "b"))) (mCons (mC (.str (Str.ofString "a"))) mNil)))) gNilM)) (mC (.bl false)))) (mTst (mBin nisD (mCall m9 (gVal (mTup (mCons (mC (.str (Str.ofString "a"))) (mCons (mC (.str (Str.ofString "b1"))) mNil))) gNilM)) (mC (.bl true))))))) (mRet (mC (.bl false))) .nx) (mSeq (mAsg (mCB tupleD (mCons (mLv (mComp (([("k", 16)] : List (Str × Nat)).map (·.2)) (mRng1 (mCons (mCall m29 (gOwn 1 (gVal (mC (.int 5)) gNilM))) mNil)) (tgName 16) (fun st => .ok true st) (mIf (mTst (mBin eqD (mCall m29 (gOwn 1 (gVal (mC (.int 5)) gNilM))) (mC (.int 0)))) (mCall m30 (gOwn 1 gNilM)) (mCall m29 (gOwn 1 (gVal (mC (.int 6)) gNilM)))))) mNil)) (tgName 9)) (mSeq (mAsg (mBin eqD (mLv (mComp (([("one", 17)] : List (Str × Nat)).map (·.2)) (mItems (mVar 9)) (tgName 17) (mNotT (mTru (mCall m31 (gVal (mVar 17) gNilM)))) (mVar 17))) (mLv (mLst mNil))) (tgName 10)) (mSeq (mAsg (mAndV (mVar 10) (mBin eqD (mLv (mComp (([("one", 17)] : List (Str × Nat)).map (·.2)) (mItems (mVar 9)) (tgName 17) (mNotT (mTst (mChain leD ltD (mC (.int 0)) (mVar 17) (mC (.int 5))))) (mVar 17))) (mLv (mLst mNil)))) (tgName 11)) (mSeq (mAsg (mAndV (mVar 11) (mBin eqD (mLv (mComp (([("k", 16)] : List (Str × Nat)).map (·.2)) (mRng2 (mCons (mC (.int 1)) (mCons (mCB lenD (mCons (mVar 9) mNil)) mNil))) (tgName 16) (mTst (mBin geD (mBin ixD (mVar 9) (mBin subD (mVar 16) (mC (.int 1)))) (mBin ixD (mVar 9) (mVar 16)))) (mVar 16))) (mLv (mLst mNil)))) (tgName 12)) (mSeq (mIfS (mOrT (mTst (mBin neD (mCall m10 (gVal (mVar 9) (gVal (mC (.int 5)) gNilM))) (mVar 11))) (mOrT (mTst (mBin neD (mCall m12 (gVal (mVar 9) (gVal (mC (.int 5)) gNilM))) (mVar 12))) (mOrT (mTst (mBin nisD (mCall m10 (gVal (mCB listD (mCons (mVar 9) mNil)) (gVal (mC (.int 5)) gNilM))) (mC (.bl false)))) (mTst (mBin nisD (mCall m12 (gVal (mLv (mLst (mCons (mC (.int 1)) (mCons (mC (.int 2)) mNil)))) (gVal (mC (.int 5)) gNilM))) (mC (.bl false))))))) (mRet (mC (.bl false))) .nx) (mSeq (mIfS (mOrT (mTst (mBin neD (mCall m13 (gVal (mVar 9) (gVal (mCB lenD (mCons (mVar 9) mNil)) gNilM))) (mAndV (mVar 10) (mBin eqD (mCB sortedD (mCons (mVar 9) mNil)) (mLRg .lst (mPair1 (mCB lenD (mCons (mVar 9) mNil)))))))) (mTst (mBin nisD (mCall m13 (gVal (mTup (mCons (mC (.int 2)) (mCons (mC (.int 0)) (mCons (mC (.int 1)) mNil)))) (gVal (mC (.int 3)) gNilM))) (mC (.bl true))))) (mRet (mC (.bl false))) .nx) (mSeq (mIfS (mOrT (mTst (mBin nisD (mCall m13 (gVal (mTup (mCons (mC (.int 0)) (mCons (mC (.int 0)) mNil))) (gVal (mC (.int 2)) gNilM))) (mC (.bl false)))) (mOrT (mTst (mBin nisD (mCall m13 (gVal (mLv (mLst (mCons (mC (.int 0)) mNil))) (gVal (mC (.int 1)) gNilM))) (mC (.bl false)))) (mTst (mBin nisD (mCall m13 (gVal (mTup (mCons (mC (.int 0)) mNil)) (gVal (mC (.int 2)) gNilM))) (mC (.bl false)))))) (mRet (mC (.bl false))) .nx) (mSeq (mAsg (mLv (mComp (([("k", 16)] : List (Str × Nat)).map (·.2)) (mRng1 (mCons (mC (.int 4)) mNil)) (tgName 16) (fun st => .ok true st) (mCall m29 (gOwn 1 (gVal (mC (.int 9)) gNilM))))) (tgName 13)) (mSeq (mIfS (mOrT (mTst (mBin neD (mCall m11 (gVal (mVar 13) gNilM)) (mChain3 ltD ltD ltD (mBin ixD (mVar 13) (mC (.int 0))) (mBin ixD (mVar 13) (mC (.int 1))) (mBin ixD (mVar 13) (mC (.int 2))) (mBin ixD (mVar 13) (mC (.int 3)))))) (mTst (mBin nisD (mCall m11 (gVal (mLv (mLst mNil)) gNilM)) (mC (.bl true))))) (mRet (mC (.bl false))) .nx) (mSeq (mPar 14 15 (mCons (mCall m29 (gOwn 1 (gVal (mC (.int 60)) gNilM))) (mCons (mCall m29 (gOwn 1 (gVal (mC (.int 60)) gNilM))) mNil))) (mSeq (mIfS (mOrT (mTst (mBin neD (mCall m14 (gVal (mVar 14) (gVal (mVar 15) gNilM))) (mCall m34 (gVal (mVar 14) (gVal (mVar 15) gNilM))))) (mTst (mBin neD (mTup (mCons (mC (.str (Str.ofString "abcdefghijklmnopqrstuvwxyz"))) (mCons (mC (.str (Str.ofString "0123456789"))) (mCons (mC (.int 12)) mNil)))) (mTup (mCons (mC (.str (Str.ofString "abcdefghijklmnopqrstuvwxyz"))) (mCons (mC (.str (Str.ofString "0123456789"))) (mCons (mC (.int 12)) mNil))))))) (mRet (mC (.bl false))) .nx) (mRet (mCall0 (m35 cs)))))))))))))))))))
structure Tx (P : Program) (K : PySem.W.Frag) (mg : Str → Option Value) (fs : Nat → Addr) (fd : Nat → FuncData) (cs cc co : Nat → Addr) : Prop where
  b_ValueError : mg "ValueError" = none
  b_abs : mg "abs" = none
  b_all : mg "all" = none
  b_bool : mg "bool" = none
  b_int : mg "int" = none
  b_isinstance : mg "isinstance" = none
  b_len : mg "len" = none
  b_list : mg "list" = none
  b_max : mg "max" = none
  b_range : mg "range" = none
  b_set : mg "set" = none
  b_sorted : mg "sorted" = none
  b_str : mg "str" = none
  b_super : mg "super" = none
  b_tuple : mg "tuple" = none
  c_gcd : mg "gcd" = some (.builtin "math.gcd")
  c_DIGITS : ∃ t, mg "DIGITS" = some (.str (Str.ofString "0123456789") t)
  c_MOST_LETTERS : ∃ t, mg "MOST_LETTERS" = some (.int (12) t)
  c_SMALL : ∃ t, mg "SMALL" = some (.str (Str.ofString "abcdefghijklmnopqrstuvwxyz") t)
  g5 : mg "is_integer" = some (.ref (fs 5))
  k5 : PySem.W.keepIn K (.ref (fs 5)) = true
  F5 : Fun K "is_integer" "is_integer" s5 (fs 5) (fd 5)
  g6 : mg "is_count" = some (.ref (fs 6))
  k6 : PySem.W.keepIn K (.ref (fs 6)) = true
  F6 : Fun K "is_count" "is_count" s6 (fs 6) (fd 6)
  g7 : mg "is_below" = some (.ref (fs 7))
  k7 : PySem.W.keepIn K (.ref (fs 7)) = true
  F7 : Fun K "is_below" "is_below" s7 (fs 7) (fd 7)
  g8 : mg "is_name" = some (.ref (fs 8))
  k8 : PySem.W.keepIn K (.ref (fs 8)) = true
  F8 : Fun K "is_name" "is_name" s8 (fs 8) (fd 8)
  g9 : mg "are_names" = some (.ref (fs 9))
  k9 : PySem.W.keepIn K (.ref (fs 9)) = true
  F9 : Fun K "are_names" "are_names" s9 (fs 9) (fd 9)
  g10 : mg "are_below" = some (.ref (fs 10))
  k10 : PySem.W.keepIn K (.ref (fs 10)) = true
  F10 : Fun K "are_below" "are_below" s10 (fs 10) (fd 10)
  g11 : mg "is_rising" = some (.ref (fs 11))
  k11 : PySem.W.keepIn K (.ref (fs 11)) = true
  F11 : Fun K "is_rising" "is_rising" s11 (fs 11) (fd 11)
  g12 : mg "are_rising_below" = some (.ref (fs 12))
  k12 : PySem.W.keepIn K (.ref (fs 12)) = true
  F12 : Fun K "are_rising_below" "are_rising_below" s12 (fs 12) (fd 12)
  g13 : mg "is_order" = some (.ref (fs 13))
  k13 : PySem.W.keepIn K (.ref (fs 13)) = true
  F13 : Fun K "is_order" "is_order" s13 (fs 13) (fd 13)
  g14 : mg "common" = some (.ref (fs 14))
  k14 : PySem.W.keepIn K (.ref (fs 14)) = true
  F14 : Fun K "common" "common" s14 (fs 14) (fd 14)
  g29 : mg "_law_draw" = some (.ref (fs 29))
  k29 : PySem.W.keepIn K (.ref (fs 29)) = true
  F29 : Fun K "_law_draw" "_law_draw" s29 (fs 29) (fd 29)
  g30 : mg "_law_value" = some (.ref (fs 30))
  k30 : PySem.W.keepIn K (.ref (fs 30)) = true
  F30 : Fun K "_law_value" "_law_value" s30 (fs 30) (fd 30)
  g31 : mg "_law_whole" = some (.ref (fs 31))
  k31 : PySem.W.keepIn K (.ref (fs 31)) = true
  F31 : Fun K "_law_whole" "_law_whole" s31 (fs 31) (fd 31)
  g32 : mg "_law_text" = some (.ref (fs 32))
  k32 : PySem.W.keepIn K (.ref (fs 32)) = true
  F32 : Fun K "_law_text" "_law_text" s32 (fs 32) (fd 32)
  g33 : mg "_law_name" = some (.ref (fs 33))
  k33 : PySem.W.keepIn K (.ref (fs 33)) = true
  F33 : Fun K "_law_name" "_law_name" s33 (fs 33) (fd 33)
  g34 : mg "_law_divides" = some (.ref (fs 34))
  k34 : PySem.W.keepIn K (.ref (fs 34)) = true
  F34 : Fun K "_law_divides" "_law_divides" s34 (fs 34) (fd 34)
  g35 : mg "_law_classes" = some (.ref (fs 35))
  k35 : PySem.W.keepIn K (.ref (fs 35)) = true
  F35 : Fun K "_law_classes" "_law_classes" s35 (fs 35) (fd 35)
  g36 : mg "law" = some (.ref (fs 36))
  k36 : PySem.W.keepIn K (.ref (fs 36)) = true
  F36 : Fun K "law" "law" s36 (fs 36) (fd 36)
  n16 : mg "MoveError" = some (.ref (cs 16))
  e16 : ErrT P K "MoveError.__init__" ini16 (cs 16) (fs 16) (cc 16) (co 16) (cs 16) (fd 16)
  x16 : exaB K (cs 16) = true
  n17 : mg "TooLarge" = some (.ref (cs 17))
  e17 : ErrT P K "TooLarge.__init__" ini17 (cs 17) (fs 17) (cc 17) (co 17) (cs 16) (fd 17)
  u17 : subB K (cs 17) (fs 16) = true
  x17 : exaB K (cs 17) = true
  n18 : mg "InvalidWeb" = some (.ref (cs 18))
  e18 : ErrT P K "InvalidWeb.__init__" ini18 (cs 18) (fs 18) (cc 18) (co 18) (cs 16) (fd 18)
  u18 : subB K (cs 18) (fs 16) = true
  x18 : exaB K (cs 18) = true
  n19 : mg "InvalidHueing" = some (.ref (cs 19))
  e19 : ErrT P K "InvalidHueing.__init__" ini19 (cs 19) (fs 19) (cc 19) (co 19) (cs 16) (fd 19)
  u19 : subB K (cs 19) (fs 16) = true
  x19 : exaB K (cs 19) = true
  n20 : mg "InvalidText" = some (.ref (cs 20))
  e20 : ErrT P K "InvalidText.__init__" ini20 (cs 20) (fs 20) (cc 20) (co 20) (cs 16) (fd 20)
  u20 : subB K (cs 20) (fs 16) = true
  x20 : exaB K (cs 20) = true
  n21 : mg "InvalidMoment" = some (.ref (cs 21))
  e21 : ErrT P K "InvalidMoment.__init__" ini21 (cs 21) (fs 21) (cc 21) (co 21) (cs 16) (fd 21)
  u21 : subB K (cs 21) (fs 16) = true
  x21 : exaB K (cs 21) = true
  n22 : mg "InvalidMotion" = some (.ref (cs 22))
  e22 : ErrT P K "InvalidMotion.__init__" ini22 (cs 22) (fs 22) (cc 22) (co 22) (cs 16) (fd 22)
  u22 : subB K (cs 22) (fs 16) = true
  x22 : exaB K (cs 22) = true
  n23 : mg "InvalidTurning" = some (.ref (cs 23))
  e23 : ErrT P K "InvalidTurning.__init__" ini23 (cs 23) (fs 23) (cc 23) (co 23) (cs 16) (fd 23)
  u23 : subB K (cs 23) (fs 16) = true
  x23 : exaB K (cs 23) = true
  n24 : mg "InvalidFrame" = some (.ref (cs 24))
  e24 : ErrT P K "InvalidFrame.__init__" ini24 (cs 24) (fs 24) (cc 24) (co 24) (cs 16) (fd 24)
  u24 : subB K (cs 24) (fs 16) = true
  x24 : exaB K (cs 24) = true
  n25 : mg "InvalidPaper" = some (.ref (cs 25))
  e25 : ErrT P K "InvalidPaper.__init__" ini25 (cs 25) (fs 25) (cc 25) (co 25) (cs 16) (fd 25)
  u25 : subB K (cs 25) (fs 16) = true
  x25 : exaB K (cs 25) = true
  n26 : mg "InvalidAct" = some (.ref (cs 26))
  e26 : ErrT P K "InvalidAct.__init__" ini26 (cs 26) (fs 26) (cc 26) (co 26) (cs 16) (fd 26)
  u26 : subB K (cs 26) (fs 16) = true
  x26 : exaB K (cs 26) = true
  n27 : mg "InvalidPlace" = some (.ref (cs 27))
  e27 : ErrT P K "InvalidPlace.__init__" ini27 (cs 27) (fs 27) (cc 27) (co 27) (cs 16) (fd 27)
  u27 : subB K (cs 27) (fs 16) = true
  x27 : exaB K (cs 27) = true
  q16_16 : PySem.W.kitOne K (.ref (cs 16)) (.ref (cs 16)) = some true
  q17_16 : PySem.W.kitOne K (.ref (cs 17)) (.ref (cs 16)) = some true
  q18_16 : PySem.W.kitOne K (.ref (cs 18)) (.ref (cs 16)) = some true
  q19_16 : PySem.W.kitOne K (.ref (cs 19)) (.ref (cs 16)) = some true
  q20_16 : PySem.W.kitOne K (.ref (cs 20)) (.ref (cs 16)) = some true
  q21_16 : PySem.W.kitOne K (.ref (cs 21)) (.ref (cs 16)) = some true
  q22_16 : PySem.W.kitOne K (.ref (cs 22)) (.ref (cs 16)) = some true
  q23_16 : PySem.W.kitOne K (.ref (cs 23)) (.ref (cs 16)) = some true
  q24_16 : PySem.W.kitOne K (.ref (cs 24)) (.ref (cs 16)) = some true
  q25_16 : PySem.W.kitOne K (.ref (cs 25)) (.ref (cs 16)) = some true
  q26_16 : PySem.W.kitOne K (.ref (cs 26)) (.ref (cs 16)) = some true
  q27_16 : PySem.W.kitOne K (.ref (cs 27)) (.ref (cs 16)) = some true
  q16_17 : PySem.W.kitOne K (.ref (cs 16)) (.ref (cs 17)) = some false
  q17_17 : PySem.W.kitOne K (.ref (cs 17)) (.ref (cs 17)) = some true
  q18_17 : PySem.W.kitOne K (.ref (cs 18)) (.ref (cs 17)) = some false
  q19_17 : PySem.W.kitOne K (.ref (cs 19)) (.ref (cs 17)) = some false
  q20_17 : PySem.W.kitOne K (.ref (cs 20)) (.ref (cs 17)) = some false
  q21_17 : PySem.W.kitOne K (.ref (cs 21)) (.ref (cs 17)) = some false
  q22_17 : PySem.W.kitOne K (.ref (cs 22)) (.ref (cs 17)) = some false
  q23_17 : PySem.W.kitOne K (.ref (cs 23)) (.ref (cs 17)) = some false
  q24_17 : PySem.W.kitOne K (.ref (cs 24)) (.ref (cs 17)) = some false
  q25_17 : PySem.W.kitOne K (.ref (cs 25)) (.ref (cs 17)) = some false
  q26_17 : PySem.W.kitOne K (.ref (cs 26)) (.ref (cs 17)) = some false
  q27_17 : PySem.W.kitOne K (.ref (cs 27)) (.ref (cs 17)) = some false
  q16_V : PySem.W.kitOne K (.ref (cs 16)) (.type "ValueError") = some true
  q17_V : PySem.W.kitOne K (.ref (cs 17)) (.type "ValueError") = some true
  q18_V : PySem.W.kitOne K (.ref (cs 18)) (.type "ValueError") = some true
  q19_V : PySem.W.kitOne K (.ref (cs 19)) (.type "ValueError") = some true
  q20_V : PySem.W.kitOne K (.ref (cs 20)) (.type "ValueError") = some true
  q21_V : PySem.W.kitOne K (.ref (cs 21)) (.type "ValueError") = some true
  q22_V : PySem.W.kitOne K (.ref (cs 22)) (.type "ValueError") = some true
  q23_V : PySem.W.kitOne K (.ref (cs 23)) (.type "ValueError") = some true
  q24_V : PySem.W.kitOne K (.ref (cs 24)) (.type "ValueError") = some true
  q25_V : PySem.W.kitOne K (.ref (cs 25)) (.type "ValueError") = some true
  q26_V : PySem.W.kitOne K (.ref (cs 26)) (.type "ValueError") = some true
  q27_V : PySem.W.kitOne K (.ref (cs 27)) (.type "ValueError") = some true
section
variable {P : Program} {w : World} {K : PySem.W.Frag} {mg : Str → Option Value} {base : Heap} {fs : Nat → Addr} {fd : Nat → FuncData} {cs cc co : Nat → Addr}
theorem in16 {k : Nat} (T : Tx P K mg fs fd cs cc co) : FnOk P w K mg base (L2.CX P w) (k + 1) (fs 16) (fd 16) ["self", "place"] (spI (okB K (cs 16)) (fsB "MoveError")) := ini_base T.e16.I T.b_super rfl (NdefX.nscope_by (by decide +kernel)) rfl (fun env => rfl) ⟨_, _, rfl, rfl⟩
theorem E16 (T : Tx P K mg fs fd cs cc co) : MkE P w K mg base 2 "MoveError" (cs 16) "MoveError" := mkE_base T.e16 T.n16 (in16 T) (T.e16.bind fun _ _ _ _ _ us hl => match us, hl with | [_, _], _ => rfl) (fun _ => rfl) (fun _ => rfl)
theorem E17 (T : Tx P K mg fs fd cs cc co) : MkE P w K mg base 2 "TooLarge" (cs 17) "TooLarge" := mkE_sub T.e17 T.n17 (ini_sub T.e17.I T.b_super rfl (NdefX.nscope_by (by decide +kernel)) rfl (fun env => rfl) ⟨_, _, rfl, rfl⟩ (in16 T) (T.e16.bind fun _ _ _ _ _ us hl => match us, hl with | [_, _], _ => rfl) ⟨T.e17.E, T.e17.m, T.e17.s⟩ (subB_by T.u17).1 (subB_by T.u17).2.1 (subB_by T.u17).2.2.1 (subB_by T.u17).2.2.2) (T.e17.bind fun _ _ _ _ _ us hl => match us, hl with | [_, _], _ => rfl) (fun _ => rfl) (fun _ => rfl)
theorem E18 (T : Tx P K mg fs fd cs cc co) : MkE P w K mg base 2 "InvalidWeb" (cs 18) "InvalidWeb" := mkE_sub T.e18 T.n18 (ini_sub T.e18.I T.b_super rfl (NdefX.nscope_by (by decide +kernel)) rfl (fun env => rfl) ⟨_, _, rfl, rfl⟩ (in16 T) (T.e16.bind fun _ _ _ _ _ us hl => match us, hl with | [_, _], _ => rfl) ⟨T.e18.E, T.e18.m, T.e18.s⟩ (subB_by T.u18).1 (subB_by T.u18).2.1 (subB_by T.u18).2.2.1 (subB_by T.u18).2.2.2) (T.e18.bind fun _ _ _ _ _ us hl => match us, hl with | [_, _], _ => rfl) (fun _ => rfl) (fun _ => rfl)
theorem E19 (T : Tx P K mg fs fd cs cc co) : MkE P w K mg base 2 "InvalidHueing" (cs 19) "InvalidHueing" := mkE_sub T.e19 T.n19 (ini_sub T.e19.I T.b_super rfl (NdefX.nscope_by (by decide +kernel)) rfl (fun env => rfl) ⟨_, _, rfl, rfl⟩ (in16 T) (T.e16.bind fun _ _ _ _ _ us hl => match us, hl with | [_, _], _ => rfl) ⟨T.e19.E, T.e19.m, T.e19.s⟩ (subB_by T.u19).1 (subB_by T.u19).2.1 (subB_by T.u19).2.2.1 (subB_by T.u19).2.2.2) (T.e19.bind fun _ _ _ _ _ us hl => match us, hl with | [_, _], _ => rfl) (fun _ => rfl) (fun _ => rfl)
theorem E20 (T : Tx P K mg fs fd cs cc co) : MkE P w K mg base 2 "InvalidText" (cs 20) "InvalidText" := mkE_sub T.e20 T.n20 (ini_sub T.e20.I T.b_super rfl (NdefX.nscope_by (by decide +kernel)) rfl (fun env => rfl) ⟨_, _, rfl, rfl⟩ (in16 T) (T.e16.bind fun _ _ _ _ _ us hl => match us, hl with | [_, _], _ => rfl) ⟨T.e20.E, T.e20.m, T.e20.s⟩ (subB_by T.u20).1 (subB_by T.u20).2.1 (subB_by T.u20).2.2.1 (subB_by T.u20).2.2.2) (T.e20.bind fun _ _ _ _ _ us hl => match us, hl with | [_, _], _ => rfl) (fun _ => rfl) (fun _ => rfl)
theorem E21 (T : Tx P K mg fs fd cs cc co) : MkE P w K mg base 2 "InvalidMoment" (cs 21) "InvalidMoment" := mkE_sub T.e21 T.n21 (ini_sub T.e21.I T.b_super rfl (NdefX.nscope_by (by decide +kernel)) rfl (fun env => rfl) ⟨_, _, rfl, rfl⟩ (in16 T) (T.e16.bind fun _ _ _ _ _ us hl => match us, hl with | [_, _], _ => rfl) ⟨T.e21.E, T.e21.m, T.e21.s⟩ (subB_by T.u21).1 (subB_by T.u21).2.1 (subB_by T.u21).2.2.1 (subB_by T.u21).2.2.2) (T.e21.bind fun _ _ _ _ _ us hl => match us, hl with | [_, _], _ => rfl) (fun _ => rfl) (fun _ => rfl)
theorem E22 (T : Tx P K mg fs fd cs cc co) : MkE P w K mg base 2 "InvalidMotion" (cs 22) "InvalidMotion" := mkE_sub T.e22 T.n22 (ini_sub T.e22.I T.b_super rfl (NdefX.nscope_by (by decide +kernel)) rfl (fun env => rfl) ⟨_, _, rfl, rfl⟩ (in16 T) (T.e16.bind fun _ _ _ _ _ us hl => match us, hl with | [_, _], _ => rfl) ⟨T.e22.E, T.e22.m, T.e22.s⟩ (subB_by T.u22).1 (subB_by T.u22).2.1 (subB_by T.u22).2.2.1 (subB_by T.u22).2.2.2) (T.e22.bind fun _ _ _ _ _ us hl => match us, hl with | [_, _], _ => rfl) (fun _ => rfl) (fun _ => rfl)
theorem E23 (T : Tx P K mg fs fd cs cc co) : MkE P w K mg base 2 "InvalidTurning" (cs 23) "InvalidTurning" := mkE_sub T.e23 T.n23 (ini_sub T.e23.I T.b_super rfl (NdefX.nscope_by (by decide +kernel)) rfl (fun env => rfl) ⟨_, _, rfl, rfl⟩ (in16 T) (T.e16.bind fun _ _ _ _ _ us hl => match us, hl with | [_, _], _ => rfl) ⟨T.e23.E, T.e23.m, T.e23.s⟩ (subB_by T.u23).1 (subB_by T.u23).2.1 (subB_by T.u23).2.2.1 (subB_by T.u23).2.2.2) (T.e23.bind fun _ _ _ _ _ us hl => match us, hl with | [_, _], _ => rfl) (fun _ => rfl) (fun _ => rfl)
theorem E24 (T : Tx P K mg fs fd cs cc co) : MkE P w K mg base 2 "InvalidFrame" (cs 24) "InvalidFrame" := mkE_sub T.e24 T.n24 (ini_sub T.e24.I T.b_super rfl (NdefX.nscope_by (by decide +kernel)) rfl (fun env => rfl) ⟨_, _, rfl, rfl⟩ (in16 T) (T.e16.bind fun _ _ _ _ _ us hl => match us, hl with | [_, _], _ => rfl) ⟨T.e24.E, T.e24.m, T.e24.s⟩ (subB_by T.u24).1 (subB_by T.u24).2.1 (subB_by T.u24).2.2.1 (subB_by T.u24).2.2.2) (T.e24.bind fun _ _ _ _ _ us hl => match us, hl with | [_, _], _ => rfl) (fun _ => rfl) (fun _ => rfl)
theorem E25 (T : Tx P K mg fs fd cs cc co) : MkE P w K mg base 2 "InvalidPaper" (cs 25) "InvalidPaper" := mkE_sub T.e25 T.n25 (ini_sub T.e25.I T.b_super rfl (NdefX.nscope_by (by decide +kernel)) rfl (fun env => rfl) ⟨_, _, rfl, rfl⟩ (in16 T) (T.e16.bind fun _ _ _ _ _ us hl => match us, hl with | [_, _], _ => rfl) ⟨T.e25.E, T.e25.m, T.e25.s⟩ (subB_by T.u25).1 (subB_by T.u25).2.1 (subB_by T.u25).2.2.1 (subB_by T.u25).2.2.2) (T.e25.bind fun _ _ _ _ _ us hl => match us, hl with | [_, _], _ => rfl) (fun _ => rfl) (fun _ => rfl)
theorem E26 (T : Tx P K mg fs fd cs cc co) : MkE P w K mg base 2 "InvalidAct" (cs 26) "InvalidAct" := mkE_sub T.e26 T.n26 (ini_sub T.e26.I T.b_super rfl (NdefX.nscope_by (by decide +kernel)) rfl (fun env => rfl) ⟨_, _, rfl, rfl⟩ (in16 T) (T.e16.bind fun _ _ _ _ _ us hl => match us, hl with | [_, _], _ => rfl) ⟨T.e26.E, T.e26.m, T.e26.s⟩ (subB_by T.u26).1 (subB_by T.u26).2.1 (subB_by T.u26).2.2.1 (subB_by T.u26).2.2.2) (T.e26.bind fun _ _ _ _ _ us hl => match us, hl with | [_, _], _ => rfl) (fun _ => rfl) (fun _ => rfl)
theorem E27 (T : Tx P K mg fs fd cs cc co) : MkE P w K mg base 2 "InvalidPlace" (cs 27) "InvalidPlace" := mkE_sub T.e27 T.n27 (ini_sub T.e27.I T.b_super rfl (NdefX.nscope_by (by decide +kernel)) rfl (fun env => rfl) ⟨_, _, rfl, rfl⟩ (in16 T) (T.e16.bind fun _ _ _ _ _ us hl => match us, hl with | [_, _], _ => rfl) ⟨T.e27.E, T.e27.m, T.e27.s⟩ (subB_by T.u27).1 (subB_by T.u27).2.1 (subB_by T.u27).2.2.1 (subB_by T.u27).2.2.2) (T.e27.bind fun _ _ _ _ _ us hl => match us, hl with | [_, _], _ => rfl) (fun _ => rfl) (fun _ => rfl)
theorem okE_ok (T : Tx P K mg fs fd cs cc co) (C : Addr) (h : okE cs C = true) : ExA K C := by
  simp only [okE, Bool.or_eq_true, decide_eq_true_eq, or_assoc] at h
  rcases h with h | h | h | h | h | h | h | h | h | h | h | h
  · subst h; exact exa_by T.x16
  · subst h; exact exa_by T.x17
  · subst h; exact exa_by T.x18
  · subst h; exact exa_by T.x19
  · subst h; exact exa_by T.x20
  · subst h; exact exa_by T.x21
  · subst h; exact exa_by T.x22
  · subst h; exact exa_by T.x23
  · subst h; exact exa_by T.x24
  · subst h; exact exa_by T.x25
  · subst h; exact exa_by T.x26
  · subst h; exact exa_by T.x27
theorem tb16_ok (T : Tx P K mg fs fd cs cc co) (C : Addr) (b : Bool) (h : tb16 cs C = some b) : ExA K C ∧ PySem.W.kitOne K (.ref C) (.ref (cs 16)) = some b := by
  unfold tb16 at h
  split at h
  · rename_i h1
    cases h
    refine ⟨okE_ok T C h1, ?_⟩
    simp only [okE, Bool.or_eq_true, decide_eq_true_eq, or_assoc] at h1
    rcases h1 with h | h | h | h | h | h | h | h | h | h | h | h
    · subst h; exact T.q16_16
    · subst h; exact T.q17_16
    · subst h; exact T.q18_16
    · subst h; exact T.q19_16
    · subst h; exact T.q20_16
    · subst h; exact T.q21_16
    · subst h; exact T.q22_16
    · subst h; exact T.q23_16
    · subst h; exact T.q24_16
    · subst h; exact T.q25_16
    · subst h; exact T.q26_16
    · subst h; exact T.q27_16
  · cases h
theorem tb17_ok (T : Tx P K mg fs fd cs cc co) (C : Addr) (b : Bool) (h : tb17 cs C = some b) : ExA K C ∧ PySem.W.kitOne K (.ref C) (.ref (cs 17)) = some b := by
  unfold tb17 at h
  split at h
  · rename_i h1; cases h; subst h1; exact ⟨exa_by T.x16, T.q16_17⟩
  split at h
  · rename_i h1; cases h; subst h1; exact ⟨exa_by T.x17, T.q17_17⟩
  split at h
  · rename_i h1; cases h; subst h1; exact ⟨exa_by T.x18, T.q18_17⟩
  split at h
  · rename_i h1; cases h; subst h1; exact ⟨exa_by T.x19, T.q19_17⟩
  split at h
  · rename_i h1; cases h; subst h1; exact ⟨exa_by T.x20, T.q20_17⟩
  split at h
  · rename_i h1; cases h; subst h1; exact ⟨exa_by T.x21, T.q21_17⟩
  split at h
  · rename_i h1; cases h; subst h1; exact ⟨exa_by T.x22, T.q22_17⟩
  split at h
  · rename_i h1; cases h; subst h1; exact ⟨exa_by T.x23, T.q23_17⟩
  split at h
  · rename_i h1; cases h; subst h1; exact ⟨exa_by T.x24, T.q24_17⟩
  split at h
  · rename_i h1; cases h; subst h1; exact ⟨exa_by T.x25, T.q25_17⟩
  split at h
  · rename_i h1; cases h; subst h1; exact ⟨exa_by T.x26, T.q26_17⟩
  split at h
  · rename_i h1; cases h; subst h1; exact ⟨exa_by T.x27, T.q27_17⟩
  · cases h
theorem tbV_ok (T : Tx P K mg fs fd cs cc co) (C : Addr) (b : Bool) (h : tbV cs C = some b) : ExA K C ∧ PySem.W.kitOne K (.ref C) (.type "ValueError") = some b := by
  unfold tbV at h
  split at h
  · rename_i h1
    cases h
    refine ⟨okE_ok T C h1, ?_⟩
    simp only [okE, Bool.or_eq_true, decide_eq_true_eq, or_assoc] at h1
    rcases h1 with h | h | h | h | h | h | h | h | h | h | h | h
    · subst h; exact T.q16_V
    · subst h; exact T.q17_V
    · subst h; exact T.q18_V
    · subst h; exact T.q19_V
    · subst h; exact T.q20_V
    · subst h; exact T.q21_V
    · subst h; exact T.q22_V
    · subst h; exact T.q23_V
    · subst h; exact T.q24_V
    · subst h; exact T.q25_V
    · subst h; exact T.q26_V
    · subst h; exact T.q27_V
  · cases h
theorem sc5 : FnScope N5 ["value"] (defScope s5) := ⟨rfl, rfl, rfl, by decide +kernel, rfl, by decide +kernel, by decide +kernel⟩
theorem ok5 (T : Tx P K mg fs fd cs cc co) : FnOk P w K mg base (L2.CX P w) 1 (fs 5) (fd 5) ["value"] (spM K mg m5) :=
  have S := sc5
  def_ok T.F5 S fun cdv A outer s H E hr tk =>
    (rs_one (rs_ret (re_and (re_isTy .int (re_var 0 (pv 0)) T.b_isinstance T.b_int (by decide +kernel)) (re_one (re_not (re_isTy .bool (re_var 0 (pv 0)) T.b_isinstance T.b_bool (by decide +kernel)))))))
theorem sc6 : FnScope N6 ["value"] (defScope s6) := ⟨rfl, rfl, rfl, by decide +kernel, rfl, by decide +kernel, by decide +kernel⟩
theorem ok6 (T : Tx P K mg fs fd cs cc co) : FnOk P w K mg base (L2.CX P w) 2 (fs 6) (fd 6) ["value"] (spM K mg m6) :=
  have S := sc6
  def_ok T.F6 S fun cdv A outer s H E hr tk =>
    (rs_one (rs_ret (re_and (re_call (ok5 T) (hr.mono (by decide)) T.g5 T.k5 (T.F5.binds fun _ _ _ _ _ _ us hl => match us, hl with | [_], _ => rfl) tk (rg_val (re_var 0 (pv 0)) rg_nil)) (re_one (re_cmp od_ge (re_var 0 (pv 0)) re_int)))))
theorem sc7 : FnScope N7 ["value", "limit"] (defScope s7) := ⟨rfl, rfl, rfl, by decide +kernel, rfl, by decide +kernel, by decide +kernel⟩
theorem ok7 (T : Tx P K mg fs fd cs cc co) : FnOk P w K mg base (L2.CX P w) 3 (fs 7) (fd 7) ["value", "limit"] (spM K mg m7) :=
  have S := sc7
  def_ok T.F7 S fun cdv A outer s H E hr tk =>
    (rs_one (rs_ret (re_and (re_call (ok6 T) (hr.mono (by decide)) T.g6 T.k6 (T.F6.binds fun _ _ _ _ _ _ us hl => match us, hl with | [_], _ => rfl) tk (rg_val (re_var 0 (pv 0)) rg_nil)) (re_one (re_cmp od_lt (re_var 0 (pv 0)) (re_var 1 (pv 1)))))))
theorem sc8 : FnScope N8 ["value"] (defScope s8) := ⟨rfl, rfl, rfl, by decide +kernel, rfl, by decide +kernel, by decide +kernel⟩
theorem ok8 (T : Tx P K mg fs fd cs cc co) : FnOk P w K mg base (L2.CX P w) 1 (fs 8) (fd 8) ["value"] (spM K mg m8) :=
  have S := sc8
  def_ok T.F8 S fun cdv A outer s H E hr tk =>
    (rs_cons (rs_if (rw_or (rt_not (rt_truth (re_isTy .str (re_var 0 (pv 0)) T.b_isinstance T.b_str (by decide +kernel)))) (rw_or (rt_not (rt_chain od_le od_le re_int (re_callB cd_len T.b_len PySem.boot_len (ra_cons (re_var 0 (pv 0)) ra_nil)) (re_gint T.c_MOST_LETTERS))) (rw_or1 (rt_cmp (od_nin (room65 hr)) (re_ix xd_ix (re_var 0 (pv 0)) re_int) (re_gstr T.c_SMALL))))).rt (rs_one (rs_ret re_bl)) rs_nil) (rs_one (rs_ret (re_callB (cd_all rfl) T.b_all (by decide +kernel) (ra_cons (re_of_rn (rn_lc rfl S.nd (blkOk_by (own := [("sign", 1)]) (N := N8) (sc := defScope s8) (by decide +kernel)) (ri_seq (re_var 0 (pv 0))) (fun _ _ _ _ _ => (rg_name (pg_name (i := 1) (S.nd) rfl (by first | exact Or.inl rfl | exact Or.inr rfl)))) (by decide) (fun _ _ _ _ _ => rts_nil) (fun _ _ _ _ _ => (re_or (re_cmp (od_in (room65 hr)) (re_var 1 (pv 1)) (re_gstr T.c_SMALL)) (re_one (re_cmp (od_in (room65 hr)) (re_var 1 (pv 1)) (re_gstr T.c_DIGITS))))))) ra_nil)))))
theorem sc9 : FnScope N9 ["value"] (defScope s9) := ⟨rfl, rfl, rfl, by decide +kernel, rfl, by decide +kernel, by decide +kernel⟩
theorem ok9 (T : Tx P K mg fs fd cs cc co) : FnOk P w K mg base (L2.CX P w) 2 (fs 9) (fd 9) ["value"] (spM K mg m9) :=
  have S := sc9
  def_ok T.F9 S fun cdv A outer s H E hr tk =>
    (rs_one (rs_ret (re_and (re_isTy .tuple (re_var 0 (pv 0)) T.b_isinstance T.b_tuple (by decide +kernel)) (re_and (re_callB (cd_all rfl) T.b_all (by decide +kernel) (ra_cons (re_of_rn (rn_lc rfl S.nd (blkOk_by (own := [("one", 1)]) (N := N9) (sc := defScope s9) (by decide +kernel)) (ri_seq (re_var 0 (pv 0))) (fun _ _ _ _ _ => (rg_name (pg_name (i := 1) (S.nd) rfl (by first | exact Or.inl rfl | exact Or.inr rfl)))) (by decide) (fun _ _ _ _ _ => rts_nil) (fun _ _ _ _ _ => (re_call (ok8 T) (hr.mono (by decide)) T.g8 T.k8 (T.F8.binds fun _ _ _ _ _ _ us hl => match us, hl with | [_], _ => rfl) takes0 (rg_val (re_var 1 (pv 1)) rg_nil))))) ra_nil)) (re_one (re_cmp (od_eq hr.units) (re_lenSet (re_var 0 (pv 0)) T.b_len T.b_set rfl) (re_callB cd_len T.b_len PySem.boot_len (ra_cons (re_var 0 (pv 0)) ra_nil))))))))
theorem sc10 : FnScope N10 ["value", "limit"] (defScope s10) := ⟨rfl, rfl, rfl, by decide +kernel, rfl, by decide +kernel, by decide +kernel⟩
theorem ok10 (T : Tx P K mg fs fd cs cc co) : FnOk P w K mg base (L2.CX P w) 4 (fs 10) (fd 10) ["value", "limit"] (spM K mg m10) :=
  have S := sc10
  def_ok T.F10 S fun cdv A outer s H E hr tk =>
    (rs_one (rs_ret (re_and (re_isTy .tuple (re_var 0 (pv 0)) T.b_isinstance T.b_tuple (by decide +kernel)) (re_one (re_callB (cd_all rfl) T.b_all (by decide +kernel) (ra_cons (re_of_rn (rn_lc rfl S.nd (blkOk_by (own := [("one", 2)]) (N := N10) (sc := defScope s10) (by decide +kernel)) (ri_seq (re_var 0 (pv 0))) (fun _ _ _ _ _ => (rg_name (pg_name (i := 2) (S.nd) rfl (by first | exact Or.inl rfl | exact Or.inr rfl)))) (by decide) (fun _ _ _ _ _ => rts_nil) (fun _ _ _ _ _ => (re_call (ok7 T) (hr.mono (by decide)) T.g7 T.k7 (T.F7.binds fun _ _ _ _ _ _ us hl => match us, hl with | [_, _], _ => rfl) takes0 (rg_val (re_var 2 (pv 2)) (rg_val (re_var 1 (pv 1)) rg_nil)))))) ra_nil))))))
theorem sc11 : FnScope N11 ["value"] (defScope s11) := ⟨rfl, rfl, rfl, by decide +kernel, rfl, by decide +kernel, by decide +kernel⟩
theorem ok11 (T : Tx P K mg fs fd cs cc co) : FnOk P w K mg base (L2.CX P w) 1 (fs 11) (fd 11) ["value"] (spM K mg m11) :=
  have S := sc11
  def_ok T.F11 S fun cdv A outer s H E hr tk =>
    (rs_one (rs_ret (re_callB (cd_all rfl) T.b_all (by decide +kernel) (ra_cons (re_of_rn (rn_lc rfl S.nd (blkOk_by (own := [("k", 1)]) (N := N11) (sc := defScope s11) (by decide +kernel)) (ri_rng2 (ra_cons re_int (ra_cons (re_callB cd_len T.b_len PySem.boot_len (ra_cons (re_var 0 (pv 0)) ra_nil)) ra_nil)) T.b_range) (fun _ _ _ _ _ => (rg_name (pg_name (i := 1) (S.nd) rfl (by first | exact Or.inl rfl | exact Or.inr rfl)))) (by decide) (fun _ _ _ _ _ => rts_nil) (fun _ _ _ _ _ => (re_cmp od_lt (re_ix xd_ix (re_var 0 (pv 0)) (re_bin od_sub (re_var 1 (pv 1)) re_int)) (re_ix xd_ix (re_var 0 (pv 0)) (re_var 1 (pv 1))))))) ra_nil))))
theorem sc12 : FnScope N12 ["value", "limit"] (defScope s12) := ⟨rfl, rfl, rfl, by decide +kernel, rfl, by decide +kernel, by decide +kernel⟩
theorem ok12 (T : Tx P K mg fs fd cs cc co) : FnOk P w K mg base (L2.CX P w) 5 (fs 12) (fd 12) ["value", "limit"] (spM K mg m12) :=
  have S := sc12
  def_ok T.F12 S fun cdv A outer s H E hr tk =>
    (rs_one (rs_ret (re_and (re_call (ok10 T) (hr.mono (by decide)) T.g10 T.k10 (T.F10.binds fun _ _ _ _ _ _ us hl => match us, hl with | [_, _], _ => rfl) tk (rg_val (re_var 0 (pv 0)) (rg_val (re_var 1 (pv 1)) rg_nil))) (re_one (re_call (ok11 T) (hr.mono (by decide)) T.g11 T.k11 (T.F11.binds fun _ _ _ _ _ _ us hl => match us, hl with | [_], _ => rfl) tk (rg_val (re_var 0 (pv 0)) rg_nil))))))
theorem sc13 : FnScope N13 ["value", "many"] (defScope s13) := ⟨rfl, rfl, rfl, by decide +kernel, rfl, by decide +kernel, by decide +kernel⟩
theorem ok13 (T : Tx P K mg fs fd cs cc co) : FnOk P w K mg base (L2.CX P w) 5 (fs 13) (fd 13) ["value", "many"] (spM K mg m13) :=
  have S := sc13
  def_ok T.F13 S fun cdv A outer s H E hr tk =>
    (rs_one (rs_ret (re_and (re_call (ok10 T) (hr.mono (by decide)) T.g10 T.k10 (T.F10.binds fun _ _ _ _ _ _ us hl => match us, hl with | [_, _], _ => rfl) tk (rg_val (re_var 0 (pv 0)) (rg_val (re_var 1 (pv 1)) rg_nil))) (re_and (re_cmp (od_eq hr.units) (re_callB cd_len T.b_len PySem.boot_len (ra_cons (re_var 0 (pv 0)) ra_nil)) (re_var 1 (pv 1))) (re_one (re_cmp (od_eq hr.units) (re_lenSet (re_var 0 (pv 0)) T.b_len T.b_set rfl) (re_var 1 (pv 1))))))))
theorem sc14 : FnScope N14 ["a", "b"] (defScope s14) := ⟨rfl, rfl, rfl, by decide +kernel, rfl, by decide +kernel, by decide +kernel⟩
theorem ok14 (T : Tx P K mg fs fd cs cc co) : FnOk P w K mg base (L2.CX P w) 1 (fs 14) (fd 14) ["a", "b"] (spM K mg m14) :=
  have S := sc14
  def_ok T.F14 S fun cdv A outer s H E hr tk =>
    (rs_one (rs_ret (re_callM cd_gcd T.c_gcd (ra_cons (re_var 0 (pv 0)) (ra_cons (re_var 1 (pv 1)) ra_nil)))))
theorem sc29 : FnScope N29 ["tape", "many"] (defScope s29) := ⟨rfl, rfl, rfl, by decide +kernel, rfl, by decide +kernel, by decide +kernel⟩
theorem ok29 (T : Tx P K mg fs fd cs cc co) : FnOk P w K mg base (L2.CX P w) 1 (fs 29) (fd 29) ["tape", "many"] (spM K mg m29) :=
  have S := sc29
  def_ok T.F29 S fun cdv A outer s H E hr tk =>
    (rs_cons (rs_if (rt_cmp (od_eq hr.units) (re_ixO (i := 0) (pv 0) re_int) re_int) (rs_cons (rs_set (i := 2) S.nd rfl (by first | exact Or.inl rfl | exact Or.inr rfl) (re_ifExp (rt_cmp od_lt (re_ixO (i := 0) (pv 0) re_int) (re_callB cd_len T.b_len PySem.boot_len (ra_cons (re_ixO (i := 0) (pv 0) re_int) ra_nil))) (re_callB cd_abs T.b_abs (by decide +kernel) (ra_cons (re_callTy cd_int T.b_int (by decide +kernel) (ra_cons (re_ix xd_ix (re_ixO (i := 0) (pv 0) re_int) (re_ixO (i := 0) (pv 0) re_int)) ra_nil)) ra_nil)) re_int)) (rs_cons (rs_setAt (i := 0) (pv 0) (re_bin od_add (re_ixO (i := 0) (pv 0) re_int) re_int) re_int) (rs_cons (rs_setAt (i := 0) (pv 0) (re_bin od_mod (re_callTy cd_int T.b_int (by decide +kernel) (ra_cons (re_bin od_add (re_bin od_add (re_bin od_mul (re_ixO (i := 0) (pv 0) re_int) re_int) (re_bin od_mul (re_var 2 (pv 2)) re_int)) re_int) ra_nil)) re_int) re_int) (rs_one (rs_setAt (i := 0) (pv 0) (re_ifExp (rt_cmp od_ge (re_var 2 (pv 2)) (re_bin od_pow re_int re_int)) (re_var 2 (pv 2)) re_int) re_int))))) rs_nil) (rs_cons (rs_if (rt_cmp od_gt (re_ixO (i := 0) (pv 0) re_int) re_int) (rs_cons (rs_set (i := 3) S.nd rfl (by first | exact Or.inl rfl | exact Or.inr rfl) (re_bin od_mod (re_callTy cd_int T.b_int (by decide +kernel) (ra_cons (re_ixO (i := 0) (pv 0) re_int) ra_nil)) (re_var 1 (pv 1)))) (rs_cons (rs_setAt (i := 0) (pv 0) (re_bin od_div (re_callTy cd_int T.b_int (by decide +kernel) (ra_cons (re_ixO (i := 0) (pv 0) re_int) ra_nil)) (re_var 1 (pv 1))) re_int) (rs_one (rs_ret (re_var 3 (pv 3)))))) rs_nil) (rs_one (rs_ret (re_bin od_mod (re_callTy cd_int T.b_int (by decide +kernel) (ra_cons (re_bin od_div (re_ixO (i := 0) (pv 0) re_int) re_int) ra_nil)) (re_var 1 (pv 1)))))))
theorem sc30 : FnScope N30 ["tape"] (defScope s30) := ⟨rfl, rfl, rfl, by decide +kernel, rfl, by decide +kernel, by decide +kernel⟩
theorem ok30 (T : Tx P K mg fs fd cs cc co) : FnOk P w K mg base (L2.CX P w) 2 (fs 30) (fd 30) ["tape"] (spM K mg m30) :=
  have S := sc30
  def_ok T.F30 S fun cdv A outer s H E hr tk =>
    (rs_cons (rs_set (i := 1) S.nd rfl (by first | exact Or.inl rfl | exact Or.inr rfl) (re_of_rn (rn_lst (ra_cons (re_un ud_neg re_int) (ra_cons re_int (ra_cons re_int (ra_cons re_int (ra_cons (re_bin od_pow re_int re_int) (ra_cons re_bl (ra_cons re_bl (ra_cons re_non (ra_cons re_str (ra_cons re_str (ra_cons (re_tup ra_nil) (ra_cons (re_tup (ra_cons re_int ra_nil)) (ra_cons (re_of_rn (rn_lst (ra_cons re_int ra_nil))) ra_nil)))))))))))))))) (rs_one (rs_ret (re_ix xd_ix (re_var 1 (pv 1)) (re_call (ok29 T) (hr.mono (by decide)) T.g29 T.k29 (T.F29.binds fun _ _ _ _ _ _ us hl => match us, hl with | [_, _], _ => rfl) tk (rg_own (i := 0) (pv 0) (rg_val (re_callB cd_len T.b_len PySem.boot_len (ra_cons (re_var 1 (pv 1)) ra_nil)) rg_nil)))))))
theorem sc31 : FnScope N31 ["value"] (defScope s31) := ⟨rfl, rfl, rfl, by decide +kernel, rfl, by decide +kernel, by decide +kernel⟩
theorem ok31 (T : Tx P K mg fs fd cs cc co) : FnOk P w K mg base (L2.CX P w) 1 (fs 31) (fd 31) ["value"] (spM K mg m31) :=
  have S := sc31
  def_ok T.F31 S fun cdv A outer s H E hr tk =>
    (rs_one (rs_ret (re_and (re_isTy .int (re_var 0 (pv 0)) T.b_isinstance T.b_int (by decide +kernel)) (re_and (re_cmp od_nis (re_var 0 (pv 0)) re_bl) (re_one (re_cmp od_nis (re_var 0 (pv 0)) re_bl))))))
theorem sc32 : FnScope N32 ["tape"] (defScope s32) := ⟨rfl, rfl, rfl, by decide +kernel, rfl, by decide +kernel, by decide +kernel⟩
theorem ok32 (T : Tx P K mg fs fd cs cc co) : FnOk P w K mg base (L2.CX P w) 2 (fs 32) (fd 32) ["tape"] (spM K mg m32) :=
  have S := sc32
  def_ok T.F32 S fun cdv A outer s H E hr tk =>
    (rs_cons (rs_set (i := 1) S.nd rfl (by first | exact Or.inl rfl | exact Or.inr rfl) re_str) (rs_cons (rs_for (ri_rng1 (ra_cons (re_call (ok29 T) (hr.mono (by decide)) T.g29 T.k29 (T.F29.binds fun _ _ _ _ _ _ us hl => match us, hl with | [_, _], _ => rfl) tk (rg_own (i := 0) (pv 0) (rg_val re_int rg_nil))) ra_nil) T.b_range) (rg_name (pg_name (i := 2) S.nd rfl (by first | exact Or.inl rfl | exact Or.inr rfl))) (rs_one (rs_set (i := 1) S.nd rfl (by first | exact Or.inl rfl | exact Or.inr rfl) (re_bin od_add (re_var 1 (pv 1)) (re_ix xd_ix re_str (re_ifExp (rt_cmp (od_eq hr.units) (re_call (ok29 T) (hr.mono (by decide)) T.g29 T.k29 (T.F29.binds fun _ _ _ _ _ _ us hl => match us, hl with | [_, _], _ => rfl) tk (rg_own (i := 0) (pv 0) (rg_val re_int rg_nil))) re_int) (re_call (ok29 T) (hr.mono (by decide)) T.g29 T.k29 (T.F29.binds fun _ _ _ _ _ _ us hl => match us, hl with | [_, _], _ => rfl) tk (rg_own (i := 0) (pv 0) (rg_val re_int rg_nil))) (re_call (ok29 T) (hr.mono (by decide)) T.g29 T.k29 (T.F29.binds fun _ _ _ _ _ _ us hl => match us, hl with | [_, _], _ => rfl) tk (rg_own (i := 0) (pv 0) (rg_val re_int rg_nil)))))))) rfl (passes_of rfl)) (rs_one (rs_ret (re_var 1 (pv 1))))))
theorem sc33 : FnScope N33 ["text"] (defScope s33) := ⟨rfl, rfl, rfl, by decide +kernel, rfl, by decide +kernel, by decide +kernel⟩
theorem ok33 (T : Tx P K mg fs fd cs cc co) : FnOk P w K mg base (L2.CX P w) 1 (fs 33) (fd 33) ["text"] (spM K mg m33) :=
  have S := sc33
  def_ok T.F33 S fun cdv A outer s H E hr tk =>
    (rs_cons (rs_set (i := 1) S.nd rfl (by first | exact Or.inl rfl | exact Or.inr rfl) (re_cmp (od_eq hr.units) (re_of_rn (rn_lc rfl S.nd (blkOk_by (own := [("one", 2)]) (N := N33) (sc := defScope s33) (by decide +kernel)) (ri_seq (re_var 0 (pv 0))) (fun _ _ _ _ _ => (rg_name (pg_name (i := 2) (S.nd) rfl (by first | exact Or.inl rfl | exact Or.inr rfl)))) (by decide) (fun _ _ _ _ _ => (rts_one (rt_not (rw_or (rt_chain od_le od_le re_str (re_var 2 (pv 2)) re_str) (rw_or1 (rt_chain od_le od_le re_str (re_var 2 (pv 2)) re_str))).rt))) (fun _ _ _ _ _ => (re_var 2 (pv 2))))) (re_of_rn (rn_lst ra_nil)))) (rs_one (rs_ret (re_and (re_var 1 (pv 1)) (re_and (re_chain od_lt od_lt re_int (re_callB cd_len T.b_len PySem.boot_len (ra_cons (re_var 0 (pv 0)) ra_nil)) re_int) (re_one (re_chain od_le od_le re_str (re_slice (re_var 0 (pv 0)) ro_none (ro_some re_int)) re_str)))))))
theorem sc34 : FnScope N34 ["a", "b"] (defScope s34) := ⟨rfl, rfl, rfl, by decide +kernel, rfl, by decide +kernel, by decide +kernel⟩
theorem ok34 (T : Tx P K mg fs fd cs cc co) : FnOk P w K mg base (L2.CX P w) 1 (fs 34) (fd 34) ["a", "b"] (spM K mg m34) :=
  have S := sc34
  def_ok T.F34 S fun cdv A outer s H E hr tk =>
    (rs_cons (rs_setLc rfl S.nd (i := 2) rfl rfl (sw_true rfl rfl rfl (by decide +kernel)) (blkOk_by (own := [("k", 3)]) (N := N34) (sc := defScope s34) (by decide +kernel)) (ri_rng2 (ra_cons re_int (ra_cons (re_bin od_add (re_callB (cd_max rfl) T.b_max (by decide +kernel) (ra_cons (re_callB cd_abs T.b_abs (by decide +kernel) (ra_cons (re_var 0 (pv 0)) ra_nil)) (ra_cons (re_callB cd_abs T.b_abs (by decide +kernel) (ra_cons (re_var 1 (pv 1)) ra_nil)) ra_nil))) re_int) ra_nil)) T.b_range) (fun _ _ _ _ _ => (rg_name (pg_name (i := 3) (S.nd) rfl (by first | exact Or.inl rfl | exact Or.inr rfl)))) (by decide) (fun _ _ _ _ _ => (rts_one (rw_and (rt_cmp (od_eq hr.units) (re_bin od_mod (re_var 0 (pv 0)) (re_var 3 (pv 3))) re_int) (rw_and1 (rt_cmp (od_eq hr.units) (re_bin od_mod (re_var 1 (pv 1)) (re_var 3 (pv 3))) re_int))).rt)) (fun _ _ _ _ _ => (re_var 3 (pv 3)))) (rs_one (rs_ret (re_ifExp (rw_and (rt_cmp (od_ne hr.units) (re_var 2 (pv 2)) (re_of_rn (rn_lst ra_nil))) (rw_and1 (rt_cmp (od_ne hr.units) (re_tup (ra_cons (re_var 0 (pv 0)) (ra_cons (re_var 1 (pv 1)) ra_nil))) (re_tup (ra_cons re_int (ra_cons re_int ra_nil)))))).rt (re_ix xd_ix (re_var 2 (pv 2)) (re_un ud_neg re_int)) re_int))))
theorem sc35 : FnScope N35 [] (defScope s35) := ⟨rfl, rfl, rfl, by decide +kernel, rfl, by decide +kernel, by decide +kernel⟩
theorem ok35 (T : Tx P K mg fs fd cs cc co) : FnOk P w K mg base (L2.CX P w) 4 (fs 35) (fd 35) [] (spM K mg (m35 cs)) :=
  have S := sc35
  def_ok T.F35 S fun cdv A outer s H E hr tk =>
    (rs_cons (rs_set (i := 0) S.nd rfl (by first | exact Or.inl rfl | exact Or.inr rfl) (re_of_rn (rn_lst (ra_cons re_str (ra_cons re_str (ra_cons re_str (ra_cons re_str (ra_cons re_str (ra_cons re_str (ra_cons re_str (ra_cons re_str (ra_cons re_str (ra_cons re_str (ra_cons re_str ra_nil)))))))))))))) (rs_cons (rs_set (i := 1) S.nd rfl (by first | exact Or.inl rfl | exact Or.inr rfl) (re_tup (ra_cons re_str (ra_cons re_int ra_nil)))) (rs_cons (rs_set (i := 2) S.nd rfl (by first | exact Or.inl rfl | exact Or.inr rfl) (re_of_rn (rn_lst (ra_cons (re_mkV (E17 T) (hr.mono (by decide)) (re_var 1 (pv 1))) (ra_cons (re_mkV (E18 T) (hr.mono (by decide)) (re_var 1 (pv 1))) (ra_cons (re_mkV (E19 T) (hr.mono (by decide)) (re_var 1 (pv 1))) (ra_cons (re_mkV (E20 T) (hr.mono (by decide)) (re_var 1 (pv 1))) (ra_cons (re_mkV (E21 T) (hr.mono (by decide)) (re_var 1 (pv 1))) (ra_cons (re_mkV (E22 T) (hr.mono (by decide)) (re_var 1 (pv 1))) (ra_cons (re_mkV (E23 T) (hr.mono (by decide)) (re_var 1 (pv 1))) (ra_cons (re_mkV (E24 T) (hr.mono (by decide)) (re_var 1 (pv 1))) (ra_cons (re_mkV (E25 T) (hr.mono (by decide)) (re_var 1 (pv 1))) (ra_cons (re_mkV (E26 T) (hr.mono (by decide)) (re_var 1 (pv 1))) (ra_cons (re_mkV (E27 T) (hr.mono (by decide)) (re_var 1 (pv 1))) ra_nil)))))))))))))) (rs_cons (rs_if (rw_or (rt_cmp (od_ne hr.units) (re_of_rn (rn_lc rfl S.nd (blkOk_by (own := [("one", 4)]) (N := N35) (sc := defScope s35) (by decide +kernel)) (ri_seq (re_var 2 (pv 2))) (fun _ _ _ _ _ => (rg_name (pg_name (i := 4) (S.nd) rfl (by first | exact Or.inl rfl | exact Or.inr rfl)))) (by decide) (fun _ _ _ _ _ => rts_nil) (fun _ _ _ _ _ => (re_exA (ok := okE cs) .name (okE_ok T) (re_var 4 (pv 4)))))) (re_var 0 (pv 0))) (rw_or1 (rt_cmp (od_ne hr.units) (re_of_rn (rn_lc rfl S.nd (blkOk_by (own := [("one", 4)]) (N := N35) (sc := defScope s35) (by decide +kernel)) (ri_seq (re_var 2 (pv 2))) (fun _ _ _ _ _ => (rg_name (pg_name (i := 4) (S.nd) rfl (by first | exact Or.inl rfl | exact Or.inr rfl)))) (by decide) (fun _ _ _ _ _ => (rts_one (rw_or (rt_cmp (od_ne hr.units) (re_exA (ok := okE cs) .place (okE_ok T) (re_var 4 (pv 4))) (re_var 1 (pv 1))) (rw_or1 (rt_not (rt_truth (re_isXo (tb := tb16 cs) T.n16 (tb16_ok T) (re_var 4 (pv 4)) T.b_isinstance))))).rt)) (fun _ _ _ _ _ => (re_var 4 (pv 4))))) (re_of_rn (rn_lst ra_nil))))).rt (rs_one (rs_ret re_bl)) rs_nil) (rs_cons (rs_set (i := 3) S.nd rfl (by first | exact Or.inl rfl | exact Or.inr rfl) (re_mkV (E16 T) (hr.mono (by decide)) re_non)) (rs_one (rs_ret (re_and (re_cmp od_is (re_exA (ok := okE cs) .place (okE_ok T) (re_var 3 (pv 3))) re_non) (re_and (re_cmp (od_eq hr.units) (re_exA (ok := okE cs) .name (okE_ok T) (re_var 3 (pv 3))) re_str) (re_and (re_isXb (tb := tbV cs) T.b_ValueError (by decide +kernel) (tbV_ok T) (re_var 3 (pv 3)) T.b_isinstance) (re_one (re_not (re_isXo (tb := tb17 cs) T.n17 (tb17_ok T) (re_var 3 (pv 3)) T.b_isinstance)))))))))))))
theorem sc36 : FnScope N36 ["script"] (defScope s36) := ⟨rfl, rfl, rfl, by decide +kernel, rfl, by decide +kernel, by decide +kernel⟩
theorem ok36 (T : Tx P K mg fs fd cs cc co) : FnOk P w K mg base (L2.CX P w) 6 (fs 36) (fd 36) ["script"] (spM K mg (m36 cs)) :=
  have S := sc36
  def_ok T.F36 S fun cdv A outer s H E hr tk =>
    (rs_cons (rs_own (i := 1) S.nd rfl (by first | exact Or.inl rfl | exact Or.inr rfl) (rn_lst (ra_cons (re_callTy cd_list T.b_list (by decide +kernel) (ra_cons (re_var 0 (pv 0)) ra_nil)) (ra_cons re_int (ra_cons re_int (ra_cons re_int ra_nil)))))) (rs_cons (rs_for (ri_rng1 (ra_cons re_int ra_nil) T.b_range) (rg_name (pg_name (i := 2) S.nd rfl (by first | exact Or.inl rfl | exact Or.inr rfl))) (rs_cons (rs_par (i := 3) (j := 4) rfl S.nd rfl rfl (by decide) rfl rfl (ra_cons (re_call (ok30 T) (hr.mono (by decide)) T.g30 T.k30 (T.F30.binds fun _ _ _ _ _ _ us hl => match us, hl with | [_], _ => rfl) tk (rg_own (i := 1) (pv 1) rg_nil)) (ra_cons (re_call (ok29 T) (hr.mono (by decide)) T.g29 T.k29 (T.F29.binds fun _ _ _ _ _ _ us hl => match us, hl with | [_, _], _ => rfl) tk (rg_own (i := 1) (pv 1) (rg_val re_int rg_nil))) ra_nil))) (rs_cons (rs_set (i := 5) S.nd rfl (by first | exact Or.inl rfl | exact Or.inr rfl) (re_call (ok31 T) (hr.mono (by decide)) T.g31 T.k31 (T.F31.binds fun _ _ _ _ _ _ us hl => match us, hl with | [_], _ => rfl) tk (rg_val (re_var 3 (pv 3)) rg_nil))) (rs_cons (rs_if (rw_or (rt_cmp (od_ne hr.units) (re_call (ok5 T) (hr.mono (by decide)) T.g5 T.k5 (T.F5.binds fun _ _ _ _ _ _ us hl => match us, hl with | [_], _ => rfl) tk (rg_val (re_var 3 (pv 3)) rg_nil)) (re_var 5 (pv 5))) (rw_or (rt_cmp (od_ne hr.units) (re_call (ok6 T) (hr.mono (by decide)) T.g6 T.k6 (T.F6.binds fun _ _ _ _ _ _ us hl => match us, hl with | [_], _ => rfl) tk (rg_val (re_var 3 (pv 3)) rg_nil)) (re_and (re_var 5 (pv 5)) (re_one (re_cmp od_ge (re_var 3 (pv 3)) re_int)))) (rw_or1 (rt_cmp (od_ne hr.units) (re_call (ok7 T) (hr.mono (by decide)) T.g7 T.k7 (T.F7.binds fun _ _ _ _ _ _ us hl => match us, hl with | [_, _], _ => rfl) tk (rg_val (re_var 3 (pv 3)) (rg_val (re_var 4 (pv 4)) rg_nil))) (re_and (re_var 5 (pv 5)) (re_one (re_chain od_le od_lt re_int (re_var 3 (pv 3)) (re_var 4 (pv 4))))))))).rt (rs_one (rs_ret re_bl)) rs_nil) (rs_cons (rs_set (i := 6) S.nd rfl (by first | exact Or.inl rfl | exact Or.inr rfl) (re_call (ok32 T) (hr.mono (by decide)) T.g32 T.k32 (T.F32.binds fun _ _ _ _ _ _ us hl => match us, hl with | [_], _ => rfl) tk (rg_own (i := 1) (pv 1) rg_nil))) (rs_one (rs_if (rw_or (rt_cmp (od_ne hr.units) (re_call (ok8 T) (hr.mono (by decide)) T.g8 T.k8 (T.F8.binds fun _ _ _ _ _ _ us hl => match us, hl with | [_], _ => rfl) tk (rg_val (re_var 6 (pv 6)) rg_nil)) (re_call (ok33 T) (hr.mono (by decide)) T.g33 T.k33 (T.F33.binds fun _ _ _ _ _ _ us hl => match us, hl with | [_], _ => rfl) tk (rg_val (re_var 6 (pv 6)) rg_nil))) (rw_or1 (rt_cmp (od_ne hr.units) (re_call (ok8 T) (hr.mono (by decide)) T.g8 T.k8 (T.F8.binds fun _ _ _ _ _ _ us hl => match us, hl with | [_], _ => rfl) tk (rg_val (re_var 3 (pv 3)) rg_nil)) (re_cmp (od_eq hr.units) (re_var 3 (pv 3)) re_str)))).rt (rs_one (rs_ret re_bl)) rs_nil)))))) rfl (passes_of rfl)) (rs_cons (rs_set (i := 7) S.nd rfl (by first | exact Or.inl rfl | exact Or.inr rfl) (re_callTy cd_tuple T.b_tuple (by decide +kernel) (ra_cons (re_of_rn (rn_lc rfl S.nd (blkOk_by (own := [("k", 16)]) (N := N36) (sc := defScope s36) (by decide +kernel)) (ri_rng1 (ra_cons (re_call (ok29 T) (hr.mono (by decide)) T.g29 T.k29 (T.F29.binds fun _ _ _ _ _ _ us hl => match us, hl with | [_, _], _ => rfl) tk (rg_own (i := 1) (pv 1) (rg_val re_int rg_nil))) ra_nil) T.b_range) (fun _ _ _ _ _ => (rg_name (pg_name (i := 16) (S.nd) rfl (by first | exact Or.inl rfl | exact Or.inr rfl)))) (by decide) (fun _ _ _ _ _ => rts_nil) (fun _ _ _ _ _ => (re_call (ok32 T) (hr.mono (by decide)) T.g32 T.k32 (T.F32.binds fun _ _ _ _ _ _ us hl => match us, hl with | [_], _ => rfl) takes0 (rg_own (i := 1) (pv 1) rg_nil))))) ra_nil))) (rs_cons (rs_set (i := 8) S.nd rfl (by first | exact Or.inl rfl | exact Or.inr rfl) (re_and (re_cmp (od_eq hr.units) (re_of_rn (rn_lc rfl S.nd (blkOk_by (own := [("one", 17)]) (N := N36) (sc := defScope s36) (by decide +kernel)) (ri_seq (re_var 7 (pv 7))) (fun _ _ _ _ _ => (rg_name (pg_name (i := 17) (S.nd) rfl (by first | exact Or.inl rfl | exact Or.inr rfl)))) (by decide) (fun _ _ _ _ _ => (rts_one (rt_not (rt_truth (re_call (ok33 T) (hr.mono (by decide)) T.g33 T.k33 (T.F33.binds fun _ _ _ _ _ _ us hl => match us, hl with | [_], _ => rfl) takes0 (rg_val (re_var 17 (pv 17)) rg_nil)))))) (fun _ _ _ _ _ => (re_var 17 (pv 17))))) (re_of_rn (rn_lst ra_nil))) (re_one (re_cmp (od_eq hr.units) (re_of_rn (rn_lc rfl S.nd (blkOk_by (own := [("k", 16)]) (N := N36) (sc := defScope s36) (by decide +kernel)) (ri_rng1 (ra_cons (re_callB cd_len T.b_len PySem.boot_len (ra_cons (re_var 7 (pv 7)) ra_nil)) ra_nil) T.b_range) (fun _ _ _ _ _ => (rg_name (pg_name (i := 16) (S.nd) rfl (by first | exact Or.inl rfl | exact Or.inr rfl)))) (by decide) (fun _ _ _ _ _ => (rts_one (rt_cmp (od_in (room65 hr)) (re_ix xd_ix (re_var 7 (pv 7)) (re_var 16 (pv 16))) (re_slice (re_var 7 (pv 7)) ro_none (ro_some (re_var 16 (pv 16))))))) (fun _ _ _ _ _ => (re_var 16 (pv 16))))) (re_of_rn (rn_lst ra_nil)))))) (rs_cons (rs_if (rw_or (rt_cmp (od_ne hr.units) (re_call (ok9 T) (hr.mono (by decide)) T.g9 T.k9 (T.F9.binds fun _ _ _ _ _ _ us hl => match us, hl with | [_], _ => rfl) tk (rg_val (re_var 7 (pv 7)) rg_nil)) (re_var 8 (pv 8))) (rw_or (rt_cmp od_nis (re_call (ok9 T) (hr.mono (by decide)) T.g9 T.k9 (T.F9.binds fun _ _ _ _ _ _ us hl => match us, hl with | [_], _ => rfl) tk (rg_val (re_callTy cd_list T.b_list (by decide +kernel) (ra_cons (re_var 7 (pv 7)) ra_nil)) rg_nil)) re_bl) (rw_or (rt_cmp od_nis (re_call (ok9 T) (hr.mono (by decide)) T.g9 T.k9 (T.F9.binds fun _ _ _ _ _ _ us hl => match us, hl with | [_], _ => rfl) tk (rg_val (re_tup (ra_cons re_str (ra_cons re_str (ra_cons re_str ra_nil)))) rg_nil)) re_bl) (rw_or1 (rt_cmp od_nis (re_call (ok9 T) (hr.mono (by decide)) T.g9 T.k9 (T.F9.binds fun _ _ _ _ _ _ us hl => match us, hl with | [_], _ => rfl) tk (rg_val (re_tup (ra_cons re_str (ra_cons re_str ra_nil))) rg_nil)) re_bl))))).rt (rs_one (rs_ret re_bl)) rs_nil) (rs_cons (rs_set (i := 9) S.nd rfl (by first | exact Or.inl rfl | exact Or.inr rfl) (re_callTy cd_tuple T.b_tuple (by decide +kernel) (ra_cons (re_of_rn (rn_lc rfl S.nd (blkOk_by (own := [("k", 16)]) (N := N36) (sc := defScope s36) (by decide +kernel)) (ri_rng1 (ra_cons (re_call (ok29 T) (hr.mono (by decide)) T.g29 T.k29 (T.F29.binds fun _ _ _ _ _ _ us hl => match us, hl with | [_, _], _ => rfl) tk (rg_own (i := 1) (pv 1) (rg_val re_int rg_nil))) ra_nil) T.b_range) (fun _ _ _ _ _ => (rg_name (pg_name (i := 16) (S.nd) rfl (by first | exact Or.inl rfl | exact Or.inr rfl)))) (by decide) (fun _ _ _ _ _ => rts_nil) (fun _ _ _ _ _ => (re_ifExp (rt_cmp (od_eq hr.units) (re_call (ok29 T) (hr.mono (by decide)) T.g29 T.k29 (T.F29.binds fun _ _ _ _ _ _ us hl => match us, hl with | [_, _], _ => rfl) takes0 (rg_own (i := 1) (pv 1) (rg_val re_int rg_nil))) re_int) (re_call (ok30 T) (hr.mono (by decide)) T.g30 T.k30 (T.F30.binds fun _ _ _ _ _ _ us hl => match us, hl with | [_], _ => rfl) takes0 (rg_own (i := 1) (pv 1) rg_nil)) (re_call (ok29 T) (hr.mono (by decide)) T.g29 T.k29 (T.F29.binds fun _ _ _ _ _ _ us hl => match us, hl with | [_, _], _ => rfl) takes0 (rg_own (i := 1) (pv 1) (rg_val re_int rg_nil))))))) ra_nil))) (rs_cons (rs_set (i := 10) S.nd rfl (by first | exact Or.inl rfl | exact Or.inr rfl) (re_cmp (od_eq hr.units) (re_of_rn (rn_lc rfl S.nd (blkOk_by (own := [("one", 17)]) (N := N36) (sc := defScope s36) (by decide +kernel)) (ri_seq (re_var 9 (pv 9))) (fun _ _ _ _ _ => (rg_name (pg_name (i := 17) (S.nd) rfl (by first | exact Or.inl rfl | exact Or.inr rfl)))) (by decide) (fun _ _ _ _ _ => (rts_one (rt_not (rt_truth (re_call (ok31 T) (hr.mono (by decide)) T.g31 T.k31 (T.F31.binds fun _ _ _ _ _ _ us hl => match us, hl with | [_], _ => rfl) takes0 (rg_val (re_var 17 (pv 17)) rg_nil)))))) (fun _ _ _ _ _ => (re_var 17 (pv 17))))) (re_of_rn (rn_lst ra_nil)))) (rs_cons (rs_set (i := 11) S.nd rfl (by first | exact Or.inl rfl | exact Or.inr rfl) (re_and (re_var 10 (pv 10)) (re_one (re_cmp (od_eq hr.units) (re_of_rn (rn_lc rfl S.nd (blkOk_by (own := [("one", 17)]) (N := N36) (sc := defScope s36) (by decide +kernel)) (ri_seq (re_var 9 (pv 9))) (fun _ _ _ _ _ => (rg_name (pg_name (i := 17) (S.nd) rfl (by first | exact Or.inl rfl | exact Or.inr rfl)))) (by decide) (fun _ _ _ _ _ => (rts_one (rt_not (rt_chain od_le od_lt re_int (re_var 17 (pv 17)) re_int)))) (fun _ _ _ _ _ => (re_var 17 (pv 17))))) (re_of_rn (rn_lst ra_nil)))))) (rs_cons (rs_set (i := 12) S.nd rfl (by first | exact Or.inl rfl | exact Or.inr rfl) (re_and (re_var 11 (pv 11)) (re_one (re_cmp (od_eq hr.units) (re_of_rn (rn_lc rfl S.nd (blkOk_by (own := [("k", 16)]) (N := N36) (sc := defScope s36) (by decide +kernel)) (ri_rng2 (ra_cons re_int (ra_cons (re_callB cd_len T.b_len PySem.boot_len (ra_cons (re_var 9 (pv 9)) ra_nil)) ra_nil)) T.b_range) (fun _ _ _ _ _ => (rg_name (pg_name (i := 16) (S.nd) rfl (by first | exact Or.inl rfl | exact Or.inr rfl)))) (by decide) (fun _ _ _ _ _ => (rts_one (rt_cmp od_ge (re_ix xd_ix (re_var 9 (pv 9)) (re_bin od_sub (re_var 16 (pv 16)) re_int)) (re_ix xd_ix (re_var 9 (pv 9)) (re_var 16 (pv 16)))))) (fun _ _ _ _ _ => (re_var 16 (pv 16))))) (re_of_rn (rn_lst ra_nil)))))) (rs_cons (rs_if (rw_or (rt_cmp (od_ne hr.units) (re_call (ok10 T) (hr.mono (by decide)) T.g10 T.k10 (T.F10.binds fun _ _ _ _ _ _ us hl => match us, hl with | [_, _], _ => rfl) tk (rg_val (re_var 9 (pv 9)) (rg_val re_int rg_nil))) (re_var 11 (pv 11))) (rw_or (rt_cmp (od_ne hr.units) (re_call (ok12 T) (hr.mono (by decide)) T.g12 T.k12 (T.F12.binds fun _ _ _ _ _ _ us hl => match us, hl with | [_, _], _ => rfl) tk (rg_val (re_var 9 (pv 9)) (rg_val re_int rg_nil))) (re_var 12 (pv 12))) (rw_or (rt_cmp od_nis (re_call (ok10 T) (hr.mono (by decide)) T.g10 T.k10 (T.F10.binds fun _ _ _ _ _ _ us hl => match us, hl with | [_, _], _ => rfl) tk (rg_val (re_callTy cd_list T.b_list (by decide +kernel) (ra_cons (re_var 9 (pv 9)) ra_nil)) (rg_val re_int rg_nil))) re_bl) (rw_or1 (rt_cmp od_nis (re_call (ok12 T) (hr.mono (by decide)) T.g12 T.k12 (T.F12.binds fun _ _ _ _ _ _ us hl => match us, hl with | [_, _], _ => rfl) tk (rg_val (re_of_rn (rn_lst (ra_cons re_int (ra_cons re_int ra_nil)))) (rg_val re_int rg_nil))) re_bl))))).rt (rs_one (rs_ret re_bl)) rs_nil) (rs_cons (rs_if (rw_or (rt_cmp (od_ne hr.units) (re_call (ok13 T) (hr.mono (by decide)) T.g13 T.k13 (T.F13.binds fun _ _ _ _ _ _ us hl => match us, hl with | [_, _], _ => rfl) tk (rg_val (re_var 9 (pv 9)) (rg_val (re_callB cd_len T.b_len PySem.boot_len (ra_cons (re_var 9 (pv 9)) ra_nil)) rg_nil))) (re_and (re_var 10 (pv 10)) (re_one (re_cmp (od_eq hr.units) (re_callB (cd_sorted hr) T.b_sorted (by decide +kernel) (ra_cons (re_var 9 (pv 9)) ra_nil)) (re_listRg (rr_1 (re_callB cd_len T.b_len PySem.boot_len (ra_cons (re_var 9 (pv 9)) ra_nil)) T.b_range) T.b_list rfl))))) (rw_or1 (rt_cmp od_nis (re_call (ok13 T) (hr.mono (by decide)) T.g13 T.k13 (T.F13.binds fun _ _ _ _ _ _ us hl => match us, hl with | [_, _], _ => rfl) tk (rg_val (re_tup (ra_cons re_int (ra_cons re_int (ra_cons re_int ra_nil)))) (rg_val re_int rg_nil))) re_bl))).rt (rs_one (rs_ret re_bl)) rs_nil) (rs_cons (rs_if (rw_or (rt_cmp od_nis (re_call (ok13 T) (hr.mono (by decide)) T.g13 T.k13 (T.F13.binds fun _ _ _ _ _ _ us hl => match us, hl with | [_, _], _ => rfl) tk (rg_val (re_tup (ra_cons re_int (ra_cons re_int ra_nil))) (rg_val re_int rg_nil))) re_bl) (rw_or (rt_cmp od_nis (re_call (ok13 T) (hr.mono (by decide)) T.g13 T.k13 (T.F13.binds fun _ _ _ _ _ _ us hl => match us, hl with | [_, _], _ => rfl) tk (rg_val (re_of_rn (rn_lst (ra_cons re_int ra_nil))) (rg_val re_int rg_nil))) re_bl) (rw_or1 (rt_cmp od_nis (re_call (ok13 T) (hr.mono (by decide)) T.g13 T.k13 (T.F13.binds fun _ _ _ _ _ _ us hl => match us, hl with | [_, _], _ => rfl) tk (rg_val (re_tup (ra_cons re_int ra_nil)) (rg_val re_int rg_nil))) re_bl)))).rt (rs_one (rs_ret re_bl)) rs_nil) (rs_cons (rs_setLc rfl S.nd (i := 13) rfl rfl (sw_true rfl rfl rfl (by decide +kernel)) (blkOk_by (own := [("k", 16)]) (N := N36) (sc := defScope s36) (by decide +kernel)) (ri_rng1 (ra_cons re_int ra_nil) T.b_range) (fun _ _ _ _ _ => (rg_name (pg_name (i := 16) (S.nd) rfl (by first | exact Or.inl rfl | exact Or.inr rfl)))) (by decide) (fun _ _ _ _ _ => rts_nil) (fun _ _ _ _ _ => (re_call (ok29 T) (hr.mono (by decide)) T.g29 T.k29 (T.F29.binds fun _ _ _ _ _ _ us hl => match us, hl with | [_, _], _ => rfl) takes0 (rg_own (i := 1) (pv 1) (rg_val re_int rg_nil))))) (rs_cons (rs_if (rw_or (rt_cmp (od_ne hr.units) (re_call (ok11 T) (hr.mono (by decide)) T.g11 T.k11 (T.F11.binds fun _ _ _ _ _ _ us hl => match us, hl with | [_], _ => rfl) tk (rg_val (re_var 13 (pv 13)) rg_nil)) (re_chain3 od_lt od_lt od_lt (re_ix xd_ix (re_var 13 (pv 13)) re_int) (re_ix xd_ix (re_var 13 (pv 13)) re_int) (re_ix xd_ix (re_var 13 (pv 13)) re_int) (re_ix xd_ix (re_var 13 (pv 13)) re_int))) (rw_or1 (rt_cmp od_nis (re_call (ok11 T) (hr.mono (by decide)) T.g11 T.k11 (T.F11.binds fun _ _ _ _ _ _ us hl => match us, hl with | [_], _ => rfl) tk (rg_val (re_of_rn (rn_lst ra_nil)) rg_nil)) re_bl))).rt (rs_one (rs_ret re_bl)) rs_nil) (rs_cons (rs_par (i := 14) (j := 15) rfl S.nd rfl rfl (by decide) rfl rfl (ra_cons (re_call (ok29 T) (hr.mono (by decide)) T.g29 T.k29 (T.F29.binds fun _ _ _ _ _ _ us hl => match us, hl with | [_, _], _ => rfl) tk (rg_own (i := 1) (pv 1) (rg_val re_int rg_nil))) (ra_cons (re_call (ok29 T) (hr.mono (by decide)) T.g29 T.k29 (T.F29.binds fun _ _ _ _ _ _ us hl => match us, hl with | [_, _], _ => rfl) tk (rg_own (i := 1) (pv 1) (rg_val re_int rg_nil))) ra_nil))) (rs_cons (rs_if (rw_or (rt_cmp (od_ne hr.units) (re_call (ok14 T) (hr.mono (by decide)) T.g14 T.k14 (T.F14.binds fun _ _ _ _ _ _ us hl => match us, hl with | [_, _], _ => rfl) tk (rg_val (re_var 14 (pv 14)) (rg_val (re_var 15 (pv 15)) rg_nil))) (re_call (ok34 T) (hr.mono (by decide)) T.g34 T.k34 (T.F34.binds fun _ _ _ _ _ _ us hl => match us, hl with | [_, _], _ => rfl) tk (rg_val (re_var 14 (pv 14)) (rg_val (re_var 15 (pv 15)) rg_nil)))) (rw_or1 (rt_cmp (od_ne hr.units) (re_tup (ra_cons (re_gstr T.c_SMALL) (ra_cons (re_gstr T.c_DIGITS) (ra_cons (re_gint T.c_MOST_LETTERS) ra_nil)))) (re_tup (ra_cons re_str (ra_cons re_str (ra_cons re_int ra_nil))))))).rt (rs_one (rs_ret re_bl)) rs_nil) (rs_one (rs_ret (re_call0 (ok35 T) (hr.mono (by decide)) T.g35 T.k35 (T.F35.binds fun _ _ _ _ _ _ us hl => match us, hl with | [], _ => rfl) tk)))))))))))))))))))
end
section
variable {l : PySem.W.OpenLaw} {w : World} {K : PySem.W.Frag} {h : Heap} {mg : Str → Option Value} {fa : Addr}
  {t_DIGITS : Tok}
  {t_MOST_LETTERS : Tok}
  {t_SMALL : Tok}
  {f5 : Addr} {oc5 kV5 dc5 pm5 cd5 ct5 : Value} {od5 an5 : Option Addr} {sl5 : Array (Option Value)}
  {f6 : Addr} {oc6 kV6 dc6 pm6 cd6 ct6 : Value} {od6 an6 : Option Addr} {sl6 : Array (Option Value)}
  {f7 : Addr} {oc7 kV7 dc7 pm7 cd7 ct7 : Value} {od7 an7 : Option Addr} {sl7 : Array (Option Value)}
  {f8 : Addr} {oc8 kV8 dc8 pm8 cd8 ct8 : Value} {od8 an8 : Option Addr} {sl8 : Array (Option Value)}
  {f9 : Addr} {oc9 kV9 dc9 pm9 cd9 ct9 : Value} {od9 an9 : Option Addr} {sl9 : Array (Option Value)}
  {f10 : Addr} {oc10 kV10 dc10 pm10 cd10 ct10 : Value} {od10 an10 : Option Addr} {sl10 : Array (Option Value)}
  {f11 : Addr} {oc11 kV11 dc11 pm11 cd11 ct11 : Value} {od11 an11 : Option Addr} {sl11 : Array (Option Value)}
  {f12 : Addr} {oc12 kV12 dc12 pm12 cd12 ct12 : Value} {od12 an12 : Option Addr} {sl12 : Array (Option Value)}
  {f13 : Addr} {oc13 kV13 dc13 pm13 cd13 ct13 : Value} {od13 an13 : Option Addr} {sl13 : Array (Option Value)}
  {f14 : Addr} {oc14 kV14 dc14 pm14 cd14 ct14 : Value} {od14 an14 : Option Addr} {sl14 : Array (Option Value)}
  {f29 : Addr} {oc29 kV29 dc29 pm29 cd29 ct29 : Value} {od29 an29 : Option Addr} {sl29 : Array (Option Value)}
  {f30 : Addr} {oc30 kV30 dc30 pm30 cd30 ct30 : Value} {od30 an30 : Option Addr} {sl30 : Array (Option Value)}
  {f31 : Addr} {oc31 kV31 dc31 pm31 cd31 ct31 : Value} {od31 an31 : Option Addr} {sl31 : Array (Option Value)}
  {f32 : Addr} {oc32 kV32 dc32 pm32 cd32 ct32 : Value} {od32 an32 : Option Addr} {sl32 : Array (Option Value)}
  {f33 : Addr} {oc33 kV33 dc33 pm33 cd33 ct33 : Value} {od33 an33 : Option Addr} {sl33 : Array (Option Value)}
  {f34 : Addr} {oc34 kV34 dc34 pm34 cd34 ct34 : Value} {od34 an34 : Option Addr} {sl34 : Array (Option Value)}
  {f35 : Addr} {oc35 kV35 dc35 pm35 cd35 ct35 : Value} {od35 an35 : Option Addr} {sl35 : Array (Option Value)}
  {f36 : Addr} {oc36 kV36 dc36 pm36 cd36 ct36 : Value} {od36 an36 : Option Addr} {sl36 : Array (Option Value)}
  {f16 C16 cc16 co16 N16 : Addr} {oc16 kV16 dc16 pm16 ct16 : Value} {od16 an16 dd16 : Option Addr} {sl16 : Array (Option Value)} {nm16 q16 : Str} {bs16 bm16 su16 : List Value} {sn16 : List Str} {ab16 : Bool} {cl16 : Option Bool} {k016 k116 k216 k316 k516 : Option Value}
  {f17 C17 cc17 co17 N17 : Addr} {oc17 kV17 dc17 pm17 ct17 : Value} {od17 an17 dd17 : Option Addr} {sl17 : Array (Option Value)} {nm17 q17 : Str} {bs17 bm17 su17 : List Value} {sn17 : List Str} {ab17 : Bool} {cl17 : Option Bool} {k017 k117 k217 k317 k517 : Option Value}
  {f18 C18 cc18 co18 N18 : Addr} {oc18 kV18 dc18 pm18 ct18 : Value} {od18 an18 dd18 : Option Addr} {sl18 : Array (Option Value)} {nm18 q18 : Str} {bs18 bm18 su18 : List Value} {sn18 : List Str} {ab18 : Bool} {cl18 : Option Bool} {k018 k118 k218 k318 k518 : Option Value}
  {f19 C19 cc19 co19 N19 : Addr} {oc19 kV19 dc19 pm19 ct19 : Value} {od19 an19 dd19 : Option Addr} {sl19 : Array (Option Value)} {nm19 q19 : Str} {bs19 bm19 su19 : List Value} {sn19 : List Str} {ab19 : Bool} {cl19 : Option Bool} {k019 k119 k219 k319 k519 : Option Value}
  {f20 C20 cc20 co20 N20 : Addr} {oc20 kV20 dc20 pm20 ct20 : Value} {od20 an20 dd20 : Option Addr} {sl20 : Array (Option Value)} {nm20 q20 : Str} {bs20 bm20 su20 : List Value} {sn20 : List Str} {ab20 : Bool} {cl20 : Option Bool} {k020 k120 k220 k320 k520 : Option Value}
  {f21 C21 cc21 co21 N21 : Addr} {oc21 kV21 dc21 pm21 ct21 : Value} {od21 an21 dd21 : Option Addr} {sl21 : Array (Option Value)} {nm21 q21 : Str} {bs21 bm21 su21 : List Value} {sn21 : List Str} {ab21 : Bool} {cl21 : Option Bool} {k021 k121 k221 k321 k521 : Option Value}
  {f22 C22 cc22 co22 N22 : Addr} {oc22 kV22 dc22 pm22 ct22 : Value} {od22 an22 dd22 : Option Addr} {sl22 : Array (Option Value)} {nm22 q22 : Str} {bs22 bm22 su22 : List Value} {sn22 : List Str} {ab22 : Bool} {cl22 : Option Bool} {k022 k122 k222 k322 k522 : Option Value}
  {f23 C23 cc23 co23 N23 : Addr} {oc23 kV23 dc23 pm23 ct23 : Value} {od23 an23 dd23 : Option Addr} {sl23 : Array (Option Value)} {nm23 q23 : Str} {bs23 bm23 su23 : List Value} {sn23 : List Str} {ab23 : Bool} {cl23 : Option Bool} {k023 k123 k223 k323 k523 : Option Value}
  {f24 C24 cc24 co24 N24 : Addr} {oc24 kV24 dc24 pm24 ct24 : Value} {od24 an24 dd24 : Option Addr} {sl24 : Array (Option Value)} {nm24 q24 : Str} {bs24 bm24 su24 : List Value} {sn24 : List Str} {ab24 : Bool} {cl24 : Option Bool} {k024 k124 k224 k324 k524 : Option Value}
  {f25 C25 cc25 co25 N25 : Addr} {oc25 kV25 dc25 pm25 ct25 : Value} {od25 an25 dd25 : Option Addr} {sl25 : Array (Option Value)} {nm25 q25 : Str} {bs25 bm25 su25 : List Value} {sn25 : List Str} {ab25 : Bool} {cl25 : Option Bool} {k025 k125 k225 k325 k525 : Option Value}
  {f26 C26 cc26 co26 N26 : Addr} {oc26 kV26 dc26 pm26 ct26 : Value} {od26 an26 dd26 : Option Addr} {sl26 : Array (Option Value)} {nm26 q26 : Str} {bs26 bm26 su26 : List Value} {sn26 : List Str} {ab26 : Bool} {cl26 : Option Bool} {k026 k126 k226 k326 k526 : Option Value}
  {f27 C27 cc27 co27 N27 : Addr} {oc27 kV27 dc27 pm27 ct27 : Value} {od27 an27 dd27 : Option Addr} {sl27 : Array (Option Value)} {nm27 q27 : Str} {bs27 bm27 su27 : List Value} {sn27 : List Str} {ab27 : Bool} {cl27 : Option Bool} {k027 k127 k227 k327 k527 : Option Value}
theorem top_mk (X : K.In h) (G : h.Ns mainGlobals mg) (hfa : mg "law" = some (.ref fa))
    (hb_ValueError : PySem.W.nsIn K mainGlobals "ValueError" = some none)
    (hb_abs : PySem.W.nsIn K mainGlobals "abs" = some none)
    (hb_all : PySem.W.nsIn K mainGlobals "all" = some none)
    (hb_bool : PySem.W.nsIn K mainGlobals "bool" = some none)
    (hb_int : PySem.W.nsIn K mainGlobals "int" = some none)
    (hb_isinstance : PySem.W.nsIn K mainGlobals "isinstance" = some none)
    (hb_len : PySem.W.nsIn K mainGlobals "len" = some none)
    (hb_list : PySem.W.nsIn K mainGlobals "list" = some none)
    (hb_max : PySem.W.nsIn K mainGlobals "max" = some none)
    (hb_range : PySem.W.nsIn K mainGlobals "range" = some none)
    (hb_set : PySem.W.nsIn K mainGlobals "set" = some none)
    (hb_sorted : PySem.W.nsIn K mainGlobals "sorted" = some none)
    (hb_str : PySem.W.nsIn K mainGlobals "str" = some none)
    (hb_super : PySem.W.nsIn K mainGlobals "super" = some none)
    (hb_tuple : PySem.W.nsIn K mainGlobals "tuple" = some none)
    (hc_gcd : PySem.W.nsIn K mainGlobals "gcd" = some (some (.builtin "math.gcd")))
    (hc_DIGITS : PySem.W.nsIn K mainGlobals "DIGITS" = some (some (.str (Str.ofString "0123456789") t_DIGITS)))
    (hc_MOST_LETTERS : PySem.W.nsIn K mainGlobals "MOST_LETTERS" = some (some (.int (12) t_MOST_LETTERS)))
    (hc_SMALL : PySem.W.nsIn K mainGlobals "SMALL" = some (some (.str (Str.ofString "abcdefghijklmnopqrstuvwxyz") t_SMALL)))
    (a5 : PySem.W.nsIn K mainGlobals "is_integer" = some (some (.ref f5)))
    (k5 : PySem.W.keepIn K (.ref f5) = true)
    (l5 : K.lookup f5 = some ⟨oc5, od5, .func (PySem.W.fnOf "is_integer" "is_integer" (defArgs s5) (defBody s5) (defScope s5) .none kV5 dc5 pm5 an5 cd5 ct5), sl5⟩)
    (c5 : PySem.W.codeIn K cd5 "is_integer" = true)
    (a6 : PySem.W.nsIn K mainGlobals "is_count" = some (some (.ref f6)))
    (k6 : PySem.W.keepIn K (.ref f6) = true)
    (l6 : K.lookup f6 = some ⟨oc6, od6, .func (PySem.W.fnOf "is_count" "is_count" (defArgs s6) (defBody s6) (defScope s6) .none kV6 dc6 pm6 an6 cd6 ct6), sl6⟩)
    (c6 : PySem.W.codeIn K cd6 "is_count" = true)
    (a7 : PySem.W.nsIn K mainGlobals "is_below" = some (some (.ref f7)))
    (k7 : PySem.W.keepIn K (.ref f7) = true)
    (l7 : K.lookup f7 = some ⟨oc7, od7, .func (PySem.W.fnOf "is_below" "is_below" (defArgs s7) (defBody s7) (defScope s7) .none kV7 dc7 pm7 an7 cd7 ct7), sl7⟩)
    (c7 : PySem.W.codeIn K cd7 "is_below" = true)
    (a8 : PySem.W.nsIn K mainGlobals "is_name" = some (some (.ref f8)))
    (k8 : PySem.W.keepIn K (.ref f8) = true)
    (l8 : K.lookup f8 = some ⟨oc8, od8, .func (PySem.W.fnOf "is_name" "is_name" (defArgs s8) (defBody s8) (defScope s8) .none kV8 dc8 pm8 an8 cd8 ct8), sl8⟩)
    (c8 : PySem.W.codeIn K cd8 "is_name" = true)
    (a9 : PySem.W.nsIn K mainGlobals "are_names" = some (some (.ref f9)))
    (k9 : PySem.W.keepIn K (.ref f9) = true)
    (l9 : K.lookup f9 = some ⟨oc9, od9, .func (PySem.W.fnOf "are_names" "are_names" (defArgs s9) (defBody s9) (defScope s9) .none kV9 dc9 pm9 an9 cd9 ct9), sl9⟩)
    (c9 : PySem.W.codeIn K cd9 "are_names" = true)
    (a10 : PySem.W.nsIn K mainGlobals "are_below" = some (some (.ref f10)))
    (k10 : PySem.W.keepIn K (.ref f10) = true)
    (l10 : K.lookup f10 = some ⟨oc10, od10, .func (PySem.W.fnOf "are_below" "are_below" (defArgs s10) (defBody s10) (defScope s10) .none kV10 dc10 pm10 an10 cd10 ct10), sl10⟩)
    (c10 : PySem.W.codeIn K cd10 "are_below" = true)
    (a11 : PySem.W.nsIn K mainGlobals "is_rising" = some (some (.ref f11)))
    (k11 : PySem.W.keepIn K (.ref f11) = true)
    (l11 : K.lookup f11 = some ⟨oc11, od11, .func (PySem.W.fnOf "is_rising" "is_rising" (defArgs s11) (defBody s11) (defScope s11) .none kV11 dc11 pm11 an11 cd11 ct11), sl11⟩)
    (c11 : PySem.W.codeIn K cd11 "is_rising" = true)
    (a12 : PySem.W.nsIn K mainGlobals "are_rising_below" = some (some (.ref f12)))
    (k12 : PySem.W.keepIn K (.ref f12) = true)
    (l12 : K.lookup f12 = some ⟨oc12, od12, .func (PySem.W.fnOf "are_rising_below" "are_rising_below" (defArgs s12) (defBody s12) (defScope s12) .none kV12 dc12 pm12 an12 cd12 ct12), sl12⟩)
    (c12 : PySem.W.codeIn K cd12 "are_rising_below" = true)
    (a13 : PySem.W.nsIn K mainGlobals "is_order" = some (some (.ref f13)))
    (k13 : PySem.W.keepIn K (.ref f13) = true)
    (l13 : K.lookup f13 = some ⟨oc13, od13, .func (PySem.W.fnOf "is_order" "is_order" (defArgs s13) (defBody s13) (defScope s13) .none kV13 dc13 pm13 an13 cd13 ct13), sl13⟩)
    (c13 : PySem.W.codeIn K cd13 "is_order" = true)
    (a14 : PySem.W.nsIn K mainGlobals "common" = some (some (.ref f14)))
    (k14 : PySem.W.keepIn K (.ref f14) = true)
    (l14 : K.lookup f14 = some ⟨oc14, od14, .func (PySem.W.fnOf "common" "common" (defArgs s14) (defBody s14) (defScope s14) .none kV14 dc14 pm14 an14 cd14 ct14), sl14⟩)
    (c14 : PySem.W.codeIn K cd14 "common" = true)
    (a29 : PySem.W.nsIn K mainGlobals "_law_draw" = some (some (.ref f29)))
    (k29 : PySem.W.keepIn K (.ref f29) = true)
    (l29 : K.lookup f29 = some ⟨oc29, od29, .func (PySem.W.fnOf "_law_draw" "_law_draw" (defArgs s29) (defBody s29) (defScope s29) .none kV29 dc29 pm29 an29 cd29 ct29), sl29⟩)
    (c29 : PySem.W.codeIn K cd29 "_law_draw" = true)
    (a30 : PySem.W.nsIn K mainGlobals "_law_value" = some (some (.ref f30)))
    (k30 : PySem.W.keepIn K (.ref f30) = true)
    (l30 : K.lookup f30 = some ⟨oc30, od30, .func (PySem.W.fnOf "_law_value" "_law_value" (defArgs s30) (defBody s30) (defScope s30) .none kV30 dc30 pm30 an30 cd30 ct30), sl30⟩)
    (c30 : PySem.W.codeIn K cd30 "_law_value" = true)
    (a31 : PySem.W.nsIn K mainGlobals "_law_whole" = some (some (.ref f31)))
    (k31 : PySem.W.keepIn K (.ref f31) = true)
    (l31 : K.lookup f31 = some ⟨oc31, od31, .func (PySem.W.fnOf "_law_whole" "_law_whole" (defArgs s31) (defBody s31) (defScope s31) .none kV31 dc31 pm31 an31 cd31 ct31), sl31⟩)
    (c31 : PySem.W.codeIn K cd31 "_law_whole" = true)
    (a32 : PySem.W.nsIn K mainGlobals "_law_text" = some (some (.ref f32)))
    (k32 : PySem.W.keepIn K (.ref f32) = true)
    (l32 : K.lookup f32 = some ⟨oc32, od32, .func (PySem.W.fnOf "_law_text" "_law_text" (defArgs s32) (defBody s32) (defScope s32) .none kV32 dc32 pm32 an32 cd32 ct32), sl32⟩)
    (c32 : PySem.W.codeIn K cd32 "_law_text" = true)
    (a33 : PySem.W.nsIn K mainGlobals "_law_name" = some (some (.ref f33)))
    (k33 : PySem.W.keepIn K (.ref f33) = true)
    (l33 : K.lookup f33 = some ⟨oc33, od33, .func (PySem.W.fnOf "_law_name" "_law_name" (defArgs s33) (defBody s33) (defScope s33) .none kV33 dc33 pm33 an33 cd33 ct33), sl33⟩)
    (c33 : PySem.W.codeIn K cd33 "_law_name" = true)
    (a34 : PySem.W.nsIn K mainGlobals "_law_divides" = some (some (.ref f34)))
    (k34 : PySem.W.keepIn K (.ref f34) = true)
    (l34 : K.lookup f34 = some ⟨oc34, od34, .func (PySem.W.fnOf "_law_divides" "_law_divides" (defArgs s34) (defBody s34) (defScope s34) .none kV34 dc34 pm34 an34 cd34 ct34), sl34⟩)
    (c34 : PySem.W.codeIn K cd34 "_law_divides" = true)
    (a35 : PySem.W.nsIn K mainGlobals "_law_classes" = some (some (.ref f35)))
    (k35 : PySem.W.keepIn K (.ref f35) = true)
    (l35 : K.lookup f35 = some ⟨oc35, od35, .func (PySem.W.fnOf "_law_classes" "_law_classes" (defArgs s35) (defBody s35) (defScope s35) .none kV35 dc35 pm35 an35 cd35 ct35), sl35⟩)
    (c35 : PySem.W.codeIn K cd35 "_law_classes" = true)
    (a36 : PySem.W.nsIn K mainGlobals "law" = some (some (.ref f36)))
    (k36 : PySem.W.keepIn K (.ref f36) = true)
    (l36 : K.lookup f36 = some ⟨oc36, od36, .func (PySem.W.fnOf "law" "law" (defArgs s36) (defBody s36) (defScope s36) .none kV36 dc36 pm36 an36 cd36 ct36), sl36⟩)
    (c36 : PySem.W.codeIn K cd36 "law" = true)
    (a16 : PySem.W.nsIn K mainGlobals "MoveError" = some (some (.ref C16)))
    (i16 : PySem.W.findIn K (.ref C16) "__init__" = some (some (.ref f16)))
    (l16 : K.lookup f16 = some ⟨oc16, od16, .func (PySem.W.fnX "__init__" "MoveError.__init__" (defArgs ini16) (defBody ini16) (defScope ini16) [("__class__", cc16)] .none kV16 dc16 pm16 an16 (.ref co16) ct16), sl16⟩)
    (o16 : K.lookup C16 = some (excClassObj nm16 q16 C16 N16 bs16 bm16 true sn16 su16 ab16 cl16 dd16 k016 k116 k216 k316 k516 "ValueError.__new__"))
    (r16 : PySem.HandSPX.refsVE bm16 = true)
    (b16 : errB l.prog K "MoveError.__init__" C16 f16 cc16 co16 C16 = true)
    (x16 : exaB K C16 = true)
    (a17 : PySem.W.nsIn K mainGlobals "TooLarge" = some (some (.ref C17)))
    (i17 : PySem.W.findIn K (.ref C17) "__init__" = some (some (.ref f17)))
    (l17 : K.lookup f17 = some ⟨oc17, od17, .func (PySem.W.fnX "__init__" "TooLarge.__init__" (defArgs ini17) (defBody ini17) (defScope ini17) [("__class__", cc17)] .none kV17 dc17 pm17 an17 (.ref co17) ct17), sl17⟩)
    (o17 : K.lookup C17 = some (excClassObj nm17 q17 C17 N17 bs17 bm17 true sn17 su17 ab17 cl17 dd17 k017 k117 k217 k317 k517 "ValueError.__new__"))
    (r17 : PySem.HandSPX.refsVE bm17 = true)
    (b17 : errB l.prog K "TooLarge.__init__" C17 f17 cc17 co17 C16 = true)
    (u17 : subB K C17 f16 = true)
    (x17 : exaB K C17 = true)
    (a18 : PySem.W.nsIn K mainGlobals "InvalidWeb" = some (some (.ref C18)))
    (i18 : PySem.W.findIn K (.ref C18) "__init__" = some (some (.ref f18)))
    (l18 : K.lookup f18 = some ⟨oc18, od18, .func (PySem.W.fnX "__init__" "InvalidWeb.__init__" (defArgs ini18) (defBody ini18) (defScope ini18) [("__class__", cc18)] .none kV18 dc18 pm18 an18 (.ref co18) ct18), sl18⟩)
    (o18 : K.lookup C18 = some (excClassObj nm18 q18 C18 N18 bs18 bm18 true sn18 su18 ab18 cl18 dd18 k018 k118 k218 k318 k518 "ValueError.__new__"))
    (r18 : PySem.HandSPX.refsVE bm18 = true)
    (b18 : errB l.prog K "InvalidWeb.__init__" C18 f18 cc18 co18 C16 = true)
    (u18 : subB K C18 f16 = true)
    (x18 : exaB K C18 = true)
    (a19 : PySem.W.nsIn K mainGlobals "InvalidHueing" = some (some (.ref C19)))
    (i19 : PySem.W.findIn K (.ref C19) "__init__" = some (some (.ref f19)))
    (l19 : K.lookup f19 = some ⟨oc19, od19, .func (PySem.W.fnX "__init__" "InvalidHueing.__init__" (defArgs ini19) (defBody ini19) (defScope ini19) [("__class__", cc19)] .none kV19 dc19 pm19 an19 (.ref co19) ct19), sl19⟩)
    (o19 : K.lookup C19 = some (excClassObj nm19 q19 C19 N19 bs19 bm19 true sn19 su19 ab19 cl19 dd19 k019 k119 k219 k319 k519 "ValueError.__new__"))
    (r19 : PySem.HandSPX.refsVE bm19 = true)
    (b19 : errB l.prog K "InvalidHueing.__init__" C19 f19 cc19 co19 C16 = true)
    (u19 : subB K C19 f16 = true)
    (x19 : exaB K C19 = true)
    (a20 : PySem.W.nsIn K mainGlobals "InvalidText" = some (some (.ref C20)))
    (i20 : PySem.W.findIn K (.ref C20) "__init__" = some (some (.ref f20)))
    (l20 : K.lookup f20 = some ⟨oc20, od20, .func (PySem.W.fnX "__init__" "InvalidText.__init__" (defArgs ini20) (defBody ini20) (defScope ini20) [("__class__", cc20)] .none kV20 dc20 pm20 an20 (.ref co20) ct20), sl20⟩)
    (o20 : K.lookup C20 = some (excClassObj nm20 q20 C20 N20 bs20 bm20 true sn20 su20 ab20 cl20 dd20 k020 k120 k220 k320 k520 "ValueError.__new__"))
    (r20 : PySem.HandSPX.refsVE bm20 = true)
    (b20 : errB l.prog K "InvalidText.__init__" C20 f20 cc20 co20 C16 = true)
    (u20 : subB K C20 f16 = true)
    (x20 : exaB K C20 = true)
    (a21 : PySem.W.nsIn K mainGlobals "InvalidMoment" = some (some (.ref C21)))
    (i21 : PySem.W.findIn K (.ref C21) "__init__" = some (some (.ref f21)))
    (l21 : K.lookup f21 = some ⟨oc21, od21, .func (PySem.W.fnX "__init__" "InvalidMoment.__init__" (defArgs ini21) (defBody ini21) (defScope ini21) [("__class__", cc21)] .none kV21 dc21 pm21 an21 (.ref co21) ct21), sl21⟩)
    (o21 : K.lookup C21 = some (excClassObj nm21 q21 C21 N21 bs21 bm21 true sn21 su21 ab21 cl21 dd21 k021 k121 k221 k321 k521 "ValueError.__new__"))
    (r21 : PySem.HandSPX.refsVE bm21 = true)
    (b21 : errB l.prog K "InvalidMoment.__init__" C21 f21 cc21 co21 C16 = true)
    (u21 : subB K C21 f16 = true)
    (x21 : exaB K C21 = true)
    (a22 : PySem.W.nsIn K mainGlobals "InvalidMotion" = some (some (.ref C22)))
    (i22 : PySem.W.findIn K (.ref C22) "__init__" = some (some (.ref f22)))
    (l22 : K.lookup f22 = some ⟨oc22, od22, .func (PySem.W.fnX "__init__" "InvalidMotion.__init__" (defArgs ini22) (defBody ini22) (defScope ini22) [("__class__", cc22)] .none kV22 dc22 pm22 an22 (.ref co22) ct22), sl22⟩)
    (o22 : K.lookup C22 = some (excClassObj nm22 q22 C22 N22 bs22 bm22 true sn22 su22 ab22 cl22 dd22 k022 k122 k222 k322 k522 "ValueError.__new__"))
    (r22 : PySem.HandSPX.refsVE bm22 = true)
    (b22 : errB l.prog K "InvalidMotion.__init__" C22 f22 cc22 co22 C16 = true)
    (u22 : subB K C22 f16 = true)
    (x22 : exaB K C22 = true)
    (a23 : PySem.W.nsIn K mainGlobals "InvalidTurning" = some (some (.ref C23)))
    (i23 : PySem.W.findIn K (.ref C23) "__init__" = some (some (.ref f23)))
    (l23 : K.lookup f23 = some ⟨oc23, od23, .func (PySem.W.fnX "__init__" "InvalidTurning.__init__" (defArgs ini23) (defBody ini23) (defScope ini23) [("__class__", cc23)] .none kV23 dc23 pm23 an23 (.ref co23) ct23), sl23⟩)
    (o23 : K.lookup C23 = some (excClassObj nm23 q23 C23 N23 bs23 bm23 true sn23 su23 ab23 cl23 dd23 k023 k123 k223 k323 k523 "ValueError.__new__"))
    (r23 : PySem.HandSPX.refsVE bm23 = true)
    (b23 : errB l.prog K "InvalidTurning.__init__" C23 f23 cc23 co23 C16 = true)
    (u23 : subB K C23 f16 = true)
    (x23 : exaB K C23 = true)
    (a24 : PySem.W.nsIn K mainGlobals "InvalidFrame" = some (some (.ref C24)))
    (i24 : PySem.W.findIn K (.ref C24) "__init__" = some (some (.ref f24)))
    (l24 : K.lookup f24 = some ⟨oc24, od24, .func (PySem.W.fnX "__init__" "InvalidFrame.__init__" (defArgs ini24) (defBody ini24) (defScope ini24) [("__class__", cc24)] .none kV24 dc24 pm24 an24 (.ref co24) ct24), sl24⟩)
    (o24 : K.lookup C24 = some (excClassObj nm24 q24 C24 N24 bs24 bm24 true sn24 su24 ab24 cl24 dd24 k024 k124 k224 k324 k524 "ValueError.__new__"))
    (r24 : PySem.HandSPX.refsVE bm24 = true)
    (b24 : errB l.prog K "InvalidFrame.__init__" C24 f24 cc24 co24 C16 = true)
    (u24 : subB K C24 f16 = true)
    (x24 : exaB K C24 = true)
    (a25 : PySem.W.nsIn K mainGlobals "InvalidPaper" = some (some (.ref C25)))
    (i25 : PySem.W.findIn K (.ref C25) "__init__" = some (some (.ref f25)))
    (l25 : K.lookup f25 = some ⟨oc25, od25, .func (PySem.W.fnX "__init__" "InvalidPaper.__init__" (defArgs ini25) (defBody ini25) (defScope ini25) [("__class__", cc25)] .none kV25 dc25 pm25 an25 (.ref co25) ct25), sl25⟩)
    (o25 : K.lookup C25 = some (excClassObj nm25 q25 C25 N25 bs25 bm25 true sn25 su25 ab25 cl25 dd25 k025 k125 k225 k325 k525 "ValueError.__new__"))
    (r25 : PySem.HandSPX.refsVE bm25 = true)
    (b25 : errB l.prog K "InvalidPaper.__init__" C25 f25 cc25 co25 C16 = true)
    (u25 : subB K C25 f16 = true)
    (x25 : exaB K C25 = true)
    (a26 : PySem.W.nsIn K mainGlobals "InvalidAct" = some (some (.ref C26)))
    (i26 : PySem.W.findIn K (.ref C26) "__init__" = some (some (.ref f26)))
    (l26 : K.lookup f26 = some ⟨oc26, od26, .func (PySem.W.fnX "__init__" "InvalidAct.__init__" (defArgs ini26) (defBody ini26) (defScope ini26) [("__class__", cc26)] .none kV26 dc26 pm26 an26 (.ref co26) ct26), sl26⟩)
    (o26 : K.lookup C26 = some (excClassObj nm26 q26 C26 N26 bs26 bm26 true sn26 su26 ab26 cl26 dd26 k026 k126 k226 k326 k526 "ValueError.__new__"))
    (r26 : PySem.HandSPX.refsVE bm26 = true)
    (b26 : errB l.prog K "InvalidAct.__init__" C26 f26 cc26 co26 C16 = true)
    (u26 : subB K C26 f16 = true)
    (x26 : exaB K C26 = true)
    (a27 : PySem.W.nsIn K mainGlobals "InvalidPlace" = some (some (.ref C27)))
    (i27 : PySem.W.findIn K (.ref C27) "__init__" = some (some (.ref f27)))
    (l27 : K.lookup f27 = some ⟨oc27, od27, .func (PySem.W.fnX "__init__" "InvalidPlace.__init__" (defArgs ini27) (defBody ini27) (defScope ini27) [("__class__", cc27)] .none kV27 dc27 pm27 an27 (.ref co27) ct27), sl27⟩)
    (o27 : K.lookup C27 = some (excClassObj nm27 q27 C27 N27 bs27 bm27 true sn27 su27 ab27 cl27 dd27 k027 k127 k227 k327 k527 "ValueError.__new__"))
    (r27 : PySem.HandSPX.refsVE bm27 = true)
    (b27 : errB l.prog K "InvalidPlace.__init__" C27 f27 cc27 co27 C16 = true)
    (u27 : subB K C27 f16 = true)
    (x27 : exaB K C27 = true)
    (q16_16 : PySem.W.kitOne K (.ref C16) (.ref C16) = some true)
    (q17_16 : PySem.W.kitOne K (.ref C17) (.ref C16) = some true)
    (q18_16 : PySem.W.kitOne K (.ref C18) (.ref C16) = some true)
    (q19_16 : PySem.W.kitOne K (.ref C19) (.ref C16) = some true)
    (q20_16 : PySem.W.kitOne K (.ref C20) (.ref C16) = some true)
    (q21_16 : PySem.W.kitOne K (.ref C21) (.ref C16) = some true)
    (q22_16 : PySem.W.kitOne K (.ref C22) (.ref C16) = some true)
    (q23_16 : PySem.W.kitOne K (.ref C23) (.ref C16) = some true)
    (q24_16 : PySem.W.kitOne K (.ref C24) (.ref C16) = some true)
    (q25_16 : PySem.W.kitOne K (.ref C25) (.ref C16) = some true)
    (q26_16 : PySem.W.kitOne K (.ref C26) (.ref C16) = some true)
    (q27_16 : PySem.W.kitOne K (.ref C27) (.ref C16) = some true)
    (q16_17 : PySem.W.kitOne K (.ref C16) (.ref C17) = some false)
    (q17_17 : PySem.W.kitOne K (.ref C17) (.ref C17) = some true)
    (q18_17 : PySem.W.kitOne K (.ref C18) (.ref C17) = some false)
    (q19_17 : PySem.W.kitOne K (.ref C19) (.ref C17) = some false)
    (q20_17 : PySem.W.kitOne K (.ref C20) (.ref C17) = some false)
    (q21_17 : PySem.W.kitOne K (.ref C21) (.ref C17) = some false)
    (q22_17 : PySem.W.kitOne K (.ref C22) (.ref C17) = some false)
    (q23_17 : PySem.W.kitOne K (.ref C23) (.ref C17) = some false)
    (q24_17 : PySem.W.kitOne K (.ref C24) (.ref C17) = some false)
    (q25_17 : PySem.W.kitOne K (.ref C25) (.ref C17) = some false)
    (q26_17 : PySem.W.kitOne K (.ref C26) (.ref C17) = some false)
    (q27_17 : PySem.W.kitOne K (.ref C27) (.ref C17) = some false)
    (q16_V : PySem.W.kitOne K (.ref C16) (.type "ValueError") = some true)
    (q17_V : PySem.W.kitOne K (.ref C17) (.type "ValueError") = some true)
    (q18_V : PySem.W.kitOne K (.ref C18) (.type "ValueError") = some true)
    (q19_V : PySem.W.kitOne K (.ref C19) (.type "ValueError") = some true)
    (q20_V : PySem.W.kitOne K (.ref C20) (.type "ValueError") = some true)
    (q21_V : PySem.W.kitOne K (.ref C21) (.type "ValueError") = some true)
    (q22_V : PySem.W.kitOne K (.ref C22) (.type "ValueError") = some true)
    (q23_V : PySem.W.kitOne K (.ref C23) (.type "ValueError") = some true)
    (q24_V : PySem.W.kitOne K (.ref C24) (.type "ValueError") = some true)
    (q25_V : PySem.W.kitOne K (.ref C25) (.type "ValueError") = some true)
    (q26_V : PySem.W.kitOne K (.ref C26) (.type "ValueError") = some true)
    (q27_V : PySem.W.kitOne K (.ref C27) (.type "ValueError") = some true)
    (law : ∀ {cs : Nat → Addr} {ns : List Int}, ns.length ≤ 63 → ∃ st, (m36 cs) [.val (.scr (ns.map D.int))] = .ok (.bl true) st) :
    ∃ fdl : FuncData, (∀ (s : Shared) (v : Value), BindsTo s fdl ⟨[v], []⟩ [("script", v)]) ∧ ∀ base : Heap, K.In base → base.Ns mainGlobals mg → FnOk l.prog w K mg base (L2.CX l.prog w) 6 fa fdl ["script"] (spL K) := by
  obtain rfl : f36 = fa := by
    have e := hfa.symm.trans (PySem.W.mg_of X G a36)
    cases e
    rfl
  have T : Tx l.prog K mg (fun i => (([(5, f5), (6, f6), (7, f7), (8, f8), (9, f9), (10, f10), (11, f11), (12, f12), (13, f13), (14, f14), (29, f29), (30, f30), (31, f31), (32, f32), (33, f33), (34, f34), (35, f35), (36, f36), (16, f16), (17, f17), (18, f18), (19, f19), (20, f20), (21, f21), (22, f22), (23, f23), (24, f24), (25, f25), (26, f26), (27, f27)] : List (Nat × _)).lookup i).getD 0) (fun i => (([(5, PySem.W.fnOf "is_integer" "is_integer" (defArgs s5) (defBody s5) (defScope s5) .none kV5 dc5 pm5 an5 cd5 ct5), (6, PySem.W.fnOf "is_count" "is_count" (defArgs s6) (defBody s6) (defScope s6) .none kV6 dc6 pm6 an6 cd6 ct6), (7, PySem.W.fnOf "is_below" "is_below" (defArgs s7) (defBody s7) (defScope s7) .none kV7 dc7 pm7 an7 cd7 ct7), (8, PySem.W.fnOf "is_name" "is_name" (defArgs s8) (defBody s8) (defScope s8) .none kV8 dc8 pm8 an8 cd8 ct8), (9, PySem.W.fnOf "are_names" "are_names" (defArgs s9) (defBody s9) (defScope s9) .none kV9 dc9 pm9 an9 cd9 ct9), (10, PySem.W.fnOf "are_below" "are_below" (defArgs s10) (defBody s10) (defScope s10) .none kV10 dc10 pm10 an10 cd10 ct10), (11, PySem.W.fnOf "is_rising" "is_rising" (defArgs s11) (defBody s11) (defScope s11) .none kV11 dc11 pm11 an11 cd11 ct11), (12, PySem.W.fnOf "are_rising_below" "are_rising_below" (defArgs s12) (defBody s12) (defScope s12) .none kV12 dc12 pm12 an12 cd12 ct12), (13, PySem.W.fnOf "is_order" "is_order" (defArgs s13) (defBody s13) (defScope s13) .none kV13 dc13 pm13 an13 cd13 ct13), (14, PySem.W.fnOf "common" "common" (defArgs s14) (defBody s14) (defScope s14) .none kV14 dc14 pm14 an14 cd14 ct14), (29, PySem.W.fnOf "_law_draw" "_law_draw" (defArgs s29) (defBody s29) (defScope s29) .none kV29 dc29 pm29 an29 cd29 ct29), (30, PySem.W.fnOf "_law_value" "_law_value" (defArgs s30) (defBody s30) (defScope s30) .none kV30 dc30 pm30 an30 cd30 ct30), (31, PySem.W.fnOf "_law_whole" "_law_whole" (defArgs s31) (defBody s31) (defScope s31) .none kV31 dc31 pm31 an31 cd31 ct31), (32, PySem.W.fnOf "_law_text" "_law_text" (defArgs s32) (defBody s32) (defScope s32) .none kV32 dc32 pm32 an32 cd32 ct32), (33, PySem.W.fnOf "_law_name" "_law_name" (defArgs s33) (defBody s33) (defScope s33) .none kV33 dc33 pm33 an33 cd33 ct33), (34, PySem.W.fnOf "_law_divides" "_law_divides" (defArgs s34) (defBody s34) (defScope s34) .none kV34 dc34 pm34 an34 cd34 ct34), (35, PySem.W.fnOf "_law_classes" "_law_classes" (defArgs s35) (defBody s35) (defScope s35) .none kV35 dc35 pm35 an35 cd35 ct35), (36, PySem.W.fnOf "law" "law" (defArgs s36) (defBody s36) (defScope s36) .none kV36 dc36 pm36 an36 cd36 ct36), (16, PySem.W.fnX "__init__" "MoveError.__init__" (defArgs ini16) (defBody ini16) (defScope ini16) [("__class__", cc16)] .none kV16 dc16 pm16 an16 (.ref co16) ct16), (17, PySem.W.fnX "__init__" "TooLarge.__init__" (defArgs ini17) (defBody ini17) (defScope ini17) [("__class__", cc17)] .none kV17 dc17 pm17 an17 (.ref co17) ct17), (18, PySem.W.fnX "__init__" "InvalidWeb.__init__" (defArgs ini18) (defBody ini18) (defScope ini18) [("__class__", cc18)] .none kV18 dc18 pm18 an18 (.ref co18) ct18), (19, PySem.W.fnX "__init__" "InvalidHueing.__init__" (defArgs ini19) (defBody ini19) (defScope ini19) [("__class__", cc19)] .none kV19 dc19 pm19 an19 (.ref co19) ct19), (20, PySem.W.fnX "__init__" "InvalidText.__init__" (defArgs ini20) (defBody ini20) (defScope ini20) [("__class__", cc20)] .none kV20 dc20 pm20 an20 (.ref co20) ct20), (21, PySem.W.fnX "__init__" "InvalidMoment.__init__" (defArgs ini21) (defBody ini21) (defScope ini21) [("__class__", cc21)] .none kV21 dc21 pm21 an21 (.ref co21) ct21), (22, PySem.W.fnX "__init__" "InvalidMotion.__init__" (defArgs ini22) (defBody ini22) (defScope ini22) [("__class__", cc22)] .none kV22 dc22 pm22 an22 (.ref co22) ct22), (23, PySem.W.fnX "__init__" "InvalidTurning.__init__" (defArgs ini23) (defBody ini23) (defScope ini23) [("__class__", cc23)] .none kV23 dc23 pm23 an23 (.ref co23) ct23), (24, PySem.W.fnX "__init__" "InvalidFrame.__init__" (defArgs ini24) (defBody ini24) (defScope ini24) [("__class__", cc24)] .none kV24 dc24 pm24 an24 (.ref co24) ct24), (25, PySem.W.fnX "__init__" "InvalidPaper.__init__" (defArgs ini25) (defBody ini25) (defScope ini25) [("__class__", cc25)] .none kV25 dc25 pm25 an25 (.ref co25) ct25), (26, PySem.W.fnX "__init__" "InvalidAct.__init__" (defArgs ini26) (defBody ini26) (defScope ini26) [("__class__", cc26)] .none kV26 dc26 pm26 an26 (.ref co26) ct26), (27, PySem.W.fnX "__init__" "InvalidPlace.__init__" (defArgs ini27) (defBody ini27) (defScope ini27) [("__class__", cc27)] .none kV27 dc27 pm27 an27 (.ref co27) ct27)] : List (Nat × _)).lookup i).getD (PySem.W.fnOf "" "" (defArgs s36) (defBody s36) (defScope s36) .none .none .none .none none .none .none)) (fun i => (([(16, C16), (17, C17), (18, C18), (19, C19), (20, C20), (21, C21), (22, C22), (23, C23), (24, C24), (25, C25), (26, C26), (27, C27)] : List (Nat × _)).lookup i).getD 0) (fun i => (([(16, cc16), (17, cc17), (18, cc18), (19, cc19), (20, cc20), (21, cc21), (22, cc22), (23, cc23), (24, cc24), (25, cc25), (26, cc26), (27, cc27)] : List (Nat × _)).lookup i).getD 0) (fun i => (([(16, co16), (17, co17), (18, co18), (19, co19), (20, co20), (21, co21), (22, co22), (23, co23), (24, co24), (25, co25), (26, co26), (27, co27)] : List (Nat × _)).lookup i).getD 0) := {
    b_ValueError := PySem.W.mg_none_of X G hb_ValueError
    b_abs := PySem.W.mg_none_of X G hb_abs
    b_all := PySem.W.mg_none_of X G hb_all
    b_bool := PySem.W.mg_none_of X G hb_bool
    b_int := PySem.W.mg_none_of X G hb_int
    b_isinstance := PySem.W.mg_none_of X G hb_isinstance
    b_len := PySem.W.mg_none_of X G hb_len
    b_list := PySem.W.mg_none_of X G hb_list
    b_max := PySem.W.mg_none_of X G hb_max
    b_range := PySem.W.mg_none_of X G hb_range
    b_set := PySem.W.mg_none_of X G hb_set
    b_sorted := PySem.W.mg_none_of X G hb_sorted
    b_str := PySem.W.mg_none_of X G hb_str
    b_super := PySem.W.mg_none_of X G hb_super
    b_tuple := PySem.W.mg_none_of X G hb_tuple
    c_gcd := PySem.W.mg_of X G hc_gcd
    c_DIGITS := ⟨_, PySem.W.mg_of X G hc_DIGITS⟩
    c_MOST_LETTERS := ⟨_, PySem.W.mg_of X G hc_MOST_LETTERS⟩
    c_SMALL := ⟨_, PySem.W.mg_of X G hc_SMALL⟩
    g5 := PySem.W.mg_of X G a5
    k5 := k5
    F5 := fun_mk (st := s5) l5 c5 k5
    g6 := PySem.W.mg_of X G a6
    k6 := k6
    F6 := fun_mk (st := s6) l6 c6 k6
    g7 := PySem.W.mg_of X G a7
    k7 := k7
    F7 := fun_mk (st := s7) l7 c7 k7
    g8 := PySem.W.mg_of X G a8
    k8 := k8
    F8 := fun_mk (st := s8) l8 c8 k8
    g9 := PySem.W.mg_of X G a9
    k9 := k9
    F9 := fun_mk (st := s9) l9 c9 k9
    g10 := PySem.W.mg_of X G a10
    k10 := k10
    F10 := fun_mk (st := s10) l10 c10 k10
    g11 := PySem.W.mg_of X G a11
    k11 := k11
    F11 := fun_mk (st := s11) l11 c11 k11
    g12 := PySem.W.mg_of X G a12
    k12 := k12
    F12 := fun_mk (st := s12) l12 c12 k12
    g13 := PySem.W.mg_of X G a13
    k13 := k13
    F13 := fun_mk (st := s13) l13 c13 k13
    g14 := PySem.W.mg_of X G a14
    k14 := k14
    F14 := fun_mk (st := s14) l14 c14 k14
    g29 := PySem.W.mg_of X G a29
    k29 := k29
    F29 := fun_mk (st := s29) l29 c29 k29
    g30 := PySem.W.mg_of X G a30
    k30 := k30
    F30 := fun_mk (st := s30) l30 c30 k30
    g31 := PySem.W.mg_of X G a31
    k31 := k31
    F31 := fun_mk (st := s31) l31 c31 k31
    g32 := PySem.W.mg_of X G a32
    k32 := k32
    F32 := fun_mk (st := s32) l32 c32 k32
    g33 := PySem.W.mg_of X G a33
    k33 := k33
    F33 := fun_mk (st := s33) l33 c33 k33
    g34 := PySem.W.mg_of X G a34
    k34 := k34
    F34 := fun_mk (st := s34) l34 c34 k34
    g35 := PySem.W.mg_of X G a35
    k35 := k35
    F35 := fun_mk (st := s35) l35 c35 k35
    g36 := PySem.W.mg_of X G a36
    k36 := k36
    F36 := fun_mk (st := s36) l36 c36 k36
    n16 := PySem.W.mg_of X G a16
    e16 := errt_mk (st := ini16) i16 l16 o16 r16 b16
    x16 := x16
    n17 := PySem.W.mg_of X G a17
    e17 := errt_mk (st := ini17) i17 l17 o17 r17 b17
    u17 := u17
    x17 := x17
    n18 := PySem.W.mg_of X G a18
    e18 := errt_mk (st := ini18) i18 l18 o18 r18 b18
    u18 := u18
    x18 := x18
    n19 := PySem.W.mg_of X G a19
    e19 := errt_mk (st := ini19) i19 l19 o19 r19 b19
    u19 := u19
    x19 := x19
    n20 := PySem.W.mg_of X G a20
    e20 := errt_mk (st := ini20) i20 l20 o20 r20 b20
    u20 := u20
    x20 := x20
    n21 := PySem.W.mg_of X G a21
    e21 := errt_mk (st := ini21) i21 l21 o21 r21 b21
    u21 := u21
    x21 := x21
    n22 := PySem.W.mg_of X G a22
    e22 := errt_mk (st := ini22) i22 l22 o22 r22 b22
    u22 := u22
    x22 := x22
    n23 := PySem.W.mg_of X G a23
    e23 := errt_mk (st := ini23) i23 l23 o23 r23 b23
    u23 := u23
    x23 := x23
    n24 := PySem.W.mg_of X G a24
    e24 := errt_mk (st := ini24) i24 l24 o24 r24 b24
    u24 := u24
    x24 := x24
    n25 := PySem.W.mg_of X G a25
    e25 := errt_mk (st := ini25) i25 l25 o25 r25 b25
    u25 := u25
    x25 := x25
    n26 := PySem.W.mg_of X G a26
    e26 := errt_mk (st := ini26) i26 l26 o26 r26 b26
    u26 := u26
    x26 := x26
    n27 := PySem.W.mg_of X G a27
    e27 := errt_mk (st := ini27) i27 l27 o27 r27 b27
    u27 := u27
    x27 := x27
    q16_16 := q16_16
    q17_16 := q17_16
    q18_16 := q18_16
    q19_16 := q19_16
    q20_16 := q20_16
    q21_16 := q21_16
    q22_16 := q22_16
    q23_16 := q23_16
    q24_16 := q24_16
    q25_16 := q25_16
    q26_16 := q26_16
    q27_16 := q27_16
    q16_17 := q16_17
    q17_17 := q17_17
    q18_17 := q18_17
    q19_17 := q19_17
    q20_17 := q20_17
    q21_17 := q21_17
    q22_17 := q22_17
    q23_17 := q23_17
    q24_17 := q24_17
    q25_17 := q25_17
    q26_17 := q26_17
    q27_17 := q27_17
    q16_V := q16_V
    q17_V := q17_V
    q18_V := q18_V
    q19_V := q19_V
    q20_V := q20_V
    q21_V := q21_V
    q22_V := q22_V
    q23_V := q23_V
    q24_V := q24_V
    q25_V := q25_V
    q26_V := q26_V
    q27_V := q27_V
  }
  exact ⟨_, fun s v => .of_eq rfl, fun base _ _ => (ok36 T).imp fun vs H Q E q => spL_of (fun ns hl => law hl) q⟩
end
end K00

namespace K00
open PySem PySem.Spec L2 MX
open PyProof.Rows hiding St
theorem m29_is : m29 = mDraw := rfl
def wholeB : D → Bool | .int _ => true | _ => false
def cntB : D → Bool | .int i => decide (0 ≤ i) | _ => false
def belB (n : Int) : D → Bool | .int i => decide (0 ≤ i) && decide (i < n) | _ => false
theorem m31_v {v : D} (h : v.plain = true) : m31 [.val v] = .ok (.bl (wholeB v)) [.no] := by
  cases v with
  | bl b => cases b <;> rfl
  | scr _ => cases h
  | ins _ _ _ => cases h
  | exc _ _ _ => cases h
  | _ => rfl
theorem m5_v {v : D} (h : v.plain = true) : m5 [.val v] = .ok (.bl (wholeB v)) [.no] := by
  cases v with
  | bl b => cases b <;> rfl
  | scr _ => cases h
  | ins _ _ _ => cases h
  | exc _ _ _ => cases h
  | _ => rfl
theorem m6_v {v : D} (h : v.plain = true) : m6 [.val v] = .ok (.bl (cntB v)) [.no] := by
  cases v with
  | bl b => cases b <;> rfl
  | scr _ => cases h
  | ins _ _ _ => cases h
  | exc _ _ _ => cases h
  | _ => rfl
theorem m7_v {v : D} {n : Int} (h : v.plain = true) : m7 [.val v, .val (.int n)] = .ok (.bl (belB n v)) [.no, .no] := by
  cases v with
  | bl b => cases b <;> rfl
  | scr _ => cases h
  | ins _ _ _ => cases h
  | exc _ _ _ => cases h
  | int i =>
    have e : Ok (m7 [.val (.int i), .val (.int n)]) fun r ss => r = .bl (belB n (.int i)) ∧ ss = [.no, .no] := by
      refine ok_def rfl ?_
      show OkS (mRet _ [.val (.int i), .val (.int n)]) _ _
      rw [w_mRet, w_mAndV, w_call1, w_mVar (d := .int i) (hi := rfl), m6_v rfl]
      refine ⟨_, rfl, ?_⟩
      unfold cntB belB
      by_cases hi : 0 ≤ i
      · rw [if_pos (by simpa using hi), w_mBin, w_mVar (d := .int i) (hi := rfl), w_mVar (d := .int n) (hi := rfl)]
        exact ⟨_, ltD_int _ _, by simp [hi], rfl⟩
      · rw [if_neg (by simpa using hi)]
        exact ⟨by simp [hi], rfl⟩
    obtain ⟨a, st, e1, rfl, rfl⟩ := e.ex
    exact e1
  | _ => rfl
/-! ### values -/
def vals : List D := [.int (-1), .int 0, .int 1, .int 5, .int (10 ^ 20), .bl true, .bl false, .non, .str "a", .str "", .tup [], .tup [.int 0], .lst [.int 0]]
theorem rows_ok {P : D → MS → Prop} {st : MS} (h : P (.lst vals) st) : Ok (mLv (mLst (mCons (mUn negD (mC (.int 1))) (mCons (mC (.int 0)) (mCons (mC (.int 1)) (mCons (mC (.int 5)) (mCons (mBin powD (mC (.int 10)) (mC (.int 20))) (mCons (mC (.bl true)) (mCons (mC (.bl false)) (mCons (mC .non) (mCons (mC (.str (Str.ofString "a"))) (mCons (mC (.str (Str.ofString ""))) (mCons (mTup mNil) (mCons (mTup (mCons (mC (.int 0)) mNil)) (mCons (mLv (mLst (mCons (mC (.int 0)) mNil))) mNil)))))))))))))) st) P :=
  Ok.of_eq (a := .lst vals) (st := st) rfl h
theorem m30_ok {ds : List D} (ht : Tp ds) : Ok (m30 [.own true (.lst ds)]) fun r ss => ∃ ds', r ∈ vals ∧ Tp ds' ∧ ss = [.own true (.lst ds')] := by
  refine ok_def rfl ?_
  show OkS (mSeq _ _ [.own true (.lst ds), .no]) _ _
  rw [w_mSeq, w_mAsg]
  refine rows_ok ⟨_, rfl, ?_⟩
  show OkS _ _ _
  rw [w_mRet, w_mBin]
  show Ok (mVar 1 [.own true (.lst ds), .val (.lst vals)]) _
  rw [w_mVar (d := .lst vals) (hi := rfl)]
  refine draw_call (m := 13) (b := true) (ds := ds) rfl ht (by decide) (by decide) rfl fun r ds' h0 h1 ht' => ?_
  refine ⟨_, by unfold ixD; exact atI_get vals h0 h1, ds', List.getElem_mem _, ht', rfl⟩
/-! ### texts -/
def signs : List Nat := (Str.ofString "abz019A_ -").cps.toList
def tx (l : List Nat) : D := .str ⟨l.toArray⟩
def Txt (l : List Nat) : Prop := l.length ≤ 14 ∧ ∀ c ∈ l, c ∈ signs
def lowC (c : Nat) : Bool := decide (97 ≤ c) && decide (c ≤ 122)
def digC (c : Nat) : Bool := decide (48 ≤ c) && decide (c ≤ 57)
def nameB (l : List Nat) : Bool := (decide (1 ≤ l.length) && decide (l.length ≤ 12)) && ((match l with | c :: _ => lowC c | [] => false) && l.all fun c => lowC c || digC c)
theorem small_c : ∀ c ∈ signs, strIn ⟨#[c]⟩ (Str.ofString "abcdefghijklmnopqrstuvwxyz") = lowC c := by decide +kernel
theorem digit_c : ∀ c ∈ signs, strIn ⟨#[c]⟩ (Str.ofString "0123456789") = digC c := by decide +kernel
theorem sign_ok : ∀ c ∈ signs, PyData.strOk ⟨#[c]⟩ = true := by decide +kernel
theorem lt_97 : ∀ c ∈ signs, (!decide (([c] : List Nat) < [97])) = decide (97 ≤ c) := by decide +kernel
theorem lt_122 : ∀ c ∈ signs, (!decide (([122] : List Nat) < [c])) = decide (c ≤ 122) := by decide +kernel
theorem lt_48 : ∀ c ∈ signs, (!decide (([c] : List Nat) < [48])) = decide (48 ≤ c) := by decide +kernel
theorem lt_57 : ∀ c ∈ signs, (!decide (([57] : List Nat) < [c])) = decide (c ≤ 57) := by decide +kernel
theorem tx_len (l : List Nat) : lenD [tx l] = if l.length ≤ sizeLine then some (.int l.length) else none := by
  unfold lenD tx
  dsimp only
  rfl
theorem le_sl {l : List Nat} (h : l.length ≤ 14) : l.length ≤ sizeLine := by rw [sizeLine_eq]; omega
theorem tx_ix {l : List Nat} (h : Txt l) {k : Int} (h0 : 0 ≤ k) (h1 : k < l.length) : ixD (tx l) (.int k) = some (tx [l[k.toNat]'(by omega)]) := by
  unfold ixD tx
  dsimp only
  rw [if_pos (by show l.toArray.size ≤ _; simpa using le_sl h.1)]
  show (atI l k).map _ = _
  rw [atI_get l h0 h1]
  rfl
theorem tx_items (l : List Nat) : (tx l).items = some (l.map fun c => tx [c]) := rfl
theorem in_small {c : Nat} (h : c ∈ signs) : inD (tx [c]) (.str (Str.ofString "abcdefghijklmnopqrstuvwxyz")) = some (.bl (lowC c)) := by
  show some (D.bl (strIn ⟨#[c]⟩ _)) = _
  rw [small_c c h]
theorem in_digits {c : Nat} (h : c ∈ signs) : inD (tx [c]) (.str (Str.ofString "0123456789")) = some (.bl (digC c)) := by
  show some (D.bl (strIn ⟨#[c]⟩ _)) = _
  rw [digit_c c h]
theorem le_ac {c : Nat} (h : c ∈ signs) : leD (.str (Str.ofString "a")) (tx [c]) = some (.bl (decide (97 ≤ c))) := by
  rw [← lt_97 c h]; rfl
theorem le_cz {c : Nat} (h : c ∈ signs) : leD (tx [c]) (.str (Str.ofString "z")) = some (.bl (decide (c ≤ 122))) := by
  rw [← lt_122 c h]; rfl
theorem le_0c {c : Nat} (h : c ∈ signs) : leD (.str (Str.ofString "0")) (tx [c]) = some (.bl (decide (48 ≤ c))) := by
  rw [← lt_48 c h]; rfl
theorem le_c9 {c : Nat} (h : c ∈ signs) : leD (tx [c]) (.str (Str.ofString "9")) = some (.bl (decide (c ≤ 57))) := by
  rw [← lt_57 c h]; rfl
theorem text_ok {ds : List D} (ht : Tp ds) : Ok (m32 [.own true (.lst ds)]) fun r ss => ∃ ds', (∃ l, r = tx l ∧ Txt l) ∧ Tp ds' ∧ ss = [.own true (.lst ds')] := by
  refine ok_def rfl ?_
  show OkS (mSeq _ _ [.own true (.lst ds), .no, .no]) _ _
  rw [w_mSeq, w_mAsg, w_mC]
  refine ⟨_, rfl, ?_⟩
  show OkS (mSeq _ _ [.own true (.lst ds), .val (tx []), .no]) _ _
  rw [w_mSeq, w_mFor, w_mRng1, w_mCons]
  refine draw_call (m := 15) (b := true) (ds := ds) rfl ht (by decide) (by decide) rfl fun r ds1 h0 h1 ht1 => ?_
  rw [w_mNil]
  refine ⟨r, rfl, by unfold rngOk; simp; omega, ?_⟩
  refine okS_for (fun rest st => ∃ (ds : List D) (l : List Nat) (x : Slot), st = [.own true (.lst ds), .val (tx l), x] ∧ Tp ds ∧ l.length + rest.length ≤ 14 ∧ ∀ c ∈ l, c ∈ signs) (fun st hI => ?_) (fun d rest st hI => ?_) ⟨ds1, [], .no, rfl, ht1, by rw [rngD_len]; simp; omega, by simp⟩
  · obtain ⟨ds2, l, x, rfl, ht2, hl, hc⟩ := hI
    rw [w_mRet, w_mVar (d := tx l) (hi := rfl)]
    exact ⟨ds2, ⟨l, rfl, by simpa using hl, hc⟩, ht2, rfl⟩
  · obtain ⟨ds2, l, x, rfl, ht2, hl, hc⟩ := hI
    refine ⟨[.own true (.lst ds2), .val (tx l), .val d], rfl, ?_⟩
    rw [w_mAsg, w_mBin, w_mVar (d := tx l) (hi := rfl), w_mBin, w_mC, w_mIf, w_mTst, w_mBin]
    -- the sign drawn
    have fin : ∀ (k : Int) (ds3 : List D), 0 ≤ k → k < 10 → Tp ds3 → ∃ z, ixD (.str (Str.ofString "abz019A_ -")) (.int k) = some z ∧ ∃ z_1, addD (tx l) z = some z_1 ∧ ∃ st2, tgName 1 z_1 [.own true (.lst ds3), .val (tx l), .val d] = some st2 ∧ ∃ (ds : List D) (l : List Nat) (x : Slot), st2 = [.own true (.lst ds), .val (tx l), x] ∧ Tp ds ∧ l.length + rest.length ≤ 14 ∧ ∀ c ∈ l, c ∈ signs := by
      intro k ds3 k0 k1 ht3
      have hk : k < ((signs.length : Nat) : Int) := k1
      refine ⟨.str ⟨#[signs[k.toNat]'(by omega)]⟩, ?_, tx (l ++ [signs[k.toNat]'(by omega)]), ?_, _, rfl, ds3, l ++ [signs[k.toNat]'(by omega)], .val d, rfl, ht3, ?_, ?_⟩
      · unfold ixD
        dsimp only
        rw [if_pos (by decide)]
        show (atI signs k).map _ = _
        rw [atI_get signs k0 hk]
        rfl
      · unfold addD tx
        dsimp only
        simp at hl
        rw [if_pos (by rw [sizeLine_eq]; show l.toArray.size + 1 ≤ _; simp; omega)]
        congr 2
        show (⟨l.toArray ++ #[_]⟩ : Str) = ⟨(l ++ [_]).toArray⟩
        simp
      · simp at hl ⊢
        omega
      · intro c hcc
        rcases List.mem_append.mp hcc with h | h
        · exact hc c h
        · simp at h
          subst h
          exact List.getElem_mem _
    refine draw_call (m := 6) (b := true) (ds := ds2) rfl ht2 (by decide) (by decide) rfl fun r2 ds3 _ _ ht3 => ?_
    rw [w_mC]
    refine ⟨_, eqD_int _ _, _, rfl, ?_⟩
    by_cases hr : r2 = 0
    · subst hr
      rw [if_pos (by decide)]
      refine draw_call (m := 10) (b := true) (ds := ds3) rfl ht3 (by decide) (by decide) rfl fun k ds4 k0 k1 ht4 => fin k ds4 k0 k1 ht4
    · rw [if_neg (by simpa using hr)]
      refine draw_call (m := 3) (b := true) (ds := ds3) rfl ht3 (by decide) (by decide) rfl fun k ds4 k0 k1 ht4 => fin k ds4 k0 (by omega) ht4
theorem plain_tx {c : Nat} (h : c ∈ signs) : (tx [c]).plain = true := sign_ok c h
theorem allD_bls (bs : List Bool) : allD [.lst (bs.map D.bl)] = some (.bl (bs.all id)) := by
  show (blsOf (bs.map D.bl)).map _ = _
  rw [blsOf_bl]
  rfl
theorem m8_text {l : List Nat} (h : Txt l) : m8 [.val (tx l)] = .ok (.bl (nameB l)) [.no] := by
  have e : Ok (m8 [.val (tx l)]) fun r ss => r = .bl (nameB l) ∧ ss = [.no] := by
    refine ok_def rfl ?_
    show OkS (mSeq _ _ [.val (tx l), .no]) _ _
    rw [w_mSeq, w_mIfS, w_mOrT, w_mNotT, w_mTru, w_mUn, w_mVar (d := tx l) (hi := rfl)]
    refine ⟨_, rfl, _, rfl, ?_⟩
    rw [if_neg (by decide), w_mOrT, w_mNotT, w_mTst, w_mChain, w_mC, w_mCB, w_mCons, w_mVar (d := tx l) (hi := rfl), w_mNil]
    refine ⟨_, by rw [tx_len, if_pos (le_sl h.1)], _, leD_int _ _, ?_⟩
    have fin : ∀ {x : D} {ss : List Slot}, x = .bl (nameB l) → ss = [.no] → x = .bl (nameB l) ∧ ss = [.no] := fun a b => ⟨a, b⟩
    by_cases h1 : 1 ≤ l.length
    · rw [if_pos (decide_eq_true (by omega)), w_mC]
      refine ⟨_, leD_int _ _, _, rfl, ?_⟩
      by_cases h2 : l.length ≤ 12
      · have hl2 : decide ((l.length : Int) ≤ 12) = true := by simp; omega
        rw [hl2, if_neg (by decide), w_mTst, w_mBin, w_mBin, w_mVar (d := tx l) (hi := rfl), w_mC]
        have hm0 : l[(0 : Int).toNat]'(by simp; omega) ∈ signs := h.2 _ (List.getElem_mem _)
        refine ⟨_, tx_ix h (by decide) (by omega), ?_⟩
        rw [w_mC]
        refine ⟨.bl (!lowC (l[(0 : Int).toNat]'(by simp; omega))), by unfold ninD; rw [in_small hm0], _, rfl, ?_⟩
        cases l with
        | nil => simp at h1
        | cons c l =>
          simp only [Int.toNat_zero, List.getElem_cons_zero]
          rcases Bool.eq_false_or_eq_true (lowC c) with hc | hc
          rotate_left
          · rw [if_pos (by rw [hc]; decide), w_mRet, w_mC]
            refine fin ?_ rfl
            unfold nameB
            simp [hc]
          · rw [if_neg (by rw [hc]; decide), w_nx, w_mRet, w_mCB, w_mCons, w_mLv, w_mComp, w_mItems, w_mVar (d := tx (c :: l)) (hi := rfl)]
            refine ⟨_, tx_items _, ?_⟩
            refine ok_compP (fun _ => true) (fun d => match d with | .str s => .bl ((s.cps.toList.headD 0 |> lowC) || (s.cps.toList.headD 0 |> digC)) | _ => .non) (by simp only [List.length_map]; exact Nat.le_trans h.1 (by decide)) (fun d hd => ?_) ?_
            · obtain ⟨c', hc', rfl⟩ := List.mem_map.mp hd
              have hs := h.2 c' hc'
              refine ⟨[.val (tx (c :: l)), .val (tx [c'])], rfl, rfl, rfl, fun _ => ?_⟩
              rw [w_mOrV, w_mBin, w_mVar (d := tx [c']) (hi := rfl), w_mC]
              refine ⟨_, in_small hs, _, rfl, ?_⟩
              cases hlow : lowC c' with
              | true =>
                rw [if_pos rfl]
                exact ⟨by show _ = D.bl (lowC c' || digC c'); rw [hlow]; rfl, rfl⟩
              | false =>
                rw [if_neg (by decide), w_mBin, w_mVar (d := tx [c']) (hi := rfl), w_mC]
                refine ⟨_, in_digits hs, ?_, rfl⟩
                show _ = D.bl (lowC c' || digC c')
                rw [hlow]; rfl
            · rw [w_mNil]
              have e2 : (((c :: l).map fun c => tx [c]).filter fun _ => true).map (fun d => match d with | .str s => D.bl ((s.cps.toList.headD 0 |> lowC) || (s.cps.toList.headD 0 |> digC)) | _ => .non) = ((c :: l).map fun c => lowC c || digC c).map D.bl := by
                rw [List.filter_eq_self.mpr (fun _ _ => rfl), List.map_map, List.map_map]
                rfl
              rw [e2]
              refine ⟨_, allD_bls _, fin ?_ rfl⟩
              unfold nameB
              have h1' : 1 ≤ (c :: l).length := h1
              rw [decide_eq_true h1', decide_eq_true h2, List.all_map]
              simp only [hc, Bool.true_and]
              congr 1
      · have hl2 : decide ((l.length : Int) ≤ 12) = false := by simp; omega
        rw [hl2, if_pos (by decide), w_mRet, w_mC]
        refine fin ?_ rfl
        unfold nameB
        simp [h2]
    · rw [if_neg (by rw [decide_eq_true_eq]; omega)]
      refine ⟨false, rfl, ?_⟩
      rw [if_pos (by decide), if_pos rfl, w_mRet, w_mC]
      refine fin ?_ rfl
      unfold nameB
      simp [h1]
  obtain ⟨a, st, e1, rfl, rfl⟩ := e.ex
  exact e1
theorem eqD_nil {xs : List D} (hp : plains xs = true) : eqD (.lst xs) (.lst []) = some (.bl xs.isEmpty) := by
  have e : cmpOk (.lst xs) (.lst []) = true := by
    unfold cmpOk
    have h1 : (D.lst xs).plain = true := hp
    have h2 : (D.lst []).plain = true := rfl
    have h3 : decide ((D.lst []).dep ≤ 64) = true := rfl
    rw [h1, h2, h3]
    simp
  unfold eqD
  rw [if_pos e]
  cases xs <;> rfl
theorem plains_all : ∀ {xs : List D}, (∀ d ∈ xs, d.plain = true) → plains xs = true
  | [], _ => rfl
  | d :: xs, h => by
    unfold plains
    rw [h d (by simp), plains_all fun e he => h e (by simp [he])]
    rfl
theorem tx_cut1 {c : Nat} {l : List Nat} (h : Txt (c :: l)) : slD (tx (c :: l)) none (some 1) = some (tx [c]) := by
  unfold slD tx
  dsimp only
  rw [if_pos (by show (c :: l).toArray.size ≤ _; simpa using le_sl h.1)]
  congr 2
theorem filter_not_isEmpty {α : Type} (p : α → Bool) : ∀ l : List α, (l.filter fun c => !p c).isEmpty = l.all p
  | [] => rfl
  | c :: l => by
    have ih := filter_not_isEmpty p l
    cases hp : p c with
    | true => rw [List.filter_cons_of_neg (by simp [hp]), ih]; simp [hp]
    | false => rw [List.filter_cons_of_pos (by simp [hp])]; simp [hp]
theorem m33_text {l : List Nat} (h : Txt l) : m33 [.val (tx l)] = .ok (.bl (nameB l)) [.no] := by
  have e : Ok (m33 [.val (tx l)]) fun r ss => r = .bl (nameB l) ∧ ss = [.no] := by
    refine ok_def rfl ?_
    show OkS (mSeq _ _ [.val (tx l), .no, .no]) _ _
    rw [w_mSeq, w_mAsg, w_mBin, w_mLv, w_mComp, w_mItems, w_mVar (d := tx l) (hi := rfl)]
    refine ⟨_, tx_items _, ?_⟩
    refine ok_compP (fun d => match d with | .str s => !(lowC (s.cps.toList.headD 0) || digC (s.cps.toList.headD 0)) | _ => true) id (by simp only [List.length_map]; exact Nat.le_trans h.1 (by decide)) (fun d hd => ?_) ?_
    · obtain ⟨c, hc, rfl⟩ := List.mem_map.mp hd
      have hs := h.2 c hc
      refine ⟨[.val (tx l), .no, .val (tx [c])], rfl, ?_⟩
      rw [w_mNotT, w_mOrT, w_mTst, w_mChain, w_mC, w_mVar (d := tx [c]) (hi := rfl)]
      refine ⟨_, le_ac hs, ?_⟩
      have done : ∀ k : Bool, k = (lowC c || digC c) → (!k) = !(lowC c || digC c) ∧ leave [Slot.val (tx l), Slot.no, Slot.no] [Slot.val (tx l), Slot.no, Slot.val (tx [c])] (([("one", 2)] : List (Str × Nat)).map (·.2)) = [Slot.val (tx l), Slot.no, Slot.no] ∧ ((!(lowC c || digC c)) = true → Ok (mVar 2 [Slot.val (tx l), Slot.no, Slot.val (tx [c])]) fun y s3 => y = id (tx [c]) ∧ leave [Slot.val (tx l), Slot.no, Slot.no] s3 (([("one", 2)] : List (Str × Nat)).map (·.2)) = [Slot.val (tx l), Slot.no, Slot.no]) := fun k hk => by
        subst hk
        exact ⟨rfl, rfl, fun _ => ⟨rfl, rfl⟩⟩
      have digs : Ok (mTst (mChain leD leD (mC (.str (Str.ofString "0"))) (mVar 2) (mC (.str (Str.ofString "9")))) [Slot.val (tx l), Slot.no, Slot.val (tx [c])]) fun k st => k = digC c ∧ st = [Slot.val (tx l), Slot.no, Slot.val (tx [c])] := by
        rw [w_mTst, w_mChain, w_mC, w_mVar (d := tx [c]) (hi := rfl)]
        refine ⟨_, le_0c hs, ?_⟩
        by_cases h1 : 48 ≤ c
        · rw [if_pos (by simpa using h1), w_mC]
          exact ⟨_, le_c9 hs, _, rfl, by unfold digC; rw [decide_eq_true h1]; rfl, rfl⟩
        · rw [if_neg (by simpa using h1)]
          exact ⟨_, rfl, by unfold digC; rw [decide_eq_false h1]; rfl, rfl⟩
      by_cases h1 : 97 ≤ c
      · rw [if_pos (by simpa using h1), w_mC]
        refine ⟨_, le_cz hs, _, rfl, ?_⟩
        by_cases h2 : c ≤ 122
        · rw [if_pos (by simpa using h2)]
          exact done true (by unfold lowC; simp [h1, h2])
        · rw [if_neg (by simpa using h2)]
          refine digs.mono fun k st hk => ?_
          obtain ⟨rfl, rfl⟩ := hk
          exact done _ (by unfold lowC; simp [h2])
      · rw [if_neg (by simpa using h1)]
        refine ⟨_, rfl, ?_⟩
        rw [if_neg (by decide)]
        refine digs.mono fun k st hk => ?_
        obtain ⟨rfl, rfl⟩ := hk
        exact done _ (by unfold lowC; simp [h1])
    · have e2 : (((l.map fun c => tx [c]).filter fun d => match d with | .str s => !(lowC (s.cps.toList.headD 0) || digC (s.cps.toList.headD 0)) | _ => true).map id) = (l.filter fun c => !(lowC c || digC c)).map fun c => tx [c] := by
        rw [List.map_id, List.filter_map]
        rfl
      rw [e2, w_mLv, w_mLst, w_mNil]
      refine ⟨by decide, .bl (l.all fun c => lowC c || digC c), ?_, _, rfl, ?_⟩
      · rw [eqD_nil (plains_all fun d hd => ?_)]
        · congr 2
          rw [List.isEmpty_map, filter_not_isEmpty]
        · obtain ⟨c, hc, rfl⟩ := List.mem_map.mp hd
          exact plain_tx (h.2 c (List.mem_filter.mp hc).1)
      · show OkS (mRet _ [.val (tx l), .val (.bl (l.all fun c => lowC c || digC c)), .no]) _ _
        rw [w_mRet, w_mAndV, w_mVar (hi := rfl)]
        refine ⟨_, rfl, ?_⟩
        by_cases ha : (l.all fun c => lowC c || digC c) = true
        · rw [if_pos ha, w_mAndV, w_mChain, w_mC, w_mCB, w_mCons, w_mVar (d := tx l) (hi := rfl), w_mNil]
          refine ⟨_, by rw [tx_len, if_pos (le_sl h.1)], _, ltD_int _ _, ?_⟩
          by_cases h1 : 1 ≤ l.length
          · rw [if_pos (decide_eq_true (by omega)), w_mC]
            refine ⟨_, ltD_int _ _, _, rfl, ?_⟩
            by_cases h2 : l.length ≤ 12
            · rw [if_pos (decide_eq_true (by omega)), w_mChain, w_mC, w_mSl, w_mVar (d := tx l) (hi := rfl)]
              cases l with
              | nil => simp at h1
              | cons c l =>
                have hs := h.2 c (by simp)
                rw [w_ok, w_mPart, w_mC]
                refine ⟨1, rfl, _, tx_cut1 h, _, le_ac hs, ?_⟩
                by_cases h3 : 97 ≤ c
                · rw [if_pos (decide_eq_true h3), w_mC]
                  refine ⟨_, le_cz hs, ?_, rfl⟩
                  unfold nameB
                  rw [ha, decide_eq_true h1, decide_eq_true h2]
                  simp [lowC, h3]
                · rw [if_neg (by simpa using h3)]
                  refine ⟨?_, rfl⟩
                  unfold nameB
                  simp [lowC, h3]
            · rw [if_neg (by rw [decide_eq_true_eq]; omega)]
              refine ⟨?_, rfl⟩
              unfold nameB
              have : decide ((l.length : Int) < 13) = false := by simp; omega
              rw [this]
              simp [h2]
          · rw [if_neg (by rw [decide_eq_true_eq]; omega)]
            refine ⟨_, rfl, ?_⟩
            rw [if_neg (by decide)]
            refine ⟨?_, rfl⟩
            unfold nameB
            simp [h1]
        · rw [if_neg ha]
          refine ⟨?_, rfl⟩
          unfold nameB
          rw [Bool.not_eq_true] at ha
          rw [ha]
          simp
  obtain ⟨a, st, e1, rfl, rfl⟩ := e.ex
  exact e1
/-! ### the values again -/
theorem vals_plain : ∀ v ∈ vals, v.plain = true := by decide +kernel
theorem vals_dep : ∀ v ∈ vals, v.dep ≤ 64 := by decide +kernel
def isA : D → Bool | .str s => s == Str.ofString "a" | _ => false
theorem m8_vals : ∀ v ∈ vals, m8 [.val v] = .ok (.bl (isA v)) [.no] := by
  intro v hv
  simp only [vals, List.mem_cons, List.not_mem_nil, or_false] at hv
  rcases hv with rfl | rfl | rfl | rfl | rfl | rfl | rfl | rfl | rfl | rfl | rfl | rfl | rfl
  all_goals first
    | rfl
    | (have h := m8_text (l := [97]) ⟨by decide, by decide +kernel⟩; exact h)
theorem eqD_of {d e : D} (hd : d.plain = true) (he : e.plain = true) (h : (decide (d.dep ≤ 64) || decide (e.dep ≤ 64)) = true) : eqD d e = some (.bl (d.beq e)) := by
  unfold eqD cmpOk
  rw [hd, he, h]
  rfl
theorem neD_of {d e : D} (hd : d.plain = true) (he : e.plain = true) (h : (decide (d.dep ≤ 64) || decide (e.dep ≤ 64)) = true) : neD d e = some (.bl (!d.beq e)) := by
  unfold neD cmpOk
  rw [hd, he, h]
  rfl
theorem eqA_vals : ∀ v ∈ vals, eqD v (.str (Str.ofString "a")) = some (.bl (isA v)) := by
  intro v hv
  simp only [vals, List.mem_cons, List.not_mem_nil, or_false] at hv
  rcases hv with rfl | rfl | rfl | rfl | rfl | rfl | rfl | rfl | rfl | rfl | rfl | rfl | rfl
  all_goals
    rw [eqD_of (by decide +kernel) (by decide +kernel) (by decide +kernel)]
    first
    | rfl
    | (unfold D.beq; rfl)
/-! ### the greatest divisor -/
theorem last_filter {q : Nat → Bool} {g : Nat} (hg : 1 ≤ g) (hq : q (g - 1) = true) : ∀ {M : Nat}, g ≤ M → (∀ i, g ≤ i → i < M → q i = false) → ∃ pre, (List.range M).filter q = pre ++ [g - 1]
  | 0, h, _ => by omega
  | M + 1, h, hn => by
    rw [List.range_succ, List.filter_append]
    by_cases e : M + 1 = g
    · have e2 : g - 1 = M := by omega
      rw [e2] at hq ⊢
      exact ⟨_, by rw [List.filter_cons_of_pos hq]; rfl⟩
    · obtain ⟨pre, hp⟩ := last_filter hg hq (M := M) (by omega) fun i h1 h2 => hn i h1 (by omega)
      exact ⟨pre, by rw [hp, List.filter_cons_of_neg (by rw [hn M (by omega) (by omega)]; decide)]; simp⟩
theorem fmod_nat (m k : Nat) : Int.fmod (m : Int) (k : Int) = ((m % k : Nat) : Int) := by
  rw [Int.fmod_eq_emod_of_nonneg _ (by omega)]
  rfl
def divB (m n : Nat) (i : Nat) : Bool := decide (m % (1 + i) = 0) && decide (n % (1 + i) = 0)
theorem m34_ok {m n : Nat} (hm : m < 1000) (hn : n < 1000) : m34 [.val (.int m), .val (.int n)] = .ok (.int ((Nat.gcd m n : Nat) : Int)) [.no, .no] := by
  have e : Ok (m34 [.val (.int m), .val (.int n)]) fun r ss => r = .int ((Nat.gcd m n : Nat) : Int) ∧ ss = [.no, .no] := by
    refine ok_def rfl ?_
    show OkS (mSeq _ _ [.val (.int m), .val (.int n), .no, .no]) _ _
    have am : ∀ k : Nat, absD [.int (k : Int)] = some (.int k) := fun k => by rw [absD_int, if_neg (by omega)]
    rw [w_mSeq, w_mAsg, w_mLv, w_mComp, w_mRng2, w_mCons, w_mC, w_mCons, w_mBin, w_mCB, w_mCons, w_mCB, w_mCons, w_mVar (d := .int m) (hi := rfl), w_mNil]
    refine ⟨_, am m, ?_⟩
    rw [w_mCons, w_mCB, w_mCons, w_mVar (d := .int n) (hi := rfl), w_mNil]
    refine ⟨_, am n, ?_⟩
    rw [w_mNil]
    refine ⟨.int ((max m n : Nat) : Int), ?_, ?_⟩
    · show some (D.int (if (n : Int) > m then n else m)) = _
      congr 2
      split <;> omega
    rw [w_mC]
    refine ⟨_, addD_int _ _, ?_⟩
    rw [w_mNil]
    refine ⟨1, ((max m n : Nat) : Int) + 1, rfl, by unfold rngOk; simp; omega, ?_⟩
    have eM : (((max m n : Nat) : Int) + 1 - 1).toNat = max m n := by omega
    rw [eM]
    refine ok_compP (fun d => match d with | .int k => divB m n (k - 1).toNat | _ => false) id (by rw [rngD_len]; omega) (fun d hd => ?_) ?_
    · unfold rngD at hd
      obtain ⟨i, hi, rfl⟩ := List.mem_map.mp hd
      have ek : ((1 : Int) + (i : Int)) = ((1 + i : Nat) : Int) := by omega
      have ek0 : ((1 : Int) + (i : Int)) ≠ 0 := by omega
      have ed : (((1 : Int) + (i : Int)) - 1).toNat = i := by omega
      refine ⟨[.val (.int m), .val (.int n), .no, .val (.int (1 + i))], rfl, ?_⟩
      rw [w_mAndT, w_mTst, w_mBin, w_mBin, w_mVar (d := .int m) (hi := rfl), w_mVar (d := .int (1 + i)) (hi := rfl)]
      refine ⟨_, by rw [modD_int, if_neg ek0, ek, fmod_nat], ?_⟩
      rw [w_mC]
      refine ⟨_, eqD_int _ _, _, rfl, ?_⟩
      have done : ∀ k : Bool, k = divB m n i → k = divB m n (((1 : Int) + (i : Int)) - 1).toNat ∧ leave [Slot.val (.int m), .val (.int n), .no, .no] [.val (.int m), .val (.int n), .no, .val (.int (1 + i))] (([("k", 3)] : List (Str × Nat)).map (·.2)) = [Slot.val (.int m), .val (.int n), .no, .no] ∧ (divB m n (((1 : Int) + (i : Int)) - 1).toNat = true → Ok (mVar 3 [Slot.val (.int m), .val (.int n), .no, .val (.int (1 + i))]) fun y s3 => y = id (.int (1 + i)) ∧ leave [Slot.val (.int m), .val (.int n), .no, .no] s3 (([("k", 3)] : List (Str × Nat)).map (·.2)) = [Slot.val (.int m), .val (.int n), .no, .no]) := fun k hk => by
        rw [ed]
        exact ⟨hk, rfl, fun _ => ⟨rfl, rfl⟩⟩
      by_cases h1 : m % (1 + i) = 0
      · rw [if_pos (by rw [h1]; decide), w_mTst, w_mBin, w_mBin, w_mVar (d := .int n) (hi := rfl), w_mVar (d := .int (1 + i)) (hi := rfl)]
        refine ⟨_, by rw [modD_int, if_neg ek0, ek, fmod_nat], ?_⟩
        rw [w_mC]
        refine ⟨_, eqD_int _ _, _, rfl, done _ ?_⟩
        unfold divB
        rw [decide_eq_true h1, Bool.true_and]
        by_cases h2 : n % (1 + i) = 0
        · rw [h2]; rfl
        · rw [decide_eq_false h2]
          generalize n % (1 + i) = z at h2
          simpa using h2
      · rw [if_neg (by generalize m % (1 + i) = z at h1; simpa using h1)]
        refine done _ ?_
        unfold divB
        rw [decide_eq_false h1]; rfl
    · rw [List.map_id]
      have ef : (rngD 1 (max m n)).filter (fun d => match d with | .int k => divB m n (k - 1).toNat | _ => false) = ((List.range (max m n)).filter (divB m n)).map fun i : Nat => D.int (1 + (i : Int)) := by
        unfold rngD
        rw [List.filter_map]
        congr 1
        refine List.filter_congr fun i hi => ?_
        show divB m n (((1 : Int) + (i : Int)) - 1).toNat = _
        congr 1
        omega
      rw [ef]
      refine ⟨_, rfl, ?_⟩
      generalize hL : ((List.range (max m n)).filter (divB m n)).map (fun i : Nat => D.int (1 + (i : Int))) = L
      show OkS (mRet _ [.val (.int m), .val (.int n), .val (.lst L), .no]) _ _
      have hp : plains L = true := plains_all fun d hd => by
        rw [← hL] at hd
        obtain ⟨i, _, rfl⟩ := List.mem_map.mp hd
        rfl
      have ne : neD (.lst L) (.lst []) = some (.bl (!L.isEmpty)) := by
        rw [neD_of (d := .lst L) (e := .lst []) hp rfl (by rw [Bool.or_eq_true]; exact .inr (by decide))]
        cases L <;> rfl
      rw [w_mRet, w_mIf, w_mAndT, w_mTst, w_mBin, w_mVar (d := .lst L) (hi := rfl), w_mLv, w_mLst, w_mNil]
      refine ⟨by decide, _, ne, _, rfl, ?_⟩
      by_cases h0 : m = 0 ∧ n = 0
      · obtain ⟨rfl, rfl⟩ := h0
        have : L = [] := by rw [← hL]; rfl
        subst this
        rw [if_neg (by decide), if_neg (by decide), w_mC]
        exact ⟨rfl, rfl⟩
      · have hg : 1 ≤ Nat.gcd m n := by
          rcases Nat.eq_zero_or_pos (Nat.gcd m n) with z | z
          · exact absurd (Nat.gcd_eq_zero_iff.mp z) h0
          · exact z
        have hgm : Nat.gcd m n ∣ m := Nat.gcd_dvd_left m n
        have hgn : Nat.gcd m n ∣ n := Nat.gcd_dvd_right m n
        have hle : Nat.gcd m n ≤ max m n := by
          rcases Nat.eq_zero_or_pos m with z | z
          · have : 0 < n := by omega
            exact Nat.le_trans (Nat.le_of_dvd this hgn) (Nat.le_max_right _ _)
          · exact Nat.le_trans (Nat.le_of_dvd z hgm) (Nat.le_max_left _ _)
        obtain ⟨pre, hpre⟩ := last_filter (q := divB m n) hg (by
            unfold divB
            have e1 : 1 + (Nat.gcd m n - 1) = Nat.gcd m n := by omega
            rw [e1, decide_eq_true (Nat.mod_eq_zero_of_dvd hgm), decide_eq_true (Nat.mod_eq_zero_of_dvd hgn)]; rfl) hle (fun i h1 h2 => by
            unfold divB
            rcases Bool.eq_false_or_eq_true (decide (m % (1 + i) = 0) && decide (n % (1 + i) = 0)) with z | z
            · simp only [Bool.and_eq_true, decide_eq_true_eq] at z
              have := Nat.le_of_dvd hg (Nat.dvd_gcd (Nat.dvd_of_mod_eq_zero z.1) (Nat.dvd_of_mod_eq_zero z.2))
              omega
            · exact z)
        have eL : L = (pre.map fun i : Nat => D.int (1 + (i : Int))) ++ [.int ((Nat.gcd m n : Nat) : Int)] := by
          rw [← hL, hpre, List.map_append]
          congr 1
          show [D.int _] = _
          congr 2
          omega
        have ene : L.isEmpty = false := by rw [eL]; simp
        rw [ene, if_pos (by decide), w_mTst, w_mBin, w_mTup, w_mCons, w_mVar (d := .int m) (hi := rfl), w_mCons, w_mVar (d := .int n) (hi := rfl), w_mNil]
        refine ⟨by show 2 ≤ sizeLine; decide, ?_⟩
        rw [w_mTup, w_mCons, w_mC, w_mCons, w_mC, w_mNil]
        refine ⟨by decide, .bl true, ?_, _, rfl, ?_⟩
        · show some (D.bl (!(((m : Int) == 0) && (((n : Int) == 0) && true)))) = _
          congr 2
          by_cases z : m = 0
          · have : n ≠ 0 := fun z2 => h0 ⟨z, z2⟩
            simp
            omega
          · simp
            omega
        · rw [if_pos rfl, w_mBin, w_mVar (d := .lst L) (hi := rfl), w_mUn, w_mC]
          refine ⟨_, negD_int _, _, ?_, rfl, rfl⟩
          rw [eL]
          show atI _ (-1) = _
          unfold atI ixN
          rw [if_neg (by decide), if_pos (by simp; omega)]
          simp only [Option.bind_some]
          rw [List.getElem?_append_right (by simp; omega)]
          have : ((-1 : Int) + (((pre.map fun i : Nat => D.int (1 + (i : Int))) ++ [D.int ((Nat.gcd m n : Nat) : Int)]).length : Int)).toNat - (pre.map fun i : Nat => D.int (1 + (i : Int))).length = 0 := by simp; omega
          rw [this]
          rfl
  obtain ⟨a, st, e1, rfl, rfl⟩ := e.ex
  exact e1
theorem m14_ok {m n : Nat} : m14 [.val (.int m), .val (.int n)] = .ok (.int ((Nat.gcd m n : Nat) : Int)) [.no, .no] := rfl
/-! ### orders -/
theorem leS_int (i j : Int) : leS (.int i) (.int j) = decide (i ≤ j) := by
  have h : leS (.int i) (.int j) = !PyProof.Rows.lexLt PyProof.Rows.itemOrd [Sum.inl j] [Sum.inl i] := rfl
  rw [h]
  unfold PyProof.Rows.lexLt
  show (!(decide (j < i) || _)) = _
  by_cases hij : j < i
  · rw [decide_eq_true hij, decide_eq_false (by omega)]; rfl
  · rw [decide_eq_false hij, decide_eq_true (by omega)]
    simp [PyProof.Rows.lexLt]
theorem pigeon : ∀ (n : Nat) (ns : List Int), ns.Nodup → (∀ x ∈ ns, 0 ≤ x ∧ x < n) → ns.length ≤ n ∧ (ns.length = n → ns.Perm ((List.range n).map fun i : Nat => (i : Int)))
  | 0, ns, _, h => by
    cases ns with
    | nil => simp
    | cons x ns =>
      have := h x (by simp)
      omega
  | n + 1, ns, nd, h => by
    by_cases hn : (n : Int) ∈ ns
    · have h2 := pigeon n (ns.erase n) (nd.erase _) (fun x hx => by
        have h1 := h x (List.mem_of_mem_erase hx)
        have : x ≠ n := fun z => by
          subst z
          exact (List.Nodup.not_mem_erase nd) hx
        omega)
      have hl := List.length_erase_of_mem hn
      have hpos : 0 < ns.length := List.length_pos_of_mem hn
      refine ⟨by omega, fun e => ?_⟩
      have hp := h2.2 (by omega)
      rw [List.range_succ, List.map_append]
      have := List.perm_cons_erase hn
      refine this.trans ((hp.cons _).trans ?_)
      exact (List.perm_append_comm (l₁ := [(n : Int)])).trans (List.Perm.refl _)
    · have h2 := pigeon n ns nd (fun x hx => by
        have h1 := h x hx
        have : x ≠ n := fun z => hn (z ▸ hx)
        omega)
      exact ⟨by omega, fun e => by omega⟩
theorem rng_perm_sorted (n : Nat) : (rngD 0 n).Pairwise fun a b => leS a b = true := by
  unfold rngD
  rw [List.pairwise_map]
  refine List.Pairwise.imp (fun {a b} (h : a < b) => ?_) List.pairwise_lt_range
  rw [leS_int]
  exact decide_eq_true (by omega)
theorem beqs_ints : ∀ {A B : List D}, (∀ d ∈ A, ∃ i, d = D.int i) → (∀ d ∈ B, ∃ i, d = D.int i) → (beqs A B = true ↔ A = B)
  | [], [], _, _ => by simp [beqs]
  | [], _ :: _, _, _ => by simp [beqs]
  | _ :: _, [], _, _ => by simp [beqs]
  | d :: A, e :: B, h, h' => by
    obtain ⟨i, rfl⟩ := h d (by simp)
    obtain ⟨j, rfl⟩ := h' e (by simp)
    have ih := beqs_ints (A := A) (B := B) (fun d hd => h d (by simp [hd])) (fun d hd => h' d (by simp [hd]))
    unfold beqs
    rw [Bool.and_eq_true, ih]
    unfold D.beq
    simp
theorem rng_ints (n : Nat) : ∀ d ∈ rngD 0 n, ∃ i, d = D.int i := fun d hd => by
  unfold rngD at hd
  obtain ⟨i, _, rfl⟩ := List.mem_map.mp hd
  exact ⟨_, rfl⟩
theorem map_ints (ns : List Int) : ∀ d ∈ ns.map D.int, ∃ i, d = D.int i := fun d hd => by
  obtain ⟨i, _, rfl⟩ := List.mem_map.mp hd
  exact ⟨_, rfl⟩
theorem nodup_map (ns : List Int) : (ns.map D.int).Nodup ↔ ns.Nodup := by
  unfold List.Nodup
  rw [List.pairwise_map]
  exact ⟨fun h => h.imp fun z e => z (by rw [e]), fun h => h.imp fun z e => z (by cases e; rfl)⟩
theorem rng_map (n : Nat) : rngD 0 n = ((List.range n).map fun i : Nat => (i : Int)).map D.int := by
  unfold rngD
  rw [List.map_map]
  refine List.map_congr_left fun i _ => ?_
  show D.int (0 + (i : Int)) = D.int i
  rw [Int.zero_add]
theorem rng_nodup (n : Nat) : ((List.range n).map fun i : Nat => (i : Int)).Nodup := by
  unfold List.Nodup
  rw [List.pairwise_map]
  have h : (List.range n).Pairwise (· ≠ ·) := List.nodup_range
  exact h.imp fun {a b} hab e => hab (Int.ofNat.inj e)
theorem sort_iff (ns : List Int) : beqs ((ns.map D.int).mergeSort leS) (rngD 0 ns.length) = ((ns.all fun x => decide (0 ≤ x) && decide (x < ns.length)) && decide ns.Nodup) := by
  have hp := List.mergeSort_perm (ns.map D.int) leS
  have hi : ∀ d ∈ (ns.map D.int).mergeSort leS, ∃ i, d = D.int i := fun d hd => map_ints ns d (hp.mem_iff.mp hd)
  have hT : PySem.W.TotalLe leS := by unfold leS PySem.W.dataLe; exact PySem.W.sortLe_total _ _ _
  rw [Bool.eq_iff_iff, beqs_ints hi (rng_ints _), Bool.and_eq_true, List.all_eq_true, decide_eq_true_eq]
  constructor
  · intro e
    rw [e] at hp
    rw [rng_map] at hp
    refine ⟨fun x hx => ?_, ?_⟩
    · have h1 : D.int x ∈ ns.map D.int := List.mem_map.mpr ⟨x, hx, rfl⟩
      have h2 := hp.mem_iff.mpr h1
      obtain ⟨y, h3, h4⟩ := List.mem_map.mp h2
      cases h4
      obtain ⟨i, h5, rfl⟩ := List.mem_map.mp h3
      have := List.mem_range.mp h5
      simp
      omega
    · have := hp.nodup_iff.mp ((nodup_map _).mpr (rng_nodup ns.length))
      exact (nodup_map _).mp this
  · rintro ⟨h1, h2⟩
    have hb := (pigeon ns.length ns h2 (fun x hx => by
      have := h1 x hx
      simp at this
      omega)).2 rfl
    have hq : ((ns.map D.int).mergeSort leS).Perm (rngD 0 ns.length) := hp.trans (by rw [rng_map]; exact hb.map _)
    refine hq.eq_of_pairwise (le := fun a b => leS a b = true) (fun a b ha hb' h3 h4 => ?_) (List.pairwise_mergeSort hT.trans (fun a b => by rw [Bool.or_eq_true]; exact hT.total a b) _) (rng_perm_sorted _)
    obtain ⟨i, rfl⟩ := hi a ha
    obtain ⟨j, rfl⟩ := rng_ints _ b hb'
    rw [leS_int, decide_eq_true_eq] at h3 h4
    have : i = j := by omega
    rw [this]
/-! ### rows -/
theorem m10_row {row : List D} {n : Int} (hp : ∀ v ∈ row, v.plain = true) (hl : row.length ≤ 1000) : m10 [.val (.tup row), .val (.int n)] = .ok (.bl (row.all (belB n))) [.no, .no] := by
  have e : Ok (m10 [.val (.tup row), .val (.int n)]) fun r ss => r = .bl (row.all (belB n)) ∧ ss = [.no, .no] := by
    refine ok_def rfl ?_
    show OkS (mRet _ [.val (.tup row), .val (.int n), .no]) _ _
    rw [w_mRet, w_mAndV, w_mUn, w_mVar (d := .tup row) (hi := rfl)]
    refine ⟨_, rfl, _, rfl, ?_⟩
    rw [if_pos rfl, w_mCB, w_mCons, w_mLv, w_mComp, w_mItems, w_mVar (d := .tup row) (hi := rfl)]
    refine ⟨_, rfl, ?_⟩
    refine ok_compP (fun _ => true) (fun d => .bl (belB n d)) hl (fun d hd => ?_) ?_
    · refine ⟨[.val (.tup row), .val (.int n), .val d], rfl, rfl, rfl, fun _ => ?_⟩
      rw [w_call2, w_mVar (d := d) (hi := rfl), w_mVar (d := .int n) (hi := rfl), m7_v (hp d hd)]
      exact ⟨rfl, rfl⟩
    · rw [List.filter_eq_self.mpr (fun _ _ => rfl), w_mNil]
      have e2 : row.map (fun d => D.bl (belB n d)) = (row.map (belB n)).map D.bl := by rw [List.map_map]; rfl
      rw [e2]
      refine ⟨_, allD_bls _, ?_, rfl⟩
      rw [List.all_map]
      rfl
  obtain ⟨a, st, e1, rfl, rfl⟩ := e.ex
  exact e1
def risB (ns : List Int) : Bool := (List.range (ns.length - 1)).all fun i => decide (ns.getD i 0 < ns.getD (i + 1) 0)
theorem ix_tup {ns : List Int} {k : Int} (h0 : 0 ≤ k) (h1 : k < ns.length) : ixD (.tup (ns.map D.int)) (.int k) = some (.int (ns.getD k.toNat 0)) := by
  unfold ixD
  dsimp only
  rw [atI_get _ h0 (by simpa using h1)]
  congr 1
  rw [List.getElem_map, List.getD_eq_getElem?_getD, List.getElem?_eq_getElem (by omega)]
  rfl
theorem ix_lst {ns : List Int} {k : Int} (h0 : 0 ≤ k) (h1 : k < ns.length) : ixD (.lst (ns.map D.int)) (.int k) = some (.int (ns.getD k.toNat 0)) := ix_tup h0 h1
theorem m11_gen {s : D} {ns : List Int} (hl : ns.length ≤ 1000) (h1 : lenD [s] = some (.int ns.length)) (h2 : ∀ k : Int, 0 ≤ k → k < ns.length → ixD s (.int k) = some (.int (ns.getD k.toNat 0))) : m11 [.val s] = .ok (.bl (risB ns)) [.no] := by
  have e : Ok (m11 [.val s]) fun r ss => r = .bl (risB ns) ∧ ss = [.no] := by
    refine ok_def rfl ?_
    show OkS (mRet _ [.val s, .no]) _ _
    rw [w_mRet, w_mCB, w_mCons, w_mLv, w_mComp, w_mRng2, w_mCons, w_mC, w_mCons, w_mCB, w_mCons, w_mVar (d := s) (hi := rfl), w_mNil]
    refine ⟨_, h1, ?_⟩
    rw [w_mNil]
    refine ⟨1, ns.length, rfl, by unfold rngOk; simp; omega, ?_⟩
    have eM : ((ns.length : Int) - 1).toNat = ns.length - 1 := by omega
    rw [eM]
    refine ok_compP (fun _ => true) (fun d => match d with | .int k => .bl (decide (ns.getD (k - 1).toNat 0 < ns.getD k.toNat 0)) | _ => .non) (by rw [rngD_len]; omega) (fun d hd => ?_) ?_
    · unfold rngD at hd
      obtain ⟨i, hi, rfl⟩ := List.mem_map.mp hd
      have hi := List.mem_range.mp hi
      refine ⟨[.val s, .val (.int (1 + i))], rfl, rfl, rfl, fun _ => ?_⟩
      rw [w_mBin, w_mBin, w_mVar (d := s) (hi := rfl), w_mBin, w_mVar (d := .int (1 + i)) (hi := rfl), w_mC]
      refine ⟨_, subD_int _ _, _, h2 _ (by omega) (by omega), ?_⟩
      rw [w_mBin, w_mVar (d := s) (hi := rfl), w_mVar (d := .int (1 + i)) (hi := rfl)]
      exact ⟨_, h2 _ (by omega) (by omega), _, ltD_int _ _, rfl, rfl⟩
    · rw [List.filter_eq_self.mpr (fun _ _ => rfl), w_mNil]
      have e2 : (rngD 1 (ns.length - 1)).map (fun d => match d with | .int k => D.bl (decide (ns.getD (k - 1).toNat 0 < ns.getD k.toNat 0)) | _ => .non) = ((List.range (ns.length - 1)).map fun i => decide (ns.getD i 0 < ns.getD (i + 1) 0)).map D.bl := by
        unfold rngD
        rw [List.map_map, List.map_map]
        refine List.map_congr_left fun i _ => ?_
        show D.bl (decide (ns.getD (((1 : Int) + (i : Int)) - 1).toNat 0 < ns.getD ((1 : Int) + (i : Int)).toNat 0)) = D.bl (decide (ns.getD i 0 < ns.getD (i + 1) 0))
        have h3 : (((1 : Int) + (i : Int)) - 1).toNat = i := by omega
        have h4 : ((1 : Int) + (i : Int)).toNat = i + 1 := by omega
        rw [h3, h4]
      rw [e2]
      refine ⟨_, allD_bls _, ?_, rfl⟩
      rw [List.all_map]
      rfl
  obtain ⟨a, st, e1, rfl, rfl⟩ := e.ex
  exact e1
theorem m11_tup {ns : List Int} (hl : ns.length ≤ 1000) : m11 [.val (.tup (ns.map D.int))] = .ok (.bl (risB ns)) [.no] := m11_gen hl (by rw [lenD_tup, List.length_map]) fun k h0 h1 => ix_tup h0 h1
theorem m11_lst {ns : List Int} (hl : ns.length ≤ 1000) : m11 [.val (.lst (ns.map D.int))] = .ok (.bl (risB ns)) [.no] := m11_gen hl (by rw [lenD_lst, List.length_map]) fun k h0 h1 => ix_lst h0 h1
/-- a row all whole is a row of numbers -/
theorem whole_ints : ∀ {row : List D}, row.all wholeB = true → ∃ ns : List Int, row = ns.map D.int
  | [], _ => ⟨[], rfl⟩
  | d :: row, h => by
    rw [List.all_cons, Bool.and_eq_true] at h
    obtain ⟨ns, rfl⟩ := whole_ints h.2
    cases d with
    | int i => exact ⟨i :: ns, rfl⟩
    | _ => cases h.1
theorem bel_whole {n : Int} {d : D} (h : belB n d = true) : wholeB d = true := by
  cases d with
  | int i => rfl
  | _ => cases h
theorem all_bel_whole {n : Int} {row : List D} (h : row.all (belB n) = true) : row.all wholeB = true := by
  rw [List.all_eq_true] at h ⊢
  exact fun d hd => bel_whole (h d hd)
theorem m12_row {row : List D} {n : Int} (hp : ∀ v ∈ row, v.plain = true) (hl : row.length ≤ 1000) : ∃ b, m12 [.val (.tup row), .val (.int n)] = .ok (.bl b) [.no, .no] ∧ (row.all (belB n) = false → b = false) ∧ ∀ ns : List Int, row = ns.map D.int → row.all (belB n) = true → b = risB ns := by
  have key : ∀ {b : Bool}, (row.all (belB n) = true → m11 [.val (.tup row)] = .ok (.bl b) [.no]) → (row.all (belB n) = false → b = false) → m12 [.val (.tup row), .val (.int n)] = .ok (.bl b) [.no, .no] := by
    intro b h1 h2
    have e : Ok (m12 [.val (.tup row), .val (.int n)]) fun r ss => r = .bl b ∧ ss = [.no, .no] := by
      refine ok_def rfl ?_
      show OkS (mRet _ [.val (.tup row), .val (.int n)]) _ _
      rw [w_mRet, w_mAndV, w_call2, w_mVar (d := .tup row) (hi := rfl), w_mVar (d := .int n) (hi := rfl), m10_row hp hl]
      refine ⟨row.all (belB n), rfl, ?_⟩
      by_cases hb : row.all (belB n) = true
      · rw [if_pos hb, w_call1, w_mVar (d := .tup row) (hi := rfl), h1 hb]
        exact ⟨rfl, rfl⟩
      · refine Eq.mpr (if_neg hb) ?_
        rw [Bool.not_eq_true] at hb
        exact ⟨congrArg D.bl (hb.trans (h2 hb).symm), rfl⟩
    obtain ⟨a, st, e1, rfl, rfl⟩ := e.ex
    exact e1
  cases hb : row.all (belB n) with
  | false => exact ⟨false, key (fun z => by rw [hb] at z; cases z) (fun _ => rfl), fun _ => rfl, fun _ _ z => (by cases z)⟩
  | true =>
    have hw := whole_ints (all_bel_whole hb)
    obtain ⟨ns, he⟩ := hw
    refine ⟨risB ns, key (fun _ => ?_) (fun z => by rw [hb] at z; cases z), fun z => (by cases z), fun ms hm _ => ?_⟩
    · subst he
      exact m11_tup (by simpa using hl)
    · have : ns = ms := List.map_inj_right (fun _ _ z => by cases z; rfl) |>.mp (he.symm.trans hm)
      rw [this]
theorem m13_row {row : List D} (hp : ∀ v ∈ row, v.plain = true) (hl : row.length ≤ 1000) : ∃ b, m13 [.val (.tup row), .val (.int row.length)] = .ok (.bl b) [.no, .no] ∧ (row.all (belB row.length) = false → b = false) ∧ ∀ ns : List Int, row = ns.map D.int → row.all (belB row.length) = true → b = decide ns.Nodup := by
  have e : Ok (m13 [.val (.tup row), .val (.int row.length)]) fun r ss => ∃ b, r = .bl b ∧ ss = [.no, .no] ∧ (row.all (belB row.length) = false → b = false) ∧ ∀ ns : List Int, row = ns.map D.int → row.all (belB row.length) = true → b = decide ns.Nodup := by
    refine ok_def rfl ?_
    show OkS (mRet _ [.val (.tup row), .val (.int row.length)]) _ _
    rw [w_mRet, w_mAndV, w_call2, w_mVar (d := .tup row) (hi := rfl), w_mVar (d := .int row.length) (hi := rfl), m10_row hp hl]
    refine ⟨row.all (belB row.length), rfl, ?_⟩
    cases hb : row.all (belB row.length) with
    | false =>
      rw [if_neg (by decide)]
      exact ⟨_, rfl, rfl, fun _ => rfl, fun _ _ z => by cases z⟩
    | true =>
      obtain ⟨ns, he⟩ := whole_ints (all_bel_whole hb)
      subst he
      rw [if_pos rfl, w_mAndV, w_mBin, w_mCB, w_mCons, w_mVar (d := .tup (ns.map D.int)) (hi := rfl), w_mNil]
      refine ⟨_, lenD_tup _, ?_⟩
      rw [w_mVar (d := .int ((ns.map D.int).length : Nat)) (hi := rfl)]
      refine ⟨_, eqD_int _ _, _, rfl, ?_⟩
      rw [if_pos (by simp), w_mBin, w_mLenSet, w_mVar (d := .tup (ns.map D.int)) (hi := rfl)]
      refine ⟨_, _, rfl, by omega, keysOf_ints ns, ?_⟩
      rw [w_mVar (d := .int ((ns.map D.int).length : Nat)) (hi := rfl)]
      refine ⟨_, eqD_int _ _, _, rfl, rfl, fun z => (by cases z), fun ms hm _ => ?_⟩
      have : ns = ms := List.map_inj_right (fun _ _ z => by cases z; rfl) |>.mp hm
      subst this
      have h1 := dcnt_nodup (ns.map (Sum.inl : Int → Int ⊕ Str))
      have h2 : (ns.map (Sum.inl : Int → Int ⊕ Str)).Nodup ↔ ns.Nodup := by
        unfold List.Nodup
        rw [List.pairwise_map]
        exact ⟨fun h => h.imp fun z e => z (by rw [e]), fun h => h.imp fun z e => z (by cases e; rfl)⟩
      rw [h2] at h1
      rw [Bool.eq_iff_iff, beq_iff_eq, decide_eq_true_eq, ← h1]
      simp only [List.length_map]
      omega
  obtain ⟨a, st, e1, b, rfl, rfl, h1, h2⟩ := e.ex
  exact ⟨b, e1, h1, h2⟩
end K00

namespace K00
open PySem PySem.Spec L2 MX
open PyProof.Rows hiding St
theorem plain_txt {l : List Nat} (h : ∀ c ∈ l, c ∈ signs) : (tx l).plain = true := by
  have h1 : ∀ c ∈ signs, decide (c < 0x110000) = true := by decide +kernel
  show (l.toArray.all fun c => decide (c < 0x110000)) = true
  rw [List.all_toArray, List.all_eq_true]
  exact fun c hc => h1 c (h c hc)
/-! ### names -/
theorem tx_beq (l m : List Nat) : (tx l).beq (tx m) = decide (l = m) := by
  unfold tx D.beq
  rw [Bool.eq_iff_iff, beq_iff_eq, decide_eq_true_eq]
  constructor
  · intro h
    have := congrArg (fun s : Str => s.cps.toList) h
    simpa using this
  · intro h
    rw [h]
theorem anyEq_tx (l : List Nat) : ∀ ms : List (List Nat), anyEq (tx l) (ms.map tx) = decide (l ∈ ms)
  | [] => rfl
  | m :: ms => by
    rw [List.map_cons]
    unfold anyEq
    rw [tx_beq, anyEq_tx l ms, Bool.eq_iff_iff]
    simp only [List.mem_cons, Bool.or_eq_true, decide_eq_true_eq]
    exact ⟨fun z => z.imp Eq.symm id, fun z => z.imp Eq.symm id⟩
theorem keys_tx : ∀ ls : List (List Nat), keysOf (ls.map tx) = some (ls.map fun l => Sum.inr (⟨l.toArray⟩ : Str))
  | [] => rfl
  | l :: ls => by
    rw [List.map_cons, tx, keysOf, keys_tx ls]
    rfl
theorem nodup_take {α : Type} [DecidableEq α] (xs : List α) : xs.Nodup ↔ ∀ (k : Nat) (h : k < xs.length), xs[k] ∉ xs.take k := by
  unfold List.Nodup
  rw [List.pairwise_iff_getElem]
  constructor
  · intro h k hk hm
    obtain ⟨i, hi, e⟩ := List.mem_take_iff_getElem.mp hm
    exact h i k (by omega) hk (by omega) e
  · intro h i j hi hj hij e
    refine h j hj ?_
    rw [List.mem_take_iff_getElem]
    exact ⟨i, by omega, e⟩
theorem m9_names {ls : List (List Nat)} (h : ∀ l ∈ ls, Txt l) (hl : ls.length ≤ 100) : m9 [.val (.tup (ls.map tx))] = .ok (.bl (ls.all nameB && decide ls.Nodup)) [.no] := by
  have e : Ok (m9 [.val (.tup (ls.map tx))]) fun r ss => r = .bl (ls.all nameB && decide ls.Nodup) ∧ ss = [.no] := by
    refine ok_def rfl ?_
    show OkS (mRet _ [.val (.tup (ls.map tx)), .no]) _ _
    rw [w_mRet, w_mAndV, w_mUn, w_mVar (d := .tup (ls.map tx)) (hi := rfl)]
    refine ⟨_, rfl, _, rfl, ?_⟩
    rw [if_pos rfl, w_mAndV, w_mCB, w_mCons, w_mLv, w_mComp, w_mItems, w_mVar (d := .tup (ls.map tx)) (hi := rfl)]
    refine ⟨_, rfl, ?_⟩
    refine ok_compP (fun _ => true) (fun d => match d with | .str s => .bl (nameB s.cps.toList) | _ => .non) (by simp only [List.length_map]; omega) (fun d hd => ?_) ?_
    · obtain ⟨l, hl', rfl⟩ := List.mem_map.mp hd
      refine ⟨[.val (.tup (ls.map tx)), .val (tx l)], rfl, rfl, rfl, fun _ => ?_⟩
      rw [w_call1, w_mVar (d := tx l) (hi := rfl), m8_text (h l hl')]
      exact ⟨by show _ = D.bl (nameB l.toArray.toList); rfl, rfl⟩
    · rw [List.filter_eq_self.mpr (fun _ _ => rfl), w_mNil]
      have e2 : (ls.map tx).map (fun d => match d with | .str s => D.bl (nameB s.cps.toList) | _ => .non) = (ls.map nameB).map D.bl := by
        rw [List.map_map, List.map_map]
        rfl
      rw [e2]
      have ha : (ls.map nameB).all id = ls.all nameB := by rw [List.all_map]; rfl
      refine ⟨_, allD_bls _, ls.all nameB, by rw [ha]; rfl, ?_⟩
      by_cases hb : ls.all nameB = true
      · rw [if_pos hb, w_mBin, w_mLenSet, w_mVar (d := .tup (ls.map tx)) (hi := rfl)]
        refine ⟨_, _, rfl, by simp only [List.length_map]; omega, keys_tx ls, ?_⟩
        rw [w_mCB, w_mCons, w_mVar (d := .tup (ls.map tx)) (hi := rfl), w_mNil]
        refine ⟨_, lenD_tup _, _, eqD_int _ _, ?_, rfl⟩
        rw [hb, Bool.true_and]
        have h1 := dcnt_nodup (ls.map fun l => (Sum.inr (⟨l.toArray⟩ : Str) : Int ⊕ Str))
        have h2 : (ls.map fun l => (Sum.inr (⟨l.toArray⟩ : Str) : Int ⊕ Str)).Nodup ↔ ls.Nodup := by
          unfold List.Nodup
          rw [List.pairwise_map]
          refine ⟨fun h => h.imp fun z e => z (by rw [e]), fun h => h.imp fun {a b} z e => z ?_⟩
          have := congrArg (fun s : Int ⊕ Str => match s with | .inr s => s.cps.toList | .inl _ => []) e
          simpa using this
        rw [h2] at h1
        congr 1
        rw [Bool.eq_iff_iff, beq_iff_eq, decide_eq_true_eq, ← h1]
        simp only [List.length_map]
        omega
      · refine Eq.mpr (if_neg hb) ?_
        rw [Bool.not_eq_true] at hb
        rw [ha, hb]
        exact ⟨rfl, rfl⟩
  obtain ⟨a, st, e1, rfl, rfl⟩ := e.ex
  exact e1
/-! ### the parts of the law -/
theorem and_ge {i j : Nat} {v : D} {st : MS} {P : D → MS → Prop} (h1 : st[i]? = some (.val (.bl (wholeB v)))) (h2 : st[j]? = some (.val v)) (h : P (.bl (cntB v)) st) : Ok (mAndV (mVar i) (mBin geD (mVar j) (mC (.int 0))) st) P := by
  rw [w_mAndV, w_mVar (hi := h1)]
  refine ⟨_, rfl, ?_⟩
  cases v with
  | int k =>
    rw [if_pos (show wholeB (.int k) = true from rfl), w_mBin, w_mVar (hi := h2), w_mC]
    exact ⟨_, geD_int _ _, h⟩
  | _ => exact h
theorem and_bel {i j l : Nat} {v : D} {n : Int} {st : MS} {P : D → MS → Prop} (h1 : st[i]? = some (.val (.bl (wholeB v)))) (h2 : st[j]? = some (.val v)) (h3 : st[l]? = some (.val (.int n))) (h : P (.bl (belB n v)) st) :
    Ok (mAndV (mVar i) (mChain leD ltD (mC (.int 0)) (mVar j) (mVar l)) st) P := by
  rw [w_mAndV, w_mVar (hi := h1)]
  refine ⟨_, rfl, ?_⟩
  cases v with
  | int k =>
    rw [if_pos (show wholeB (.int k) = true from rfl), w_mChain, w_mC, w_mVar (hi := h2)]
    refine ⟨_, leD_int _ _, ?_⟩
    have h : P (.bl (decide (0 ≤ k) && decide (k < n))) st := h
    by_cases hk : 0 ≤ k
    · rw [decide_eq_true hk, Bool.true_and] at h
      rw [if_pos (decide_eq_true hk), w_mVar (hi := h3)]
      exact ⟨_, ltD_int _ _, h⟩
    · rw [decide_eq_false hk, Bool.false_and] at h
      rw [if_neg (by rw [decide_eq_true_eq]; exact hk)]
      exact h
  | _ => exact h

/-- the tuple of texts -/
abbrev st18 (scr : D) (ds : List D) (x2 x3 x4 x5 x6 x7 x8 x9 x10 x11 x12 x13 x14 x15 : Slot) : MS := [.val scr, .own false (.lst ds), x2, x3, x4, x5, x6, x7, x8, x9, x10, x11, x12, x13, x14, x15, .no, .no]
theorem turn_ok {scr : D} {ds : List D} {x2 x3 x4 x5 x6 : Slot} (ht : Tp ds) {R : D → MS → Prop} : OkS ((mSeq (mPar 3 4 (mCons (mCall m30 (gOwn 1 gNilM)) (mCons (mCall m29 (gOwn 1 (gVal (mC (.int 7)) gNilM))) mNil))) (mSeq (mAsg (mCall m31 (gVal (mVar 3) gNilM)) (tgName 5)) (mSeq (mIfS (mOrT (mTst (mBin neD (mCall m5 (gVal (mVar 3) gNilM)) (mVar 5))) (mOrT (mTst (mBin neD (mCall m6 (gVal (mVar 3) gNilM)) (mAndV (mVar 5) (mBin geD (mVar 3) (mC (.int 0)))))) (mTst (mBin neD (mCall m7 (gVal (mVar 3) (gVal (mVar 4) gNilM))) (mAndV (mVar 5) (mChain leD ltD (mC (.int 0)) (mVar 3) (mVar 4))))))) (mRet (mC (.bl false))) .nx) (mSeq (mAsg (mCall m32 (gOwn 1 gNilM)) (tgName 6)) (mIfS (mOrT (mTst (mBin neD (mCall m8 (gVal (mVar 6) gNilM)) (mCall m33 (gVal (mVar 6) gNilM)))) (mTst (mBin neD (mCall m8 (gVal (mVar 3) gNilM)) (mBin eqD (mVar 3) (mC (.str (Str.ofString "a"))))))) (mRet (mC (.bl false))) .nx)))))
      (st18 scr ds x2 x3 x4 x5 x6 .no .no .no .no .no .no .no .no .no)) (fun st => ∃ ds y3 y4 y5 y6, Tp ds ∧ st = st18 scr ds x2 (.val y3) (.val y4) (.val y5) (.val y6) .no .no .no .no .no .no .no .no .no) R := by
  rw [w_mSeq, w_mPar, w_mCons]
  refine own_call (mf := m30) (i := 1) (b := false) (ds := ds) (A := fun v => v ∈ vals) rfl ((m30_ok ht).mono fun r ss ⟨ds', h1, h2, h3⟩ => ⟨ds', h1, h2, h3⟩) fun v ds1 hv ht1 => ?_
  rw [w_mCons]
  refine draw_call (m := 7) (b := false) (ds := ds1) rfl ht1 (by decide) (by decide) rfl fun n ds2 h0 h1 ht2 => ?_
  rw [w_mNil]
  refine ⟨v, .int n, rfl, ?_⟩
  have pv := vals_plain v hv
  show OkS (mSeq _ _ (st18 scr ds2 x2 (.val v) (.val (.int n)) x5 x6 .no .no .no .no .no .no .no .no .no)) _ _
  rw [w_mSeq, w_mAsg, w_call1, w_mVar (d := v) (hi := rfl), m31_v pv]
  refine ⟨_, rfl, ?_⟩
  show OkS (mSeq _ _ (st18 scr ds2 x2 (.val v) (.val (.int n)) (.val (.bl (wholeB v))) x6 .no .no .no .no .no .no .no .no .no)) _ _
  rw [w_mSeq, w_mIfS, w_mOrT, w_mTst, w_mBin, w_call1, w_mVar (d := v) (hi := rfl), m5_v pv, w_ok, w_mVar (d := .bl (wholeB v)) (hi := rfl)]
  refine ⟨_, neD_bl _ _, _, rfl, ?_⟩
  rw [if_neg (by simp), w_mOrT, w_mTst, w_mBin, w_call1, w_mVar (d := v) (hi := rfl), m6_v pv]
  refine and_ge (v := v) rfl rfl ⟨_, neD_bl _ _, _, rfl, ?_⟩
  rw [if_neg (by simp), w_mTst, w_mBin, w_call2, w_mVar (d := v) (hi := rfl), w_mVar (d := .int n) (hi := rfl), m7_v pv]
  refine and_bel (v := v) (n := n) rfl rfl rfl ⟨_, neD_bl _ _, _, rfl, ?_⟩
  rw [if_neg (by simp), w_nx, w_mSeq, w_mAsg]
  refine own_call (mf := m32) (i := 1) (b := false) (ds := ds2) (A := fun r => ∃ l, r = tx l ∧ Txt l) rfl ((text_ok ht2).mono fun r ss ⟨ds', h1, h2, h3⟩ => ⟨ds', h1, h2, h3⟩) fun t ds3 hA ht3 => ?_
  obtain ⟨l, rfl, hl⟩ := hA
  refine ⟨_, rfl, ?_⟩
  show OkS (mIfS _ _ _ (st18 scr ds3 x2 (.val v) (.val (.int n)) (.val (.bl (wholeB v))) (.val (tx l)) .no .no .no .no .no .no .no .no .no)) _ _
  rw [w_mIfS, w_mOrT, w_mTst, w_mBin, w_call1, w_mVar (d := tx l) (hi := rfl), m8_text hl, w_ok, w_call1, w_mVar (d := tx l) (hi := rfl), m33_text hl]
  refine ⟨_, neD_bl _ _, _, rfl, ?_⟩
  rw [if_neg (by simp), w_mTst, w_mBin, w_call1, w_mVar (d := v) (hi := rfl), m8_vals v hv, w_ok, w_mBin, w_mVar (d := v) (hi := rfl), w_mC]
  refine ⟨_, eqA_vals v hv, _, neD_bl _ _, _, rfl, ?_⟩
  rw [if_neg (by simp), w_nx]
  exact ⟨ds3, _, _, _, _, ht3, rfl⟩

section
variable {scr : D} {ds : List D} {a2 a3 a4 a5 a6 : D} {N : MS → Prop} {R : D → MS → Prop}
def dupB (ls : List (List Nat)) (i : Nat) : Bool := decide (ls.getD i [] ∈ ls.take i)
theorem names_ok (ht : Tp ds) (h : ∀ (ds' : List D) (ls : List (List Nat)), Tp ds' → (∀ l ∈ ls, Txt l) → ls.length ≤ 3 → N (st18 scr ds' (.val a2) (.val a3) (.val a4) (.val a5) (.val a6) (.val (.tup (ls.map tx))) .no .no .no .no .no .no .no .no)) :
    OkS (mAsg (mCB tupleD (mCons (mLv (mComp (([("k", 16)] : List (Str × Nat)).map (·.2)) (mRng1 (mCons (mCall m29 (gOwn 1 (gVal (mC (.int 4)) gNilM))) mNil)) (tgName 16) (fun st => .ok true st) (mCall m32 (gOwn 1 gNilM)))) mNil)) (tgName 7) (st18 scr ds (.val a2) (.val a3) (.val a4) (.val a5) (.val a6) .no .no .no .no .no .no .no .no .no)) N R := by
  rw [w_mAsg, w_mCB, w_mCons, w_mLv, w_mComp, w_mRng1, w_mCons]
  refine draw_call (m := 4) (b := false) (ds := ds) rfl ht (by decide) (by decide) rfl fun r ds1 h0 h1 ht1 => ?_
  rw [w_mNil]
  refine ⟨r, rfl, by unfold rngOk; simp; omega, ?_⟩
  refine ok_comp (fun rest acc st => ∃ ds ls, st = st18 scr ds (.val a2) (.val a3) (.val a4) (.val a5) (.val a6) .no .no .no .no .no .no .no .no .no ∧ Tp ds ∧ acc = ls.map tx ∧ (∀ l ∈ ls, Txt l) ∧ ls.length + rest.length ≤ 3) (fun acc st hI => ?_) (fun d rest acc st hI => ?_) ⟨ds1, [], rfl, ht1, rfl, by simp, by rw [rngD_len]; simp; omega⟩
  · obtain ⟨ds2, ls, rfl, ht2, rfl, hl, hn⟩ := hI
    rw [w_mNil]
    exact ⟨_, rfl, _, rfl, h ds2 ls ht2 hl (by simpa using hn)⟩
  · obtain ⟨ds2, ls, rfl, ht2, rfl, hl, hn⟩ := hI
    refine ⟨[.val scr, .own true (.lst ds2), .val a2, .val a3, .val a4, .val a5, .val a6, .no, .no, .no, .no, .no, .no, .no, .no, .no, .val d, .no], by rw [enter_eq]; rfl, ?_⟩
    rw [w_ok, if_pos rfl]
    refine own_call (mf := m32) (i := 1) (b := true) (ds := ds2) (A := fun r => ∃ l, r = tx l ∧ Txt l) rfl ((text_ok ht2).mono fun r ss ⟨ds', h1, h2, h3⟩ => ⟨ds', h1, h2, h3⟩) fun t ds3 hA ht3 => ?_
    obtain ⟨l, rfl, hlt⟩ := hA
    simp at hn
    refine ⟨by rw [List.length_map, sizeLine_eq]; omega, ds3, ls ++ [l], by rw [leave_eq]; rfl, ht3, by simp, ?_, by simp; omega⟩
    intro m hm
    rcases List.mem_append.mp hm with z | z
    · exact hl m z
    · simp at z
      subst z
      exact hlt
theorem fine_ok {ls : List (List Nat)} (hl : ∀ l ∈ ls, Txt l) (hn : ls.length ≤ 3) (h : N (st18 scr ds (.val a2) (.val a3) (.val a4) (.val a5) (.val a6) (.val (.tup (ls.map tx))) (.val (.bl (ls.all nameB && decide ls.Nodup))) .no .no .no .no .no .no .no)) :
    OkS (mAsg (mAndV (mBin eqD (mLv (mComp (([("one", 17)] : List (Str × Nat)).map (·.2)) (mItems (mVar 7)) (tgName 17) (mNotT (mTru (mCall m33 (gVal (mVar 17) gNilM)))) (mVar 17))) (mLv (mLst mNil))) (mBin eqD (mLv (mComp (([("k", 16)] : List (Str × Nat)).map (·.2)) (mRng1 (mCons (mCB lenD (mCons (mVar 7) mNil)) mNil)) (tgName 16) (mTst (mBin inD (mBin ixD (mVar 7) (mVar 16)) (mSl (mVar 7) (fun st => .ok none st) (mPart (mVar 16))))) (mVar 16))) (mLv (mLst mNil)))) (tgName 8)
      (st18 scr ds (.val a2) (.val a3) (.val a4) (.val a5) (.val a6) (.val (.tup (ls.map tx))) .no .no .no .no .no .no .no .no)) N R := by
  rw [w_mAsg, w_mAndV, w_mBin, w_mLv, w_mComp, w_mItems, w_mVar (d := .tup (ls.map tx)) (hi := rfl)]
  refine ⟨_, rfl, ?_⟩
  refine ok_compP (fun d => match d with | .str s => !(nameB s.cps.toList) | _ => true) id (by simp only [List.length_map]; omega) (fun d hd => ?_) ?_
  · obtain ⟨l, hl', rfl⟩ := List.mem_map.mp hd
    refine ⟨[.val scr, .own true (.lst ds), .val a2, .val a3, .val a4, .val a5, .val a6, .val (.tup (ls.map tx)), .no, .no, .no, .no, .no, .no, .no, .no, .no, .val (tx l)], by rw [enter_eq]; rfl, ?_⟩
    rw [w_mNotT, w_mTru, w_call1, w_mVar (d := tx l) (hi := rfl), m33_text (hl l hl')]
    refine ⟨_, rfl, rfl, by rw [leave_eq]; rfl, fun _ => ?_⟩
    rw [w_mVar (d := tx l) (hi := rfl)]
    exact ⟨rfl, by rw [leave_eq]; rfl⟩
  · rw [w_mLv, w_mLst, w_mNil]
    have e1 : ((ls.map tx).filter fun d => match d with | .str s => !(nameB s.cps.toList) | _ => true).map id = (ls.filter fun l => !nameB l).map tx := by
      rw [List.map_id, List.filter_map]
      rfl
    rw [e1]
    refine ⟨by decide, .bl (ls.all nameB), ?_, _, rfl, ?_⟩
    · rw [eqD_nil (plains_all fun d hd => ?_)]
      · congr 2
        rw [List.isEmpty_map, filter_not_isEmpty]
      · obtain ⟨l, hl', rfl⟩ := List.mem_map.mp hd
        exact plain_txt (hl l (List.mem_filter.mp hl').1).2
    by_cases hb : ls.all nameB = true
    · rw [if_pos hb, w_mBin, w_mLv, w_mComp, w_mRng1, w_mCons, w_mCB, w_mCons, w_mVar (d := .tup (ls.map tx)) (hi := rfl), w_mNil]
      refine ⟨_, lenD_tup _, ?_⟩
      rw [w_mNil]
      refine ⟨((ls.map tx).length : Nat), rfl, by rw [List.length_map]; unfold rngOk; simp; omega, ?_⟩
      have eN : (((ls.map tx).length : Nat) : Int).toNat = ls.length := by simp
      rw [eN]
      refine ok_compP (fun d => match d with | .int k => dupB ls k.toNat | _ => true) id (by rw [rngD_len]; omega) (fun d hd => ?_) ?_
      · unfold rngD at hd
        obtain ⟨i, hi, rfl⟩ := List.mem_map.mp hd
        have hi := List.mem_range.mp hi
        have ei : ((0 : Int) + (i : Int)) = (i : Int) := by omega
        rw [ei]
        refine ⟨[.val scr, .own true (.lst ds), .val a2, .val a3, .val a4, .val a5, .val a6, .val (.tup (ls.map tx)), .no, .no, .no, .no, .no, .no, .no, .no, .val (.int i), .no], by rw [enter_eq]; rfl, ?_⟩
        rw [w_mTst, w_mBin, w_mBin, w_mVar (d := .tup (ls.map tx)) (hi := rfl), w_mVar (d := .int i) (hi := rfl)]
        have hx : ixD (.tup (ls.map tx)) (.int i) = some (tx (ls.getD i [])) := by
          unfold ixD
          dsimp only
          rw [atI_get _ (by omega) (by rw [List.length_map]; omega)]
          congr 1
          rw [List.getElem_map, List.getD_eq_getElem?_getD, List.getElem?_eq_getElem hi]
          rfl
        refine ⟨_, hx, ?_⟩
        rw [w_mSl, w_mVar (d := .tup (ls.map tx)) (hi := rfl), w_ok, w_mPart, w_mVar (d := .int i) (hi := rfl)]
        have hs : slD (.tup (ls.map tx)) none (some (i : Int)) = some (.tup ((ls.take i).map tx)) := by
          unfold slD
          dsimp only
          unfold MX.cutD
          rw [HT.sIx_nat]
          show some (D.tup (((ls.map tx).drop 0).take (min i (ls.map tx).length - 0))) = _
          rw [List.drop_zero, Nat.sub_zero, List.length_map, Nat.min_eq_left (by omega), List.map_take]
        refine ⟨i, rfl, _, hs, ?_⟩
        have hmem : ls.getD i [] ∈ ls := by
          rw [List.getD_eq_getElem?_getD, List.getElem?_eq_getElem hi]
          exact List.getElem_mem _
        have hin : inD (tx (ls.getD i [])) (.tup ((ls.take i).map tx)) = some (.bl (dupB ls i)) := by
          unfold inD
          dsimp only
          rw [plain_txt (hl _ hmem).2, plains_all (xs := (ls.take i).map tx) (fun d hd => by
            obtain ⟨l, hl', rfl⟩ := List.mem_map.mp hd
            exact plain_txt (hl l (List.mem_of_mem_take hl')).2)]
          have hd0 : (tx (ls.getD i [])).dep = 0 := rfl
          rw [hd0, if_pos (by decide), anyEq_tx]
          rfl
        refine ⟨_, hin, _, rfl, ?_⟩
        have et : ((i : Int)).toNat = i := by omega
        refine ⟨by show dupB ls i = dupB ls ((i : Int)).toNat; rw [et], by rw [leave_eq]; rfl, fun _ => ?_⟩
        rw [w_mVar (d := .int i) (hi := rfl)]
        exact ⟨rfl, by rw [leave_eq]; rfl⟩
      · rw [w_mLv, w_mLst, w_mNil]
        have e2 : ((rngD 0 ls.length).filter fun d => match d with | .int k => dupB ls k.toNat | _ => true).map id = ((List.range ls.length).filter fun i => !!dupB ls i).map fun i : Nat => D.int (0 + (i : Int)) := by
          unfold rngD
          rw [List.map_id, List.filter_map]
          congr 1
          refine List.filter_congr fun i _ => ?_
          have et : ((0 : Int) + (i : Int)).toNat = i := by omega
          show dupB ls ((0 : Int) + (i : Int)).toNat = _
          rw [et, Bool.not_not]
        rw [e2]
        refine ⟨by decide, .bl (decide ls.Nodup), ?_, _, rfl, by rw [hb, Bool.true_and] at h; exact h⟩
        rw [eqD_nil (plains_all fun d hd => ?_)]
        · congr 2
          rw [List.isEmpty_map, filter_not_isEmpty (p := fun i => !dupB ls i), Bool.eq_iff_iff, List.all_eq_true, decide_eq_true_eq, nodup_take]
          constructor
          · intro z k hk hm
            have := z k (List.mem_range.mpr hk)
            unfold dupB at this
            rw [Bool.not_eq_true', decide_eq_false_iff_not, List.getD_eq_getElem?_getD, List.getElem?_eq_getElem hk] at this
            exact this hm
          · intro z k hk
            have hk := List.mem_range.mp hk
            unfold dupB
            rw [Bool.not_eq_true', decide_eq_false_iff_not, List.getD_eq_getElem?_getD, List.getElem?_eq_getElem hk]
            exact z k hk
        · obtain ⟨i, _, rfl⟩ := List.mem_map.mp hd
          rfl
    · refine Eq.mpr (if_neg hb) ?_
      rw [Bool.not_eq_true] at hb
      rw [hb, Bool.false_and] at h
      rw [hb]
      exact ⟨_, rfl, h⟩
end
end K00

namespace K00
open PySem PySem.Spec L2 MX
open PyProof.Rows hiding St
section
variable {scr : D} {ds : List D} {a2 a3 a4 a5 a6 a7 a8 : D} {N : MS → Prop} {R : D → MS → Prop} {row : List D}
theorem row_ok (ht : Tp ds) (h : ∀ (ds' row : List D), Tp ds' → (∀ v ∈ row, v.plain = true) → row.length ≤ 4 → N (st18 scr ds' (.val a2) (.val a3) (.val a4) (.val a5) (.val a6) (.val a7) (.val a8) (.val (.tup row)) .no .no .no .no .no .no)) :
    OkS (mAsg (mCB tupleD (mCons (mLv (mComp (([("k", 16)] : List (Str × Nat)).map (·.2)) (mRng1 (mCons (mCall m29 (gOwn 1 (gVal (mC (.int 5)) gNilM))) mNil)) (tgName 16) (fun st => .ok true st) (mIf (mTst (mBin eqD (mCall m29 (gOwn 1 (gVal (mC (.int 5)) gNilM))) (mC (.int 0)))) (mCall m30 (gOwn 1 gNilM)) (mCall m29 (gOwn 1 (gVal (mC (.int 6)) gNilM)))))) mNil)) (tgName 9)
      (st18 scr ds (.val a2) (.val a3) (.val a4) (.val a5) (.val a6) (.val a7) (.val a8) .no .no .no .no .no .no .no)) N R := by
  rw [w_mAsg, w_mCB, w_mCons, w_mLv, w_mComp, w_mRng1, w_mCons]
  refine draw_call (m := 5) (b := false) (ds := ds) rfl ht (by decide) (by decide) rfl fun r ds1 h0 h1 ht1 => ?_
  rw [w_mNil]
  refine ⟨r, rfl, by unfold rngOk; simp; omega, ?_⟩
  refine ok_comp (fun rest acc st => ∃ ds, st = st18 scr ds (.val a2) (.val a3) (.val a4) (.val a5) (.val a6) (.val a7) (.val a8) .no .no .no .no .no .no .no ∧ Tp ds ∧ (∀ v ∈ acc, v.plain = true) ∧ acc.length + rest.length ≤ 4) (fun acc st hI => ?_) (fun d rest acc st hI => ?_) ⟨ds1, rfl, ht1, by simp, by rw [rngD_len]; simp; omega⟩
  · obtain ⟨ds2, rfl, ht2, hl, hn⟩ := hI
    rw [w_mNil]
    exact ⟨_, rfl, _, rfl, h ds2 acc ht2 hl (by simpa using hn)⟩
  · obtain ⟨ds2, rfl, ht2, hl, hn⟩ := hI
    refine ⟨[.val scr, .own true (.lst ds2), .val a2, .val a3, .val a4, .val a5, .val a6, .val a7, .val a8, .no, .no, .no, .no, .no, .no, .no, .val d, .no], by rw [enter_eq]; rfl, ?_⟩
    rw [w_ok, if_pos rfl, w_mIf, w_mTst, w_mBin]
    simp at hn
    have fin : ∀ (v : D) (ds3 : List D), v.plain = true → Tp ds3 → acc.length < sizeLine ∧ ∃ ds, leave (st18 scr ds2 (.val a2) (.val a3) (.val a4) (.val a5) (.val a6) (.val a7) (.val a8) .no .no .no .no .no .no .no) [.val scr, .own true (.lst ds3), .val a2, .val a3, .val a4, .val a5, .val a6, .val a7, .val a8, .no, .no, .no, .no, .no, .no, .no, .val d, .no] (([("k", 16)] : List (Str × Nat)).map (·.2)) = st18 scr ds (.val a2) (.val a3) (.val a4) (.val a5) (.val a6) (.val a7) (.val a8) .no .no .no .no .no .no .no ∧ Tp ds ∧ (∀ w ∈ acc ++ [v], w.plain = true) ∧ (acc ++ [v]).length + rest.length ≤ 4 := by
      intro v ds3 hv ht3
      refine ⟨by rw [sizeLine_eq]; omega, ds3, by rw [leave_eq]; rfl, ht3, ?_, by simp; omega⟩
      intro m hm
      rcases List.mem_append.mp hm with z | z
      · exact hl m z
      · simp at z
        subst z
        exact hv
    refine draw_call (m := 5) (b := true) (ds := ds2) rfl ht2 (by decide) (by decide) rfl fun r2 ds3 _ _ ht3 => ?_
    rw [w_mC]
    refine ⟨_, eqD_int _ _, _, rfl, ?_⟩
    by_cases hr : r2 = 0
    · subst hr
      rw [if_pos (by decide)]
      refine own_call (mf := m30) (i := 1) (b := true) (ds := ds3) (A := fun v => v ∈ vals) rfl ((m30_ok ht3).mono fun r ss ⟨ds', h1, h2, h3⟩ => ⟨ds', h1, h2, h3⟩) fun v ds4 hv ht4 => ?_
      exact fin v ds4 (vals_plain v hv) ht4
    · rw [if_neg (by simpa using hr)]
      refine draw_call (m := 6) (b := true) (ds := ds3) rfl ht3 (by decide) (by decide) rfl fun k ds4 k0 k1 ht4 => ?_
      exact fin (.int k) ds4 rfl ht4
theorem plain_ok (hp : ∀ v ∈ row, v.plain = true) (hn : row.length ≤ 4) (h : N (st18 scr ds (.val a2) (.val a3) (.val a4) (.val a5) (.val a6) (.val a7) (.val a8) (.val (.tup row)) (.val (.bl (row.all wholeB))) .no .no .no .no .no)) :
    OkS (mAsg (mBin eqD (mLv (mComp (([("one", 17)] : List (Str × Nat)).map (·.2)) (mItems (mVar 9)) (tgName 17) (mNotT (mTru (mCall m31 (gVal (mVar 17) gNilM)))) (mVar 17))) (mLv (mLst mNil))) (tgName 10)
      (st18 scr ds (.val a2) (.val a3) (.val a4) (.val a5) (.val a6) (.val a7) (.val a8) (.val (.tup row)) .no .no .no .no .no .no)) N R := by
  rw [w_mAsg, w_mBin, w_mLv, w_mComp, w_mItems, w_mVar (d := .tup row) (hi := rfl)]
  refine ⟨_, rfl, ?_⟩
  refine ok_compP (fun d => !wholeB d) id (by omega) (fun d hd => ?_) ?_
  · refine ⟨[.val scr, .own true (.lst ds), .val a2, .val a3, .val a4, .val a5, .val a6, .val a7, .val a8, .val (.tup row), .no, .no, .no, .no, .no, .no, .no, .val d], by rw [enter_eq]; rfl, ?_⟩
    rw [w_mNotT, w_mTru, w_call1, w_mVar (d := d) (hi := rfl), m31_v (hp d hd)]
    refine ⟨_, rfl, rfl, by rw [leave_eq]; rfl, fun _ => ?_⟩
    rw [w_mVar (d := d) (hi := rfl)]
    exact ⟨rfl, by rw [leave_eq]; rfl⟩
  · rw [w_mLv, w_mLst, w_mNil, List.map_id]
    refine ⟨by decide, .bl (row.all wholeB), ?_, _, rfl, h⟩
    rw [eqD_nil (plains_all fun d hd => hp d (List.mem_filter.mp hd).1), filter_not_isEmpty]
theorem inside_ok (hp : ∀ v ∈ row, v.plain = true) (hn : row.length ≤ 4) (h : N (st18 scr ds (.val a2) (.val a3) (.val a4) (.val a5) (.val a6) (.val a7) (.val a8) (.val (.tup row)) (.val (.bl (row.all wholeB))) (.val (.bl (row.all (belB 5)))) .no .no .no .no)) :
    OkS (mAsg (mAndV (mVar 10) (mBin eqD (mLv (mComp (([("one", 17)] : List (Str × Nat)).map (·.2)) (mItems (mVar 9)) (tgName 17) (mNotT (mTst (mChain leD ltD (mC (.int 0)) (mVar 17) (mC (.int 5))))) (mVar 17))) (mLv (mLst mNil)))) (tgName 11)
      (st18 scr ds (.val a2) (.val a3) (.val a4) (.val a5) (.val a6) (.val a7) (.val a8) (.val (.tup row)) (.val (.bl (row.all wholeB))) .no .no .no .no .no)) N R := by
  rw [w_mAsg, w_mAndV, w_mVar (d := .bl (row.all wholeB)) (hi := rfl)]
  refine ⟨row.all wholeB, rfl, ?_⟩
  by_cases hb : row.all wholeB = true
  · rw [if_pos hb, w_mBin, w_mLv, w_mComp, w_mItems, w_mVar (d := .tup row) (hi := rfl)]
    refine ⟨_, rfl, ?_⟩
    refine ok_compP (fun d => !belB 5 d) id (by omega) (fun d hd => ?_) ?_
    · have hw := List.all_eq_true.mp hb d hd
      cases d with
      | int k =>
        refine ⟨[.val scr, .own true (.lst ds), .val a2, .val a3, .val a4, .val a5, .val a6, .val a7, .val a8, .val (.tup row), .val (.bl (row.all wholeB)), .no, .no, .no, .no, .no, .no, .val (.int k)], by rw [enter_eq]; rfl, ?_⟩
        have done : ∀ b : Bool, b = belB 5 (.int k) → (!b) = (!belB 5 (.int k)) ∧ leave (st18 scr ds (.val a2) (.val a3) (.val a4) (.val a5) (.val a6) (.val a7) (.val a8) (.val (.tup row)) (.val (.bl (row.all wholeB))) .no .no .no .no .no) [.val scr, .own true (.lst ds), .val a2, .val a3, .val a4, .val a5, .val a6, .val a7, .val a8, .val (.tup row), .val (.bl (row.all wholeB)), .no, .no, .no, .no, .no, .no, .val (.int k)] (([("one", 17)] : List (Str × Nat)).map (·.2)) = st18 scr ds (.val a2) (.val a3) (.val a4) (.val a5) (.val a6) (.val a7) (.val a8) (.val (.tup row)) (.val (.bl (row.all wholeB))) .no .no .no .no .no ∧ ((!belB 5 (.int k)) = true → Ok (mVar 17 [.val scr, .own true (.lst ds), .val a2, .val a3, .val a4, .val a5, .val a6, .val a7, .val a8, .val (.tup row), .val (.bl (row.all wholeB)), .no, .no, .no, .no, .no, .no, .val (.int k)]) fun y s3 => y = id (.int k) ∧ leave (st18 scr ds (.val a2) (.val a3) (.val a4) (.val a5) (.val a6) (.val a7) (.val a8) (.val (.tup row)) (.val (.bl (row.all wholeB))) .no .no .no .no .no) s3 (([("one", 17)] : List (Str × Nat)).map (·.2)) = st18 scr ds (.val a2) (.val a3) (.val a4) (.val a5) (.val a6) (.val a7) (.val a8) (.val (.tup row)) (.val (.bl (row.all wholeB))) .no .no .no .no .no) := by
          intro b hb
          refine ⟨by rw [hb], by rw [leave_eq]; rfl, fun _ => ?_⟩
          rw [w_mVar (d := .int k) (hi := rfl)]
          exact ⟨rfl, by rw [leave_eq]; rfl⟩
        rw [w_mNotT, w_mTst, w_mChain, w_mC, w_mVar (d := .int k) (hi := rfl)]
        refine ⟨_, leD_int _ _, ?_⟩
        by_cases hk : 0 ≤ k
        · rw [if_pos (decide_eq_true hk), w_mC]
          exact ⟨_, ltD_int _ _, _, rfl, done _ (by show _ = (decide (0 ≤ k) && decide (k < 5)); rw [decide_eq_true hk, Bool.true_and])⟩
        · rw [if_neg (by rw [decide_eq_true_eq]; exact hk)]
          exact ⟨_, rfl, done _ (by show _ = (decide (0 ≤ k) && decide (k < 5)); rw [decide_eq_false hk, Bool.false_and])⟩
      | _ => cases hw
    · rw [w_mLv, w_mLst, w_mNil, List.map_id]
      refine ⟨by decide, .bl (row.all (belB 5)), ?_, _, rfl, h⟩
      rw [eqD_nil (plains_all fun d hd => hp d (List.mem_filter.mp hd).1), filter_not_isEmpty]
  · refine Eq.mpr (if_neg hb) ?_
    rw [Bool.not_eq_true] at hb
    have : row.all (belB 5) = false := by
      cases hz : row.all (belB 5) with
      | false => rfl
      | true => rw [all_bel_whole hz] at hb; cases hb
    rw [this] at h
    rw [hb] at h ⊢
    exact ⟨_, rfl, h⟩
def risR (row : List D) (b : Bool) : Prop := (row.all (belB 5) = false → b = false) ∧ ∀ ns : List Int, row = ns.map D.int → row.all (belB 5) = true → b = risB ns
theorem rises_ok (hn : row.length ≤ 4) (h : ∀ b, risR row b → N (st18 scr ds (.val a2) (.val a3) (.val a4) (.val a5) (.val a6) (.val a7) (.val a8) (.val (.tup row)) (.val (.bl (row.all wholeB))) (.val (.bl (row.all (belB 5)))) (.val (.bl b)) .no .no .no)) :
    OkS (mAsg (mAndV (mVar 11) (mBin eqD (mLv (mComp (([("k", 16)] : List (Str × Nat)).map (·.2)) (mRng2 (mCons (mC (.int 1)) (mCons (mCB lenD (mCons (mVar 9) mNil)) mNil))) (tgName 16) (mTst (mBin geD (mBin ixD (mVar 9) (mBin subD (mVar 16) (mC (.int 1)))) (mBin ixD (mVar 9) (mVar 16)))) (mVar 16))) (mLv (mLst mNil)))) (tgName 12)
      (st18 scr ds (.val a2) (.val a3) (.val a4) (.val a5) (.val a6) (.val a7) (.val a8) (.val (.tup row)) (.val (.bl (row.all wholeB))) (.val (.bl (row.all (belB 5)))) .no .no .no .no)) N R := by
  rw [w_mAsg, w_mAndV, w_mVar (d := .bl (row.all (belB 5))) (hi := rfl)]
  refine ⟨row.all (belB 5), rfl, ?_⟩
  by_cases hb : row.all (belB 5) = true
  · obtain ⟨ns, he⟩ := whole_ints (all_bel_whole hb)
    have hln : ns.length ≤ 4 := by rw [he, List.length_map] at hn; exact hn
    rw [if_pos hb, w_mBin, w_mLv, w_mComp, w_mRng2, w_mCons, w_mC, w_mCons, w_mCB, w_mCons, w_mVar (d := .tup row) (hi := rfl), w_mNil]
    refine ⟨_, lenD_tup _, ?_⟩
    rw [w_mNil]
    refine ⟨1, (row.length : Nat), rfl, by unfold rngOk; simp; omega, ?_⟩
    have eM : ((row.length : Int) - 1).toNat = ns.length - 1 := by rw [he, List.length_map]; omega
    rw [eM]
    have hx : ∀ k : Int, 0 ≤ k → k < ns.length → ixD (.tup row) (.int k) = some (.int (ns.getD k.toNat 0)) := fun k h0 h1 => by rw [he]; exact ix_tup h0 h1
    refine ok_compP (fun d => match d with | .int k => !decide (ns.getD (k - 1).toNat 0 < ns.getD k.toNat 0) | _ => true) id (by rw [rngD_len]; omega) (fun d hd => ?_) ?_
    · unfold rngD at hd
      obtain ⟨i, hi, rfl⟩ := List.mem_map.mp hd
      have hi := List.mem_range.mp hi
      refine ⟨[.val scr, .own true (.lst ds), .val a2, .val a3, .val a4, .val a5, .val a6, .val a7, .val a8, .val (.tup row), .val (.bl (row.all wholeB)), .val (.bl (row.all (belB 5))), .no, .no, .no, .no, .val (.int (1 + i)), .no], by rw [enter_eq]; rfl, ?_⟩
      rw [w_mTst, w_mBin, w_mBin, w_mVar (d := .tup row) (hi := rfl), w_mBin, w_mVar (d := .int (1 + i)) (hi := rfl), w_mC]
      refine ⟨_, subD_int _ _, _, hx _ (by omega) (by omega), ?_⟩
      rw [w_mBin, w_mVar (d := .tup row) (hi := rfl), w_mVar (d := .int (1 + i)) (hi := rfl)]
      refine ⟨_, hx _ (by omega) (by omega), _, geD_int _ _, _, rfl, ?_, by rw [leave_eq]; rfl, fun _ => ?_⟩
      · show decide (_ ≤ _) = !decide (_ < _)
        rw [Bool.eq_iff_iff, Bool.not_eq_true', decide_eq_true_eq, decide_eq_false_iff_not]
        omega
      · rw [w_mVar (d := .int (1 + i)) (hi := rfl)]
        exact ⟨rfl, by rw [leave_eq]; rfl⟩
    · rw [w_mLv, w_mLst, w_mNil, List.map_id]
      refine ⟨by decide, .bl (risB ns), ?_, _, rfl, h (risB ns) ⟨fun z => (by rw [hb] at z; cases z), fun ms hm _ => ?_⟩⟩
      · rw [eqD_nil (plains_all fun d hd => by
          have := (List.mem_filter.mp hd).1
          unfold rngD at this
          obtain ⟨i, _, rfl⟩ := List.mem_map.mp this
          rfl)]
        congr 2
        have e2 : ((rngD 1 (ns.length - 1)).filter fun d => match d with | .int k => !decide (ns.getD (k - 1).toNat 0 < ns.getD k.toNat 0) | _ => true) = ((List.range (ns.length - 1)).filter fun i => !decide (ns.getD i 0 < ns.getD (i + 1) 0)).map fun i : Nat => D.int (1 + (i : Int)) := by
          unfold rngD
          rw [List.filter_map]
          congr 1
          refine List.filter_congr fun i _ => ?_
          show (!decide (ns.getD (((1 : Int) + (i : Int)) - 1).toNat 0 < ns.getD ((1 : Int) + (i : Int)).toNat 0)) = _
          have h3 : (((1 : Int) + (i : Int)) - 1).toNat = i := by omega
          have h4 : ((1 : Int) + (i : Int)).toNat = i + 1 := by omega
          rw [h3, h4]
        rw [e2, List.isEmpty_map, filter_not_isEmpty (p := fun i => decide (ns.getD i 0 < ns.getD (i + 1) 0))]
        rfl
      · have : ns = ms := List.map_inj_right (fun _ _ z => by cases z; rfl) |>.mp (he.symm.trans hm)
        rw [this]
  · refine Eq.mpr (if_neg hb) ?_
    rw [Bool.not_eq_true] at hb
    have h := h false ⟨fun _ => rfl, fun _ _ z => by rw [hb] at z; cases z⟩
    rw [hb] at h ⊢
    exact ⟨_, rfl, h⟩
end
end K00

namespace K00
open PySem PySem.Spec L2 MX
open PyProof.Rows hiding St
theorem nis_ff : nisD (.bl false) (.bl false) = some (.bl false) := rfl
theorem nis_tt : nisD (.bl true) (.bl true) = some (.bl false) := rfl
instance (l : List Nat) : Decidable (Txt l) := by unfold Txt; infer_instance
theorem m9_aba : m9 [.val (.tup [.str (Str.ofString "a"), .str (Str.ofString "b"), .str (Str.ofString "a")])] = .ok (.bl false) [.no] :=
  m9_names (ls := [[97], [98], [97]]) (by decide +kernel) (by decide)
theorem m9_ab1 : m9 [.val (.tup [.str (Str.ofString "a"), .str (Str.ofString "b1")])] = .ok (.bl true) [.no] :=
  m9_names (ls := [[97], [98, 49]]) (by decide +kernel) (by decide)
section
variable {scr : D} {ds : List D} {a2 a3 a4 a5 a6 a7 a8 : D} {x9 x10 x11 x12 x13 x14 x15 : Slot} {N : MS → Prop} {R : D → MS → Prop} {row : List D}
theorem cond1 {ls : List (List Nat)} (hl : ∀ l ∈ ls, Txt l) (hn : ls.length ≤ 3) (h : N (st18 scr ds (.val a2) (.val a3) (.val a4) (.val a5) (.val a6) (.val (.tup (ls.map tx))) (.val (.bl (ls.all nameB && decide ls.Nodup))) .no .no .no .no .no .no .no)) :
    OkS (mIfS (mOrT (mTst (mBin neD (mCall m9 (gVal (mVar 7) gNilM)) (mVar 8))) (mOrT (mTst (mBin nisD (mCall m9 (gVal (mCB listD (mCons (mVar 7) mNil)) gNilM)) (mC (.bl false)))) (mOrT (mTst (mBin nisD (mCall m9 (gVal (mTup (mCons (mC (.str (Str.ofString "a"))) (mCons (mC (.str (Str.ofString "b"))) (mCons (mC (.str (Str.ofString "a"))) mNil)))) gNilM)) (mC (.bl false)))) (mTst (mBin nisD (mCall m9 (gVal (mTup (mCons (mC (.str (Str.ofString "a"))) (mCons (mC (.str (Str.ofString "b1"))) mNil))) gNilM)) (mC (.bl true))))))) (mRet (mC (.bl false))) .nx
      (st18 scr ds (.val a2) (.val a3) (.val a4) (.val a5) (.val a6) (.val (.tup (ls.map tx))) (.val (.bl (ls.all nameB && decide ls.Nodup))) .no .no .no .no .no .no .no)) N R := by
  rw [w_mIfS, w_mOrT, w_mTst, w_mBin, w_call1, w_mVar (d := .tup (ls.map tx)) (hi := rfl), m9_names hl (by omega), w_ok, w_mVar (d := .bl (ls.all nameB && decide ls.Nodup)) (hi := rfl)]
  refine ⟨_, neD_bl _ _, _, rfl, ?_⟩
  rw [if_neg (by simp), w_mOrT, w_mTst, w_mBin, w_call1, w_mCB, w_mCons, w_mVar (d := .tup (ls.map tx)) (hi := rfl), w_mNil]
  refine ⟨_, rfl, ?_⟩
  refine Ok.of_eq (a := .bl false) (st := [.no]) rfl ?_
  refine ⟨_, nis_ff, _, rfl, ?_⟩
  rw [if_neg (by decide), w_mOrT, w_mTst, w_mBin, w_call1, w_mTup, w_mCons, w_mC, w_mCons, w_mC, w_mCons, w_mC, w_mNil]
  refine ⟨by show 3 ≤ sizeLine; decide, ?_⟩
  refine Ok.of_eq m9_aba ⟨_, nis_ff, _, rfl, ?_⟩
  rw [if_neg (by decide), w_mTst, w_mBin, w_call1, w_mTup, w_mCons, w_mC, w_mCons, w_mC, w_mNil]
  refine ⟨by show 2 ≤ sizeLine; decide, ?_⟩
  refine Ok.of_eq m9_ab1 ⟨_, nis_tt, _, rfl, ?_⟩
  rw [if_neg (by decide)]
  exact h
theorem cond2 (hp : ∀ v ∈ row, v.plain = true) (hn : row.length ≤ 4) {b : Bool} (hr : risR row b) (h : N (st18 scr ds (.val a2) (.val a3) (.val a4) (.val a5) (.val a6) (.val a7) (.val a8) (.val (.tup row)) x10 (.val (.bl (row.all (belB 5)))) (.val (.bl b)) x13 x14 x15)) :
    OkS (mIfS (mOrT (mTst (mBin neD (mCall m10 (gVal (mVar 9) (gVal (mC (.int 5)) gNilM))) (mVar 11))) (mOrT (mTst (mBin neD (mCall m12 (gVal (mVar 9) (gVal (mC (.int 5)) gNilM))) (mVar 12))) (mOrT (mTst (mBin nisD (mCall m10 (gVal (mCB listD (mCons (mVar 9) mNil)) (gVal (mC (.int 5)) gNilM))) (mC (.bl false)))) (mTst (mBin nisD (mCall m12 (gVal (mLv (mLst (mCons (mC (.int 1)) (mCons (mC (.int 2)) mNil)))) (gVal (mC (.int 5)) gNilM))) (mC (.bl false))))))) (mRet (mC (.bl false))) .nx
      (st18 scr ds (.val a2) (.val a3) (.val a4) (.val a5) (.val a6) (.val a7) (.val a8) (.val (.tup row)) x10 (.val (.bl (row.all (belB 5)))) (.val (.bl b)) x13 x14 x15)) N R := by
  rw [w_mIfS, w_mOrT, w_mTst, w_mBin, w_call2, w_mVar (d := .tup row) (hi := rfl), w_mC, m10_row hp (by omega), w_ok, w_mVar (d := .bl (row.all (belB 5))) (hi := rfl)]
  refine ⟨_, neD_bl _ _, _, rfl, ?_⟩
  obtain ⟨b', e1, h1, h2⟩ := m12_row (n := 5) hp (by omega : row.length ≤ 1000)
  have hbb : b' = b := by
    cases hz : row.all (belB 5) with
    | false => rw [h1 hz, hr.1 hz]
    | true =>
      obtain ⟨ns, he⟩ := whole_ints (all_bel_whole hz)
      rw [h2 ns he hz, hr.2 ns he hz]
  subst hbb
  rw [if_neg (by simp), w_mOrT, w_mTst, w_mBin, w_call2, w_mVar (d := .tup row) (hi := rfl), w_mC, e1, w_ok, w_mVar (d := .bl b') (hi := rfl)]
  refine ⟨_, neD_bl _ _, _, rfl, ?_⟩
  rw [if_neg (by simp), w_mOrT, w_mTst, w_mBin, w_call2, w_mCB, w_mCons, w_mVar (d := .tup row) (hi := rfl), w_mNil]
  refine ⟨_, rfl, ?_⟩
  rw [w_mC]
  refine Ok.of_eq (a := .bl false) (st := [.no, .no]) rfl ⟨_, nis_ff, _, rfl, ?_⟩
  rw [if_neg (by decide), w_mTst, w_mBin, w_call2, w_mLv, w_mLst, w_mCons, w_mC, w_mCons, w_mC, w_mNil]
  refine ⟨by show 2 ≤ sizeLine; decide, ?_⟩
  rw [w_mC]
  refine Ok.of_eq (a := .bl false) (st := [.no, .no]) rfl ⟨_, nis_ff, _, rfl, ?_⟩
  rw [if_neg (by decide)]
  exact h
theorem m13_201 : m13 [.val (.tup [.int 2, .int 0, .int 1]), .val (.int 3)] = .ok (.bl true) [.no, .no] := by
  obtain ⟨b, e, h1, h2⟩ := m13_row (row := ([2, 0, 1] : List Int).map D.int) (by decide +kernel) (by decide)
  have := h2 [2, 0, 1] rfl (by decide +kernel)
  rw [show b = true from this.trans (by decide)] at e
  exact e
theorem m13_00 : m13 [.val (.tup [.int 0, .int 0]), .val (.int 2)] = .ok (.bl false) [.no, .no] := by
  obtain ⟨b, e, h1, h2⟩ := m13_row (row := ([0, 0] : List Int).map D.int) (by decide +kernel) (by decide)
  have := h2 [0, 0] rfl (by decide +kernel)
  rw [show b = false from this.trans (by decide)] at e
  exact e
theorem m13_0 : Ok (m13 [.val (.tup [.int 0]), .val (.int 2)]) fun r _ => r = .bl false := by
  refine ok_def rfl ?_
  show OkS (mRet _ [.val (.tup [.int 0]), .val (.int 2)]) _ _
  rw [w_mRet, w_mAndV, w_call2, w_mVar (d := .tup [.int 0]) (hi := rfl), w_mVar (d := .int 2) (hi := rfl), m10_row (row := [.int 0]) (by decide +kernel) (by decide)]
  refine ⟨true, rfl, ?_⟩
  rw [if_pos rfl, w_mAndV, w_mBin, w_mCB, w_mCons, w_mVar (d := .tup [.int 0]) (hi := rfl), w_mNil]
  refine ⟨_, lenD_tup _, ?_⟩
  rw [w_mVar (d := .int 2) (hi := rfl)]
  refine ⟨_, eqD_int _ _, false, by decide, ?_⟩
  rw [if_neg (by decide)]
  rfl
theorem sortOk_ints (ns : List Int) : sortOk (ns.map D.int) = true := by
  have h1 : plains (ns.map D.int) = true := plains_all fun d hd => by
    obtain ⟨i, _, rfl⟩ := List.mem_map.mp hd
    rfl
  have h2 : ∀ ns : List Int, deps (ns.map D.int) = 0 := fun ns => by
    induction ns with
    | nil => rfl
    | cons i ns ih =>
      rw [List.map_cons]
      unfold deps
      rw [ih]
      rfl
  have h3 : ((ns.map D.int).all fun d => (ns.map D.int).all fun e => PySem.W.alike (enc d) (enc e)) = true := by
    rw [List.all_eq_true]
    intro d hd
    rw [List.all_eq_true]
    intro e he
    obtain ⟨i, _, rfl⟩ := List.mem_map.mp hd
    obtain ⟨j, _, rfl⟩ := List.mem_map.mp he
    rfl
  unfold sortOk
  rw [h1, h2, h3]
  refine (Bool.and_eq_true _ _).mpr ⟨rfl, (Bool.or_eq_true _ _).mpr (.inr ?_)⟩
  rw [List.all_eq_true]
  intro d hd
  obtain ⟨i, _, rfl⟩ := List.mem_map.mp hd
  rfl
theorem cond3 (hp : ∀ v ∈ row, v.plain = true) (hn : row.length ≤ 4) (h : N (st18 scr ds (.val a2) (.val a3) (.val a4) (.val a5) (.val a6) (.val a7) (.val a8) (.val (.tup row)) (.val (.bl (row.all wholeB))) x11 x12 x13 x14 x15)) :
    OkS (mIfS (mOrT (mTst (mBin neD (mCall m13 (gVal (mVar 9) (gVal (mCB lenD (mCons (mVar 9) mNil)) gNilM))) (mAndV (mVar 10) (mBin eqD (mCB sortedD (mCons (mVar 9) mNil)) (mLRg .lst (mPair1 (mCB lenD (mCons (mVar 9) mNil)))))))) (mTst (mBin nisD (mCall m13 (gVal (mTup (mCons (mC (.int 2)) (mCons (mC (.int 0)) (mCons (mC (.int 1)) mNil)))) (gVal (mC (.int 3)) gNilM))) (mC (.bl true))))) (mRet (mC (.bl false))) .nx
      (st18 scr ds (.val a2) (.val a3) (.val a4) (.val a5) (.val a6) (.val a7) (.val a8) (.val (.tup row)) (.val (.bl (row.all wholeB))) x11 x12 x13 x14 x15)) N R := by
  obtain ⟨b, e1, h1, h2⟩ := m13_row hp (by omega : row.length ≤ 1000)
  rw [w_mIfS, w_mOrT, w_mTst, w_mBin, w_call2, w_mVar (d := .tup row) (hi := rfl), w_mCB, w_mCons, w_mVar (d := .tup row) (hi := rfl), w_mNil]
  refine ⟨_, lenD_tup _, ?_⟩
  rw [e1, w_ok]
  have key : ∀ (P : D → MS → Prop), P (.bl b) (st18 scr ds (.val a2) (.val a3) (.val a4) (.val a5) (.val a6) (.val a7) (.val a8) (.val (.tup row)) (.val (.bl (row.all wholeB))) x11 x12 x13 x14 x15) → Ok (mAndV (mVar 10) (mBin eqD (mCB sortedD (mCons (mVar 9) mNil)) (mLRg .lst (mPair1 (mCB lenD (mCons (mVar 9) mNil))))) (st18 scr ds (.val a2) (.val a3) (.val a4) (.val a5) (.val a6) (.val a7) (.val a8) (.val (.tup row)) (.val (.bl (row.all wholeB))) x11 x12 x13 x14 x15)) P := by
    intro P hP
    rw [w_mAndV, w_mVar (d := .bl (row.all wholeB)) (hi := rfl)]
    refine ⟨row.all wholeB, rfl, ?_⟩
    by_cases hb : row.all wholeB = true
    · obtain ⟨ns, he⟩ := whole_ints hb
      rw [if_pos hb, w_mBin, w_mCB, w_mCons, w_mVar (d := .tup row) (hi := rfl), w_mNil]
      have hs : sortedD [.tup row] = some (.lst ((ns.map D.int).mergeSort leS)) := by
        show (if sortOk row = true then some (D.lst (row.mergeSort leS)) else none) = _
        rw [he, if_pos (sortOk_ints ns)]
      refine ⟨_, hs, ?_⟩
      rw [w_mLRg, w_mPair1, w_mCB, w_mCons, w_mVar (d := .tup row) (hi := rfl), w_mNil]
      have hl : row.length = ns.length := by rw [he, List.length_map]
      refine ⟨_, lenD_tup _, (row.length : Nat), rfl, by unfold rgOkB; simp; omega, ?_⟩
      have ez : (((0 : Int), ((row.length : Nat) : Int)).2 - ((0 : Int), ((row.length : Nat) : Int)).1).toNat = ns.length := by show (((row.length : Nat) : Int) - 0).toNat = _; omega
      rw [ez]
      have hperm := List.mergeSort_perm (ns.map D.int) leS
      refine ⟨.bl b, ?_, hP⟩
      rw [eqD_of (d := .lst _) (e := .lst _) (plains_all (xs := (ns.map D.int).mergeSort leS) fun d hd => ?_) (plains_all (xs := rngD 0 ns.length) fun d hd => ?_) ?_]
      · congr 2
        show beqs _ _ = b
        rw [sort_iff]
        cases hz : row.all (belB row.length) with
        | true =>
          rw [h2 ns he hz]
          have : (ns.all fun x => decide (0 ≤ x) && decide (x < ns.length)) = true := by
            rw [he, List.all_map, List.length_map] at hz
            exact hz
          rw [this, Bool.true_and]
        | false =>
          rw [h1 hz]
          have : (ns.all fun x => decide (0 ≤ x) && decide (x < ns.length)) = false := by
            rw [he, List.all_map, List.length_map] at hz
            exact hz
          rw [this, Bool.false_and]
      · have hd2 : (D.lst (rngD 0 ns.length)).dep ≤ 64 := by
          have : ∀ l : List D, (∀ d ∈ l, ∃ i, d = D.int i) → deps l = 0 := fun l => by
            induction l with
            | nil => intro _; rfl
            | cons d l ih =>
              intro hh
              obtain ⟨i, rfl⟩ := hh d (by simp)
              unfold deps
              rw [ih fun e he => hh e (by simp [he])]
              rfl
          show deps (rngD 0 ns.length) + 1 ≤ 64
          rw [this _ (rng_ints _)]
          decide
        rw [decide_eq_true hd2, Bool.or_true]
      · obtain ⟨i, rfl⟩ := map_ints ns d (hperm.mem_iff.mp hd)
        rfl
      · obtain ⟨i, rfl⟩ := rng_ints _ d hd
        rfl
    · refine Eq.mpr (if_neg hb) ?_
      rw [Bool.not_eq_true] at hb
      have : row.all (belB row.length) = false := by
        cases hz : row.all (belB row.length) with
        | false => rfl
        | true => rw [all_bel_whole hz] at hb; cases hb
      rw [h1 this] at hP
      rw [hb] at hP ⊢
      exact hP
  refine key _ ⟨_, neD_bl _ _, _, rfl, ?_⟩
  rw [if_neg (by simp), w_mTst, w_mBin, w_call2, w_mTup, w_mCons, w_mC, w_mCons, w_mC, w_mCons, w_mC, w_mNil]
  refine ⟨by show 3 ≤ sizeLine; decide, ?_⟩
  rw [w_mC]
  refine Ok.of_eq m13_201 ⟨_, nis_tt, _, rfl, ?_⟩
  rw [if_neg (by decide)]
  exact h
theorem cond4 {st : MS} (h : N st) :
    OkS (mIfS (mOrT (mTst (mBin nisD (mCall m13 (gVal (mTup (mCons (mC (.int 0)) (mCons (mC (.int 0)) mNil))) (gVal (mC (.int 2)) gNilM))) (mC (.bl false)))) (mOrT (mTst (mBin nisD (mCall m13 (gVal (mLv (mLst (mCons (mC (.int 0)) mNil))) (gVal (mC (.int 1)) gNilM))) (mC (.bl false)))) (mTst (mBin nisD (mCall m13 (gVal (mTup (mCons (mC (.int 0)) mNil)) (gVal (mC (.int 2)) gNilM))) (mC (.bl false)))))) (mRet (mC (.bl false))) .nx st) N R := by
  rw [w_mIfS, w_mOrT, w_mTst, w_mBin, w_call2, w_mTup, w_mCons, w_mC, w_mCons, w_mC, w_mNil]
  refine ⟨by show 2 ≤ sizeLine; decide, ?_⟩
  rw [w_mC]
  refine Ok.of_eq m13_00 ⟨_, nis_ff, _, rfl, ?_⟩
  rw [if_neg (by decide), w_mOrT, w_mTst, w_mBin, w_call2, w_mLv, w_mLst, w_mCons, w_mC, w_mNil]
  refine ⟨by show 1 ≤ sizeLine; decide, ?_⟩
  rw [w_mC]
  refine Ok.of_eq (a := .bl false) (st := [.no, .no]) rfl ⟨_, nis_ff, _, rfl, ?_⟩
  rw [if_neg (by decide), w_mTst, w_mBin, w_call2, w_mTup, w_mCons, w_mC, w_mNil]
  refine ⟨by show 1 ≤ sizeLine; decide, ?_⟩
  rw [w_mC]
  obtain ⟨r, ss, e, hr⟩ := m13_0.ex
  subst hr
  refine Ok.of_eq e ⟨_, nis_ff, _, rfl, ?_⟩
  rw [if_neg (by decide)]
  exact h
end
end K00

namespace K00
open PySem PySem.Spec L2 MX
open PyProof.Rows hiding St
def errs : List (Nat × Str) := [(17, "TooLarge"), (18, "InvalidWeb"), (19, "InvalidHueing"), (20, "InvalidText"), (21, "InvalidMoment"), (22, "InvalidMotion"), (23, "InvalidTurning"), (24, "InvalidFrame"), (25, "InvalidPaper"), (26, "InvalidAct"), (27, "InvalidPlace")]
def placeD : D := .tup [.str (Str.ofString "x"), .int 3]
def namesD : D := .lst (errs.map fun p => .str p.2)
def madeL (cs : Nat → Addr) : List D := errs.map fun p => .exc (cs p.1) p.2 placeD
theorem okE_all (cs : Nat → Addr) : ∀ p ∈ errs, okE cs (cs p.1) = true := by
  intro p hp
  simp only [errs, List.mem_cons, List.not_mem_nil, or_false] at hp
  rcases hp with rfl | rfl | rfl | rfl | rfl | rfl | rfl | rfl | rfl | rfl | rfl <;> simp [okE]
theorem okE_base (cs : Nat → Addr) : okE cs (cs 16) = true := by simp [okE]
theorem neD_self {d : D} (h : d.plain = true) (h2 : d.dep ≤ 64) (h3 : d.beq d = true) : neD d d = some (.bl false) := by
  rw [neD_of h h (by rw [decide_eq_true h2]; rfl), h3]
  rfl
theorem m35_ok (cs : Nat → Addr) : Ok (m35 cs []) fun r _ => r = .bl true := by
  refine ok_def rfl ?_
  show OkS (mSeq _ _ [.no, .no, .no, .no, .no]) _ _
  rw [w_mSeq, w_mAsg]
  refine Ok.of_eq (a := namesD) (st := [.no, .no, .no, .no, .no]) rfl ⟨_, rfl, ?_⟩
  show OkS (mSeq _ _ [.val namesD, .no, .no, .no, .no]) _ _
  rw [w_mSeq, w_mAsg]
  refine Ok.of_eq (a := placeD) (st := [.val namesD, .no, .no, .no, .no]) rfl ⟨_, rfl, ?_⟩
  show OkS (mSeq _ _ [.val namesD, .val placeD, .no, .no, .no]) _ _
  rw [w_mSeq, w_mAsg]
  refine Ok.of_eq (a := .lst (madeL cs)) (st := [.val namesD, .val placeD, .no, .no, .no]) rfl ⟨_, rfl, ?_⟩
  show OkS (mSeq _ _ [.val namesD, .val placeD, .val (.lst (madeL cs)), .no, .no]) _ _
  rw [w_mSeq, w_mIfS, w_mOrT, w_mTst, w_mBin, w_mLv, w_mComp, w_mItems, w_mVar (d := .lst (madeL cs)) (hi := rfl)]
  refine ⟨_, rfl, ?_⟩
  have hlen : (madeL cs).length ≤ 1000 := by unfold madeL; rw [List.length_map]; decide
  refine ok_compP (fun _ => true) (fun d => match d with | .exc _ nm _ => .str nm | _ => .non) hlen (fun d hd => ?_) ?_
  · obtain ⟨p, hp, rfl⟩ := List.mem_map.mp hd
    refine ⟨[.val namesD, .val placeD, .val (.lst (madeL cs)), .no, .val (.exc (cs p.1) p.2 placeD)], by rw [enter_eq]; rfl, rfl, by rw [leave_eq]; rfl, fun _ => ?_⟩
    rw [w_mUn, w_mVar (d := .exc (cs p.1) p.2 placeD) (hi := rfl)]
    refine ⟨.str p.2, ?_, rfl, by rw [leave_eq]; rfl⟩
    show (if okE cs (cs p.1) = true then some (D.str p.2) else none) = _
    rw [if_pos (okE_all cs p hp)]
  · rw [List.filter_eq_self.mpr (fun _ _ => rfl), w_mVar (d := namesD) (hi := rfl)]
    have e1 : (madeL cs).map (fun d => match d with | .exc _ nm _ => D.str nm | _ => .non) = errs.map fun p => .str p.2 := by
      unfold madeL
      rw [List.map_map]
      rfl
    rw [e1]
    have hne : neD (.lst (errs.map fun p => .str p.2)) namesD = some (.bl false) := neD_self (by decide +kernel) (by decide +kernel) (by decide +kernel)
    refine ⟨_, hne, _, rfl, ?_⟩
    rw [if_neg (by decide), w_mTst, w_mBin, w_mLv, w_mComp, w_mItems, w_mVar (d := .lst (madeL cs)) (hi := rfl)]
    refine ⟨_, rfl, ?_⟩
    refine ok_compP (fun _ => false) id hlen (fun d hd => ?_) ?_
    · obtain ⟨p, hp, rfl⟩ := List.mem_map.mp hd
      refine ⟨[.val namesD, .val placeD, .val (.lst (madeL cs)), .no, .val (.exc (cs p.1) p.2 placeD)], by rw [enter_eq]; rfl, ?_⟩
      rw [w_mOrT, w_mTst, w_mBin, w_mUn, w_mVar (d := .exc (cs p.1) p.2 placeD) (hi := rfl)]
      refine ⟨placeD, ?_, ?_⟩
      · show (if okE cs (cs p.1) = true then some placeD else none) = _
        rw [if_pos (okE_all cs p hp)]
      rw [w_mVar (d := placeD) (hi := rfl)]
      have hpl : neD placeD placeD = some (.bl false) := neD_self (by decide +kernel) (by decide +kernel) (by decide +kernel)
      refine ⟨_, hpl, _, rfl, ?_⟩
      rw [if_neg (by decide), w_mNotT, w_mTru, w_mUn, w_mVar (d := .exc (cs p.1) p.2 placeD) (hi := rfl)]
      have his : isE (tb16 cs) (.exc (cs p.1) p.2 placeD) = some (.bl true) := by
        show (tb16 cs (cs p.1)).map D.bl = _
        unfold tb16
        rw [if_pos (okE_all cs p hp)]
        rfl
      exact ⟨_, his, _, rfl, rfl, by rw [leave_eq]; rfl, fun z => by cases z⟩
    · have e2 : ((madeL cs).filter fun _ => false).map id = [] := by
        rw [List.map_id, List.filter_eq_nil_iff]
        simp
      rw [e2, w_mLv, w_mLst, w_mNil]
      refine ⟨by decide, _, neD_self (d := .lst []) rfl (by decide +kernel) (by decide +kernel), _, rfl, ?_⟩
      rw [if_neg (by decide), w_nx, w_mSeq, w_mAsg]
      refine Ok.of_eq (a := .exc (cs 16) "MoveError" .non) (st := [.val namesD, .val placeD, .val (.lst (madeL cs)), .no, .no]) rfl ⟨_, rfl, ?_⟩
      show OkS (mRet _ [.val namesD, .val placeD, .val (.lst (madeL cs)), .val (.exc (cs 16) "MoveError" .non), .no]) _ _
      have ho := okE_base cs
      rw [w_mRet, w_mAndV, w_mBin, w_mUn, w_mVar (d := .exc (cs 16) "MoveError" .non) (hi := rfl)]
      refine ⟨.non, ?_, ?_⟩
      · show (if okE cs (cs 16) = true then some D.non else none) = _
        rw [if_pos ho]
      rw [w_mC]
      refine ⟨.bl true, rfl, true, rfl, ?_⟩
      rw [if_pos rfl, w_mAndV, w_mBin, w_mUn, w_mVar (d := .exc (cs 16) "MoveError" .non) (hi := rfl)]
      refine ⟨.str "MoveError", ?_, ?_⟩
      · show (if okE cs (cs 16) = true then some (D.str "MoveError") else none) = _
        rw [if_pos ho]
      rw [w_mC]
      have hme : eqD (.str "MoveError") (.str (Str.ofString "MoveError")) = some (.bl true) := by
        rw [eqD_of (by decide +kernel) (by decide +kernel) (by decide +kernel)]
        congr 2
      refine ⟨.bl true, hme, true, rfl, ?_⟩
      rw [if_pos rfl, w_mAndV, w_mUn, w_mVar (d := .exc (cs 16) "MoveError" .non) (hi := rfl)]
      have hv : isE (tbV cs) (.exc (cs 16) "MoveError" .non) = some (.bl true) := by
        show (tbV cs (cs 16)).map D.bl = _
        unfold tbV
        rw [if_pos ho]
        rfl
      refine ⟨_, hv, true, rfl, ?_⟩
      rw [if_pos rfl, w_mNotV, w_mUn, w_mVar (d := .exc (cs 16) "MoveError" .non) (hi := rfl)]
      have h7 : isE (tb17 cs) (.exc (cs 16) "MoveError" .non) = some (.bl false) := by
        show (tb17 cs (cs 16)).map D.bl = _
        unfold tb17
        rw [if_pos rfl]
        rfl
      exact ⟨_, h7, false, rfl, rfl⟩
section
variable {scr : D} {ds : List D} {a2 a3 a4 a5 a6 a7 a8 a9 a10 a11 a12 a13 : D} {N : MS → Prop} {R : D → MS → Prop}
theorem some_ok (ht : Tp ds) (h : ∀ (ds' : List D) (ns : List Int), Tp ds' → ns.length = 4 → N (st18 scr ds' (.val a2) (.val a3) (.val a4) (.val a5) (.val a6) (.val a7) (.val a8) (.val a9) (.val a10) (.val a11) (.val a12) (.val (.lst (ns.map D.int))) .no .no)) :
    OkS (mAsg (mLv (mComp (([("k", 16)] : List (Str × Nat)).map (·.2)) (mRng1 (mCons (mC (.int 4)) mNil)) (tgName 16) (fun st => .ok true st) (mCall m29 (gOwn 1 (gVal (mC (.int 9)) gNilM))))) (tgName 13)
      (st18 scr ds (.val a2) (.val a3) (.val a4) (.val a5) (.val a6) (.val a7) (.val a8) (.val a9) (.val a10) (.val a11) (.val a12) .no .no .no)) N R := by
  rw [w_mAsg, w_mLv, w_mComp, w_mRng1, w_mCons, w_mC, w_mNil]
  refine ⟨4, rfl, by decide, ?_⟩
  have hr4 : (rngD 0 (4 : Int).toNat).length = 4 := by rw [rngD_len]; rfl
  generalize rngD 0 (4 : Int).toNat = rest0 at hr4 ⊢
  refine ok_comp (fun rest acc st => ∃ (ds : List D) (ns : List Int), st = st18 scr ds (.val a2) (.val a3) (.val a4) (.val a5) (.val a6) (.val a7) (.val a8) (.val a9) (.val a10) (.val a11) (.val a12) .no .no .no ∧ Tp ds ∧ acc = ns.map D.int ∧ ns.length + rest.length = 4) (fun acc st hI => ?_) (fun d rest acc st hI => ?_) ⟨ds, [], rfl, ht, rfl, by rw [hr4]; rfl⟩
  · obtain ⟨ds2, ns, rfl, ht2, rfl, hn⟩ := hI
    exact ⟨_, rfl, h ds2 ns ht2 (by simpa using hn)⟩
  · obtain ⟨ds2, ns, rfl, ht2, rfl, hn⟩ := hI
    refine ⟨[.val scr, .own true (.lst ds2), .val a2, .val a3, .val a4, .val a5, .val a6, .val a7, .val a8, .val a9, .val a10, .val a11, .val a12, .no, .no, .no, .val d, .no], by rw [enter_eq]; rfl, ?_⟩
    rw [w_ok, if_pos rfl]
    simp at hn
    refine draw_call (m := 9) (b := true) (ds := ds2) rfl ht2 (by decide) (by decide) rfl fun k ds3 k0 k1 ht3 => ?_
    exact ⟨by rw [List.length_map, sizeLine_eq]; omega, ds3, ns ++ [k], by rw [leave_eq]; rfl, ht3, by simp, by simp; omega⟩
theorem cond5 {ns : List Int} (hn : ns.length = 4) {x14 x15 : Slot} (h : N (st18 scr ds (.val a2) (.val a3) (.val a4) (.val a5) (.val a6) (.val a7) (.val a8) (.val a9) (.val a10) (.val a11) (.val a12) (.val (.lst (ns.map D.int))) x14 x15)) :
    OkS (mIfS (mOrT (mTst (mBin neD (mCall m11 (gVal (mVar 13) gNilM)) (mChain3 ltD ltD ltD (mBin ixD (mVar 13) (mC (.int 0))) (mBin ixD (mVar 13) (mC (.int 1))) (mBin ixD (mVar 13) (mC (.int 2))) (mBin ixD (mVar 13) (mC (.int 3)))))) (mTst (mBin nisD (mCall m11 (gVal (mLv (mLst mNil)) gNilM)) (mC (.bl true))))) (mRet (mC (.bl false))) .nx
      (st18 scr ds (.val a2) (.val a3) (.val a4) (.val a5) (.val a6) (.val a7) (.val a8) (.val a9) (.val a10) (.val a11) (.val a12) (.val (.lst (ns.map D.int))) x14 x15)) N R := by
  match ns, hn with
  | [a, b, c, d], _ =>
    have hix : ∀ (k : Int) (P : D → MS → Prop) (st : MS), st[13]? = some (.val (.lst (([a, b, c, d] : List Int).map D.int))) → 0 ≤ k → k < 4 → P (.int (([a, b, c, d] : List Int).getD k.toNat 0)) st → Ok (mBin ixD (mVar 13) (mC (.int k)) st) P := by
      intro k P st hst h0 h1 hP
      rw [w_mBin, w_mVar (hi := hst), w_mC]
      exact ⟨_, ix_lst h0 (by simpa using h1), hP⟩
    have hch : ∀ (P : D → MS → Prop) (st : MS), st[13]? = some (.val (.lst (([a, b, c, d] : List Int).map D.int))) → P (.bl (risB [a, b, c, d])) st → Ok (mChain3 ltD ltD ltD (mBin ixD (mVar 13) (mC (.int 0))) (mBin ixD (mVar 13) (mC (.int 1))) (mBin ixD (mVar 13) (mC (.int 2))) (mBin ixD (mVar 13) (mC (.int 3))) st) P := by
      intro P st hst hP
      have er : risB [a, b, c, d] = (decide (a < b) && (decide (b < c) && (decide (c < d) && true))) := rfl
      rw [er] at hP
      rw [w_mChain3]
      refine hix 0 _ st hst (by decide) (by decide) ?_
      refine hix 1 _ st hst (by decide) (by decide) ?_
      refine ⟨decide (a < b), ltD_int _ _, ?_⟩
      by_cases h1 : a < b
      · rw [decide_eq_true h1, Bool.true_and] at hP
        rw [if_pos (decide_eq_true h1)]
        refine hix 2 _ st hst (by decide) (by decide) ?_
        refine ⟨decide (b < c), ltD_int _ _, ?_⟩
        by_cases h2 : b < c
        · rw [decide_eq_true h2, Bool.true_and, Bool.and_true] at hP
          rw [if_pos (decide_eq_true h2)]
          refine hix 3 _ st hst (by decide) (by decide) ?_
          exact ⟨_, ltD_int _ _, hP⟩
        · rw [decide_eq_false h2, Bool.false_and] at hP
          rw [if_neg (by rw [decide_eq_true_eq]; exact h2)]
          exact hP
      · rw [decide_eq_false h1, Bool.false_and] at hP
        rw [if_neg (by rw [decide_eq_true_eq]; exact h1)]
        exact hP
    rw [w_mIfS, w_mOrT, w_mTst, w_mBin, w_call1, w_mVar (d := .lst (([a, b, c, d] : List Int).map D.int)) (hi := rfl), m11_lst (by show 4 ≤ 1000; decide), w_ok]
    refine hch _ _ rfl ⟨_, neD_bl _ _, _, rfl, ?_⟩
    rw [if_neg (by simp), w_mTst, w_mBin, w_call1, w_mLv, w_mLst, w_mNil]
    refine ⟨by decide, ?_⟩
    have hm : m11 [.val (.lst [])] = .ok (.bl true) [.no] := m11_lst (ns := []) (by decide)
    refine Ok.of_eq hm ⟨_, nis_tt, _, rfl, ?_⟩
    rw [if_neg (by decide)]
    exact h
theorem ne_const : ∀ st : MS, Ok (mBin neD (mTup (mCons (mC (.str (Str.ofString "abcdefghijklmnopqrstuvwxyz"))) (mCons (mC (.str (Str.ofString "0123456789"))) (mCons (mC (.int 12)) mNil)))) (mTup (mCons (mC (.str (Str.ofString "abcdefghijklmnopqrstuvwxyz"))) (mCons (mC (.str (Str.ofString "0123456789"))) (mCons (mC (.int 12)) mNil)))) st) fun d st' => d = .bl false ∧ st' = st := by
  intro st
  rw [w_mBin, w_mTup, w_mCons, w_mC, w_mCons, w_mC, w_mCons, w_mC, w_mNil]
  refine ⟨by show 3 ≤ sizeLine; decide, ?_⟩
  rw [w_mTup, w_mCons, w_mC, w_mCons, w_mC, w_mCons, w_mC, w_mNil]
  refine ⟨by show 3 ≤ sizeLine; decide, _, neD_self (by decide +kernel) (by decide +kernel) (by decide +kernel), rfl, rfl⟩
theorem cond6 {st : MS} {m n : Nat} (hm : m < 1000) (hn : n < 1000) (h1 : st[14]? = some (.val (.int m))) (h2 : st[15]? = some (.val (.int n))) (h : N st) :
    OkS (mIfS (mOrT (mTst (mBin neD (mCall m14 (gVal (mVar 14) (gVal (mVar 15) gNilM))) (mCall m34 (gVal (mVar 14) (gVal (mVar 15) gNilM))))) (mTst (mBin neD (mTup (mCons (mC (.str (Str.ofString "abcdefghijklmnopqrstuvwxyz"))) (mCons (mC (.str (Str.ofString "0123456789"))) (mCons (mC (.int 12)) mNil)))) (mTup (mCons (mC (.str (Str.ofString "abcdefghijklmnopqrstuvwxyz"))) (mCons (mC (.str (Str.ofString "0123456789"))) (mCons (mC (.int 12)) mNil))))))) (mRet (mC (.bl false))) .nx st) N R := by
  rw [w_mIfS, w_mOrT, w_mTst, w_mBin, w_call2, w_mVar (hi := h1), w_mVar (hi := h2), m14_ok, w_ok, w_call2, w_mVar (hi := h1), w_mVar (hi := h2), m34_ok hm hn]
  refine ⟨_, neD_int _ _, _, rfl, ?_⟩
  rw [if_neg (by simp), w_mTst]
  refine Ok.mono (ne_const st) fun d st' hd => ?_
  obtain ⟨rfl, rfl⟩ := hd
  refine ⟨_, rfl, ?_⟩
  rw [if_neg (by decide)]
  exact h
end
theorem draw29 {i : Nat} {st : MS} {b : Bool} {ds : List D} {m : Int} {f : MS → Out D} {P : D → MS → Prop} (hi : st[i]? = some (.own b (.lst ds))) (ht : Tp ds) (hm : 0 < m) (hm2 : m < 1000000) (hf : f st = .ok (.int m) st)
    (h : ∀ r ds', 0 ≤ r → r < m → Tp ds' → P (.int r) (st.set i (.own b (.lst ds')))) : Ok (mCall m29 (gOwn i (gVal f gNilM)) st) P := by
  rw [m29_is]
  exact draw_call hi ht hm hm2 hf h
theorem law_ok {cs : Nat → Addr} {ns : List Int} (h : ns.length ≤ 63) : ∃ st, m36 cs [.val (.scr (ns.map D.int))] = .ok (.bl true) st := by
  have e : Ok (m36 cs [.val (.scr (ns.map D.int))]) fun r _ => r = .bl true := by
    refine ok_def rfl ?_
    show OkS (mSeq _ _ [.val (.scr (ns.map D.int)), .no, .no, .no, .no, .no, .no, .no, .no, .no, .no, .no, .no, .no, .no, .no, .no, .no]) _ _
    rw [w_mSeq, w_mOwn, w_mLst, w_mCons, w_mCB, w_mCons, w_mVar (d := .scr (ns.map D.int)) (hi := rfl), w_mNil]
    refine ⟨.lst (ns.map D.int), rfl, ?_⟩
    rw [w_mCons, w_mC, w_mCons, w_mC, w_mCons, w_mC, w_mNil]
    refine ⟨by show 4 ≤ sizeLine; decide, ?_⟩
    show OkS (mSeq _ _ (st18 (.scr (ns.map D.int)) (tpD ns 0 0 0) .no .no .no .no .no .no .no .no .no .no .no .no .no .no)) _ _
    have ht0 : Tp (tpD ns 0 0 0) := ⟨ns, 0, 0, 0, rfl, by decide, by decide, by decide⟩
    generalize tpD ns 0 0 0 = ds0 at ht0
    generalize (D.scr (ns.map D.int)) = scr
    rw [w_mSeq, w_mFor, w_mRng1, w_mCons, w_mC, w_mNil]
    refine ⟨6, rfl, by decide, ?_⟩
    have hr6 : (rngD 0 (6 : Int).toNat).length = 6 := by rw [rngD_len]; rfl
    generalize rngD 0 (6 : Int).toNat = rest0 at hr6 ⊢
    refine okS_for (fun rest st => ∃ ds, Tp ds ∧ ((rest.length = 6 ∧ st = st18 scr ds .no .no .no .no .no .no .no .no .no .no .no .no .no .no) ∨ ∃ a2 a3 a4 a5 a6, st = st18 scr ds (.val a2) (.val a3) (.val a4) (.val a5) (.val a6) .no .no .no .no .no .no .no .no .no)) (fun st hI => ?_) (fun d rest st hI => ?_) ⟨ds0, ht0, .inl ⟨hr6, rfl⟩⟩
    · obtain ⟨ds1, ht1, hI | ⟨a2, a3, a4, a5, a6, rfl⟩⟩ := hI
      · exact absurd hI.1 (by decide)
      rw [w_mSeq]
      with_reducible refine names_ok ht1 fun ds2 ls ht2 hl hn => ?_
      rw [w_mSeq]
      with_reducible refine fine_ok hl hn ?_
      rw [w_mSeq]
      with_reducible refine cond1 hl hn ?_
      rw [w_mSeq]
      with_reducible refine row_ok ht2 fun ds3 row ht3 hp hr => ?_
      rw [w_mSeq]
      with_reducible refine plain_ok hp hr ?_
      rw [w_mSeq]
      with_reducible refine inside_ok hp hr ?_
      rw [w_mSeq]
      with_reducible refine rises_ok hr fun b hb => ?_
      rw [w_mSeq]
      with_reducible refine cond2 hp hr hb ?_
      rw [w_mSeq]
      with_reducible refine cond3 hp hr ?_
      rw [w_mSeq]
      with_reducible refine cond4 ?_
      rw [w_mSeq]
      with_reducible refine some_ok ht3 fun ds4 ms ht4 hm => ?_
      rw [w_mSeq]
      with_reducible refine cond5 hm ?_
      rw [w_mSeq, w_mPar, w_mCons]
      with_reducible refine draw29 (m := 60) (b := false) (ds := ds4) ?q1 ht4 ?q2 ?q3 ?q4 fun a ds5 h0 h1 ht5 => ?q5
      case q1 => rfl
      case q2 => decide
      case q3 => decide
      case q4 => rfl
      rw [w_mCons]
      with_reducible refine draw29 (m := 60) (b := false) (ds := ds5) ?r1 ht5 ?r2 ?r3 ?r4 fun c ds6 h2 h3 ht6 => ?r5
      case r1 => rfl
      case r2 => decide
      case r3 => decide
      case r4 => rfl
      rw [w_mNil]
      refine ⟨.int a, .int c, rfl, ?_⟩
      obtain ⟨m, rfl⟩ := Int.eq_ofNat_of_zero_le h0
      obtain ⟨n, rfl⟩ := Int.eq_ofNat_of_zero_le h2
      rw [w_mSeq]
      with_reducible refine cond6 (m := m) (n := n) (by omega) (by omega) ?u1 ?u2 ?u3
      case u1 => rfl
      case u2 => rfl
      rw [w_mRet, w_call0]
      exact m35_ok cs
    · obtain ⟨ds1, ht1, hI | ⟨a2, a3, a4, a5, a6, rfl⟩⟩ := hI
      · obtain ⟨_, rfl⟩ := hI
        refine ⟨_, rfl, OkS.mono (turn_ok (x2 := .val d) ht1) (fun st hst => ?_) fun _ _ z => z⟩
        obtain ⟨ds2, y3, y4, y5, y6, ht2, rfl⟩ := hst
        exact ⟨ds2, ht2, .inr ⟨d, y3, y4, y5, y6, rfl⟩⟩
      · refine ⟨_, rfl, OkS.mono (turn_ok (x2 := .val d) ht1) (fun st hst => ?_) fun _ _ z => z⟩
        obtain ⟨ds2, y3, y4, y5, y6, ht2, rfl⟩ := hst
        exact ⟨ds2, ht2, .inr ⟨d, y3, y4, y5, y6, rfl⟩⟩
  obtain ⟨a, st, e1, rfl⟩ := e.ex
  exact ⟨st, e1⟩
end K00

open PySem PySem.W PyProof.Rows
set_option maxRecDepth 100000 in
set_option maxHeartbeats 0 in
theorem PySem.Challenge.cw_somelengthsmove_k00_whole_words_and_erro_holds : PySem.Challenge.rw_somelengthsmove_k00_whole_words_and_erro.Holds := by
  w_on; o_law; k_head; (case hw => w_witness2)
  k_fill
  refine MX.walk_mx (l := PySem.Challenge.rw_somelengthsmove_k00_whole_words_and_erro) 6 rfl rfl ⟨rfl, by decide, by decide⟩ (fun w h Y => PySem.W.kIn_of Y) ?F
  case F =>
    intro w mg fa h KX G hmg
    refine' K00.top_mk KX G hmg ?hb_ValueError ?hb_abs ?hb_all ?hb_bool ?hb_int ?hb_isinstance ?hb_len ?hb_list ?hb_max ?hb_range ?hb_set ?hb_sorted ?hb_str ?hb_super ?hb_tuple ?hc_gcd ?hc_DIGITS ?hc_MOST_LETTERS ?hc_SMALL ?a5 ?k5 ?l5 ?c5 ?a6 ?k6 ?l6 ?c6 ?a7 ?k7 ?l7 ?c7 ?a8 ?k8 ?l8 ?c8 ?a9 ?k9 ?l9 ?c9 ?a10 ?k10 ?l10 ?c10 ?a11 ?k11 ?l11 ?c11 ?a12 ?k12 ?l12 ?c12 ?a13 ?k13 ?l13 ?c13 ?a14 ?k14 ?l14 ?c14 ?a29 ?k29 ?l29 ?c29 ?a30 ?k30 ?l30 ?c30 ?a31 ?k31 ?l31 ?c31 ?a32 ?k32 ?l32 ?c32 ?a33 ?k33 ?l33 ?c33 ?a34 ?k34 ?l34 ?c34 ?a35 ?k35 ?l35 ?c35 ?a36 ?k36 ?l36 ?c36 ?a16 ?i16 ?l16 ?o16 ?r16 ?b16 ?x16 ?a17 ?i17 ?l17 ?o17 ?r17 ?b17 ?u17 ?x17 ?a18 ?i18 ?l18 ?o18 ?r18 ?b18 ?u18 ?x18 ?a19 ?i19 ?l19 ?o19 ?r19 ?b19 ?u19 ?x19 ?a20 ?i20 ?l20 ?o20 ?r20 ?b20 ?u20 ?x20 ?a21 ?i21 ?l21 ?o21 ?r21 ?b21 ?u21 ?x21 ?a22 ?i22 ?l22 ?o22 ?r22 ?b22 ?u22 ?x22 ?a23 ?i23 ?l23 ?o23 ?r23 ?b23 ?u23 ?x23 ?a24 ?i24 ?l24 ?o24 ?r24 ?b24 ?u24 ?x24 ?a25 ?i25 ?l25 ?o25 ?r25 ?b25 ?u25 ?x25 ?a26 ?i26 ?l26 ?o26 ?r26 ?b26 ?u26 ?x26 ?a27 ?i27 ?l27 ?o27 ?r27 ?b27 ?u27 ?x27 ?q16_16 ?q17_16 ?q18_16 ?q19_16 ?q20_16 ?q21_16 ?q22_16 ?q23_16 ?q24_16 ?q25_16 ?q26_16 ?q27_16 ?q16_17 ?q17_17 ?q18_17 ?q19_17 ?q20_17 ?q21_17 ?q22_17 ?q23_17 ?q24_17 ?q25_17 ?q26_17 ?q27_17 ?q16_V ?q17_V ?q18_V ?q19_V ?q20_V ?q21_V ?q22_V ?q23_V ?q24_V ?q25_V ?q26_V ?q27_V @K00.law_ok
    (case hb_ValueError => k_is); (case hb_abs => k_is); (case hb_all => k_is); (case hb_bool => k_is); (case hb_int => k_is); (case hb_isinstance => k_is)
    (case hb_len => k_is); (case hb_list => k_is); (case hb_max => k_is); (case hb_range => k_is); (case hb_set => k_is); (case hb_sorted => k_is)
    (case hb_str => k_is); (case hb_super => k_is); (case hb_tuple => k_is); (case hc_gcd => k_is); (case hc_DIGITS => k_is); (case hc_MOST_LETTERS => k_is)
    (case hc_SMALL => k_is); (case a5 => k_is); (case k5 => k_is); (case l5 => k_is); (case c5 => k_is); (case a6 => k_is)
    (case k6 => k_is); (case l6 => k_is); (case c6 => k_is); (case a7 => k_is); (case k7 => k_is); (case l7 => k_is)
    (case c7 => k_is); (case a8 => k_is); (case k8 => k_is); (case l8 => k_is); (case c8 => k_is); (case a9 => k_is)
    (case k9 => k_is); (case l9 => k_is); (case c9 => k_is); (case a10 => k_is); (case k10 => k_is); (case l10 => k_is)
    (case c10 => k_is); (case a11 => k_is); (case k11 => k_is); (case l11 => k_is); (case c11 => k_is); (case a12 => k_is)
    (case k12 => k_is); (case l12 => k_is); (case c12 => k_is); (case a13 => k_is); (case k13 => k_is); (case l13 => k_is)
    (case c13 => k_is); (case a14 => k_is); (case k14 => k_is); (case l14 => k_is); (case c14 => k_is); (case a29 => k_is)
    (case k29 => k_is); (case l29 => k_is); (case c29 => k_is); (case a30 => k_is); (case k30 => k_is); (case l30 => k_is)
    (case c30 => k_is); (case a31 => k_is); (case k31 => k_is); (case l31 => k_is); (case c31 => k_is); (case a32 => k_is)
    (case k32 => k_is); (case l32 => k_is); (case c32 => k_is); (case a33 => k_is); (case k33 => k_is); (case l33 => k_is)
    (case c33 => k_is); (case a34 => k_is); (case k34 => k_is); (case l34 => k_is); (case c34 => k_is); (case a35 => k_is)
    (case k35 => k_is); (case l35 => k_is); (case c35 => k_is); (case a36 => k_is); (case k36 => k_is); (case l36 => k_is)
    (case c36 => k_is); (case a16 => k_is); (case i16 => k_is); (case l16 => k_is); (case o16 => k_is); (case r16 => rfl)
    (case b16 => kernel_rfl); (case x16 => kernel_rfl); (case a17 => k_is); (case i17 => k_is); (case l17 => k_is); (case o17 => k_is)
    (case r17 => rfl); (case b17 => kernel_rfl); (case u17 => kernel_rfl); (case x17 => kernel_rfl); (case a18 => k_is); (case i18 => k_is)
    (case l18 => k_is); (case o18 => k_is); (case r18 => rfl); (case b18 => kernel_rfl); (case u18 => kernel_rfl); (case x18 => kernel_rfl)
    (case a19 => k_is); (case i19 => k_is); (case l19 => k_is); (case o19 => k_is); (case r19 => rfl); (case b19 => kernel_rfl)
    (case u19 => kernel_rfl); (case x19 => kernel_rfl); (case a20 => k_is); (case i20 => k_is); (case l20 => k_is); (case o20 => k_is)
    (case r20 => rfl); (case b20 => kernel_rfl); (case u20 => kernel_rfl); (case x20 => kernel_rfl); (case a21 => k_is); (case i21 => k_is)
    (case l21 => k_is); (case o21 => k_is); (case r21 => rfl); (case b21 => kernel_rfl); (case u21 => kernel_rfl); (case x21 => kernel_rfl)
    (case a22 => k_is); (case i22 => k_is); (case l22 => k_is); (case o22 => k_is); (case r22 => rfl); (case b22 => kernel_rfl)
    (case u22 => kernel_rfl); (case x22 => kernel_rfl); (case a23 => k_is); (case i23 => k_is); (case l23 => k_is); (case o23 => k_is)
    (case r23 => rfl); (case b23 => kernel_rfl); (case u23 => kernel_rfl); (case x23 => kernel_rfl); (case a24 => k_is); (case i24 => k_is)
    (case l24 => k_is); (case o24 => k_is); (case r24 => rfl); (case b24 => kernel_rfl); (case u24 => kernel_rfl); (case x24 => kernel_rfl)
    (case a25 => k_is); (case i25 => k_is); (case l25 => k_is); (case o25 => k_is); (case r25 => rfl); (case b25 => kernel_rfl)
    (case u25 => kernel_rfl); (case x25 => kernel_rfl); (case a26 => k_is); (case i26 => k_is); (case l26 => k_is); (case o26 => k_is)
    (case r26 => rfl); (case b26 => kernel_rfl); (case u26 => kernel_rfl); (case x26 => kernel_rfl); (case a27 => k_is); (case i27 => k_is)
    (case l27 => k_is); (case o27 => k_is); (case r27 => rfl); (case b27 => kernel_rfl); (case u27 => kernel_rfl); (case x27 => kernel_rfl)
    (case q16_16 => kernel_rfl); (case q17_16 => kernel_rfl); (case q18_16 => kernel_rfl); (case q19_16 => kernel_rfl); (case q20_16 => kernel_rfl); (case q21_16 => kernel_rfl)
    (case q22_16 => kernel_rfl); (case q23_16 => kernel_rfl); (case q24_16 => kernel_rfl); (case q25_16 => kernel_rfl); (case q26_16 => kernel_rfl); (case q27_16 => kernel_rfl)
    (case q16_17 => kernel_rfl); (case q17_17 => kernel_rfl); (case q18_17 => kernel_rfl); (case q19_17 => kernel_rfl); (case q20_17 => kernel_rfl); (case q21_17 => kernel_rfl)
    (case q22_17 => kernel_rfl); (case q23_17 => kernel_rfl); (case q24_17 => kernel_rfl); (case q25_17 => kernel_rfl); (case q26_17 => kernel_rfl); (case q27_17 => kernel_rfl)
    (case q16_V => kernel_rfl); (case q17_V => kernel_rfl); (case q18_V => kernel_rfl); (case q19_V => kernel_rfl); (case q20_V => kernel_rfl); (case q21_V => kernel_rfl)
    (case q22_V => kernel_rfl); (case q23_V => kernel_rfl); (case q24_V => kernel_rfl); (case q25_V => kernel_rfl); (case q26_V => kernel_rfl); (case q27_V => kernel_rfl)
