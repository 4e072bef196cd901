import PyProof.Rows.All
import Wide.All
import OpenK.AllK
import Wide.FinOn
import HandS.ForMost
import HandS.Exc
import HandS.ExcOwn
import HandS.ExcInit
import HandS.TryMany
import HandS.WordsExc
import HandS.IsInst
import HandS.Wide
import HandS.Style
import HandS.TupAny
import HandS.TupLe
import HandS.Deep
import HandS.FStr
import HandS.SortInts
import HandS.RaiseMore
import HandS.Strs
import HandS.ExcIs
import KE.KExcIs
import HandS.ClsMeth
import HandS.ExcField
import HandS.Walk
import HandS.Iter
import HandS.Text
import HandS.Dict
import HandS.WordsDict
import HandS.Small
import PyProof.Rows.SetFrom
import HandS.SortOrd
import HandS.Set
import PyProof.TupleIter
import PyProof.WalksMore
import KE.KRevSl
import KE.IntTextLaws
import PySem.Challenge.RW_worsttogether_k00_errors_events_and_text
set_option Elab.async false
set_option linter.all false
set_option maxRecDepth 100000
set_option maxHeartbeats 4000000
/-! DLA: a layer of plain data over the hand layer: values as trees of data, what is frozen and what is open, big-step rules over the text. -/
namespace DL
open PySem PySem.Spec PyProof.Rows L2

/-! ### data -/
inductive D where
  | non | bl (b : Bool) | int (i : Int) | str (x : Str)
  | tup (xs : List D) | lst (xs : List D) | rls (xs : List D)
  | raw (v : V)
  | obj (C : Addr) (ns : List Str) (ds : List D)
  | exc (C : Addr) (ns : List Str) (ds : List D)
  | dic (ks : List Key) (ds : List D)

/-- what is frozen (z), and what is left alone (r) -/
structure Fr where
  z : Hp
  r : Hp
def Fr.add (F : Fr) (p : Addr) (o : HO) : Fr := ⟨upd F.z p o, F.r⟩
mutual
def Rep (K : PySem.W.Frag) (F : Fr) : D → V → Prop
  | .non, v => v = .non
  | .bl b, v => v = .bl b
  | .int i, v => v = .int i
  | .str x, v => v = .str x
  | .tup ds, v => ∃ a vs, v = .ref a ∧ SqT K F.z a vs ∧ Reps K F ds vs
  | .lst ds, v => ∃ a vs, v = .ref a ∧ F.z a = some (.lst vs) ∧ Reps K F ds vs
  | .rls ds, v => ∃ a vs, v = .ref a ∧ SqL K F.z a vs ∧ Reps K F ds vs
  | .raw x, v => v = x
  | .obj C ns ds, v => ∃ a dx vs, v = .ref a ∧ F.z a = some (.ins C dx (ns.zip vs)) ∧ ns.length = ds.length ∧ Reps K F ds vs
  | .exc C ns ds, v => ∃ a d vs, v = .ref a ∧ F.z a = some (exo a C (some d)) ∧ F.z d = some (exd d (ns.zip vs)) ∧ ns.length = ds.length ∧ Reps K F ds vs
  | .dic ks ds, v => ∃ a vs, v = .ref a ∧ F.z a = some (.dK (ks.zip vs)) ∧ ks.length = ds.length ∧ Reps K F ds vs
def Reps (K : PySem.W.Frag) (F : Fr) : List D → List V → Prop
  | [], vs => vs = []
  | d :: ds, vs => ∃ v r, vs = v :: r ∧ Rep K F d v ∧ Reps K F ds r
end

def Ext (F F' : Fr) : Prop := (∀ a o, F.z a = some o → F'.z a = some o) ∧ F'.r = F.r
theorem Ext.refl (F : Fr) : Ext F F := ⟨fun _ _ h => h, rfl⟩
theorem Ext.trans {F G H : Fr} (a : Ext F G) (b : Ext G H) : Ext F H := ⟨fun x o h => b.1 x o (a.1 x o h), b.2.trans a.2⟩
theorem Ext.new {F : Fr} {p : Addr} {o : HO} (h : F.z p = none) : Ext F (F.add p o) := ⟨fun a u e => by
  show upd F.z p o a = some u
  rw [upd_ne (ne_of_none e h)]; exact e, rfl⟩
theorem seq_l {K : PySem.W.Frag} {F H : Hp} {a : Addr} {xs : List V} (e : ∀ a o, F a = some o → H a = some o) (h : SqL K F a xs) : SqL K H a xs := Same.seq e h
theorem seq_t {K : PySem.W.Frag} {F F' : Hp} {a : Addr} {xs : List V} (e : ∀ a o, F a = some o → F' a = some o) (h : SqT K F a xs) : SqT K F' a xs := by
  rcases h with (h | ⟨o, h⟩) | h
  · exact .inl (.inl (e _ _ h))
  · exact .inl (.inr ⟨o, e _ _ h⟩)
  · exact .inr h
def Sub (F : Fr) (H : Hp) : Prop := ∀ a o, F.z a = some o → H a = some o
theorem Sub.seqL {K : PySem.W.Frag} {F : Fr} {H : Hp} {a : Addr} {xs : List V} (e : Sub F H) (h : SqL K F.z a xs) : SqL K H a xs := seq_l e h
theorem Sub.seqT {K : PySem.W.Frag} {F : Fr} {H : Hp} {a : Addr} {xs : List V} (e : Sub F H) (h : SqT K F.z a xs) : SqT K H a xs := seq_t e h

section
variable {K : PySem.W.Frag} {F F' : Fr}
mutual
theorem Rep.monoZ (e : ∀ a o, F.z a = some o → F'.z a = some o) : ∀ (d : D) (v : V), Rep K F d v → Rep K F' d v
  | .non, _, h => h
  | .bl _, _, h => h
  | .int _, _, h => h
  | .str _, _, h => h
  | .raw _, _, h => h
  | .tup ds, v, h => by
    obtain ⟨a, vs, h1, h2, h3⟩ := h
    exact ⟨a, vs, h1, seq_t e h2, Reps.monoZ e ds vs h3⟩
  | .lst ds, v, h => by
    obtain ⟨a, vs, h1, h2, h3⟩ := h
    exact ⟨a, vs, h1, e _ _ h2, Reps.monoZ e ds vs h3⟩
  | .rls ds, v, h => by
    obtain ⟨a, vs, h1, h2, h3⟩ := h
    exact ⟨a, vs, h1, seq_l e h2, Reps.monoZ e ds vs h3⟩
  | .obj C ns ds, v, h => by
    obtain ⟨a, dx, vs, h1, h2, h3, h4⟩ := h
    exact ⟨a, dx, vs, h1, e _ _ h2, h3, Reps.monoZ e ds vs h4⟩
  | .exc C ns ds, v, h => by
    obtain ⟨a, d, vs, h1, h2, h3, h4, h5⟩ := h
    exact ⟨a, d, vs, h1, e _ _ h2, e _ _ h3, h4, Reps.monoZ e ds vs h5⟩
  | .dic ks ds, v, h => by
    obtain ⟨a, vs, h1, h2, h3, h4⟩ := h
    exact ⟨a, vs, h1, e _ _ h2, h3, Reps.monoZ e ds vs h4⟩
theorem Reps.monoZ (e : ∀ a o, F.z a = some o → F'.z a = some o) : ∀ (ds : List D) (vs : List V), Reps K F ds vs → Reps K F' ds vs
  | [], _, h => h
  | d :: ds, vs, h => by
    obtain ⟨v, r, h1, h2, h3⟩ := h
    exact ⟨v, r, h1, Rep.monoZ e d v h2, Reps.monoZ e ds r h3⟩
end
theorem Rep.mono (e : Ext F F') (d : D) (v : V) (h : Rep K F d v) : Rep K F' d v := Rep.monoZ e.1 d v h
theorem Reps.mono (e : Ext F F') (ds : List D) (vs : List V) (h : Reps K F ds vs) : Reps K F' ds vs := Reps.monoZ e.1 ds vs h
theorem Reps.length : ∀ {ds : List D} {vs : List V}, Reps K F ds vs → ds.length = vs.length
  | [], vs, h => by cases (show vs = [] from h); rfl
  | d :: ds, vs, h => by
    obtain ⟨v, r, rfl, _, h3⟩ := h
    simp [Reps.length h3]
theorem Reps.nil : Reps K F [] [] := rfl
theorem Reps.cons {d : D} {v : V} {ds : List D} {vs : List V} (h : Rep K F d v) (t : Reps K F ds vs) : Reps K F (d :: ds) (v :: vs) := ⟨v, vs, rfl, h, t⟩
theorem Reps.append : ∀ {ds es : List D} {vs ws : List V}, Reps K F ds vs → Reps K F es ws → Reps K F (ds ++ es) (vs ++ ws)
  | [], _, vs, _, h, t => by cases (show vs = [] from h); exact t
  | d :: ds, es, vs, ws, h, t => by
    obtain ⟨v, r, rfl, h2, h3⟩ := h
    exact ⟨v, r ++ ws, rfl, h2, Reps.append h3 t⟩
theorem Reps.get : ∀ {ds : List D} {vs : List V} {i : Nat} {d : D}, Reps K F ds vs → ds[i]? = some d → ∃ v, vs[i]? = some v ∧ Rep K F d v
  | [], _, _, _, _, e => by simp at e
  | d :: ds, vs, 0, x, h, e => by
    obtain ⟨v, r, rfl, h2, _⟩ := h
    simp at e; subst e
    exact ⟨v, rfl, h2⟩
  | d :: ds, vs, i + 1, x, h, e => by
    obtain ⟨v, r, rfl, _, h3⟩ := h
    obtain ⟨w, q1, q2⟩ := Reps.get (i := i) h3 (by simpa using e)
    exact ⟨w, by simpa using q1, q2⟩
theorem Reps.back : ∀ {ds : List D} {vs : List V} {i : Nat} {v : V}, Reps K F ds vs → vs[i]? = some v → ∃ d, ds[i]? = some d ∧ Rep K F d v
  | [], vs, _, _, h, e => by cases (show vs = [] from h); simp at e
  | d :: ds, vs, 0, x, h, e => by
    obtain ⟨v, r, rfl, h2, _⟩ := h
    simp at e; subst e
    exact ⟨d, rfl, h2⟩
  | d :: ds, vs, i + 1, x, h, e => by
    obtain ⟨v, r, rfl, _, h3⟩ := h
    obtain ⟨w, q1, q2⟩ := Reps.back (i := i) h3 (by simpa using e)
    exact ⟨w, by simpa using q1, q2⟩
theorem Reps.set : ∀ {ds : List D} {vs : List V} {d : D} {v : V} (i : Nat), Reps K F ds vs → Rep K F d v → Reps K F (ds.set i d) (vs.set i v)
  | [], vs, _, _, _, h, _ => by cases (show vs = [] from h); exact rfl
  | d :: ds, vs, _, _, 0, h, q => by
    obtain ⟨v, r, rfl, h2, h3⟩ := h
    exact ⟨_, _, rfl, q, h3⟩
  | d :: ds, vs, _, _, i + 1, h, q => by
    obtain ⟨v, r, rfl, h2, h3⟩ := h
    exact ⟨_, _, rfl, h2, Reps.set i h3 q⟩
theorem Reps.take : ∀ {ds : List D} {vs : List V} (n : Nat), Reps K F ds vs → Reps K F (ds.take n) (vs.take n)
  | _, _, 0, _ => rfl
  | [], vs, n + 1, h => by cases (show vs = [] from h); exact rfl
  | d :: ds, vs, n + 1, h => by
    obtain ⟨v, r, rfl, h2, h3⟩ := h
    exact ⟨_, _, rfl, h2, Reps.take n h3⟩
theorem Reps.drop : ∀ {ds : List D} {vs : List V} (n : Nat), Reps K F ds vs → Reps K F (ds.drop n) (vs.drop n)
  | _, _, 0, h => h
  | [], vs, n + 1, h => by cases (show vs = [] from h); exact rfl
  | d :: ds, vs, n + 1, h => by
    obtain ⟨v, r, rfl, h2, h3⟩ := h
    exact Reps.drop n h3
theorem Reps.ints : ∀ {ns : List Int}, Reps K F (ns.map D.int) (ns.map V.int)
  | [] => rfl
  | n :: ns => ⟨_, _, rfl, rfl, Reps.ints⟩
end

/-! ### what is open -/
inductive OO where
  | lst (ds : List D)
  | dic (ks : List Key) (ds : List D)
  | ins (C : Addr) (ns : List Str) (ds : List D)
  | exo (a C : Addr) (d : Option Addr)
  | exd (d : Addr) (ns : List Str) (ds : List D)
abbrev Opens := Addr → Option OO
def Opens.up (O : Opens) (a : Addr) (o : OO) : Opens := fun b => if b = a then some o else O b
theorem Opens.up_same {O : Opens} {a : Addr} {o : OO} : O.up a o a = some o := if_pos rfl
theorem Opens.up_ne {O : Opens} {a b : Addr} {o : OO} (h : b ≠ a) : O.up a o b = O b := if_neg h
theorem Opens.up_up {O : Opens} {a : Addr} {o u : OO} : (O.up a o).up a u = O.up a u := by
  funext b; unfold Opens.up; split <;> rfl
def Opens.none : Opens := fun _ => Option.none
def RepO (K : PySem.W.Frag) (F : Fr) : OO → HO → Prop
  | .lst ds, ho => ∃ vs, ho = .lst vs ∧ Reps K F ds vs
  | .dic ks ds, ho => ∃ vs, ho = .dK (ks.zip vs) ∧ ks.length = ds.length ∧ Reps K F ds vs
  | .ins C ns ds, ho => ∃ dx vs, ho = .ins C dx (ns.zip vs) ∧ ns.length = ds.length ∧ Reps K F ds vs
  | .exo a C d, ho => ho = L2.exo a C d
  | .exd d ns ds, ho => ∃ vs, ho = L2.exd d (ns.zip vs) ∧ ns.length = ds.length ∧ Reps K F ds vs
theorem RepO.monoZ {K : PySem.W.Frag} {F F' : Fr} (e : ∀ a o, F.z a = some o → F'.z a = some o) : ∀ {o : OO} {ho : HO}, RepO K F o ho → RepO K F' o ho
  | .lst ds, ho, ⟨vs, h1, h2⟩ => ⟨vs, h1, Reps.monoZ e _ _ h2⟩
  | .dic ks ds, ho, ⟨vs, h1, h2, h3⟩ => ⟨vs, h1, h2, Reps.monoZ e _ _ h3⟩
  | .ins C ns ds, ho, ⟨dx, vs, h1, h2, h3⟩ => ⟨dx, vs, h1, h2, Reps.monoZ e _ _ h3⟩
  | .exo _ _ _, _, h => h
  | .exd _ _ _, _, ⟨vs, h1, h2, h3⟩ => ⟨vs, h1, h2, Reps.monoZ e _ _ h3⟩
theorem RepO.mono {K : PySem.W.Frag} {F F' : Fr} (e : Ext F F') {o : OO} {ho : HO} (h : RepO K F o ho) : RepO K F' o ho := RepO.monoZ e.1 h
/-- the abstract heap H holds what is frozen, what is open, what is left alone -/
structure Stt (K : PySem.W.Frag) (F : Fr) (O : Opens) (H : Hp) : Prop where
  ext : Sub F H
  opn : ∀ a o, O a = some o → F.z a = none ∧ ∃ ho, H a = some ho ∧ RepO K F o ho
  rst : ∀ a o, F.r a = some o → F.z a = none ∧ O a = none ∧ H a = some o
section
variable {K : PySem.W.Frag} {F : Fr} {H : Hp} {O : Opens} {p : Addr} {o : HO}
theorem Stt.fresh (S : Stt K F O H) (h : H p = none) : F.z p = none := by
  cases q : F.z p with
  | none => rfl
  | some u => rw [S.ext p u q] at h; cases h
theorem Stt.closed (S : Stt K F O H) (h : H p = none) : O p = none := by
  cases q : O p with
  | none => rfl
  | some u =>
    obtain ⟨_, ho, e, _⟩ := S.opn p u q
    rw [e] at h; cases h
theorem sub_up {F : Fr} {H : Hp} {p : Addr} {o : HO} (e : Sub F H) (h : F.z p = none) : Sub F (upd H p o) := fun a u q => by
  rw [upd_ne (ne_of_none q h)]; exact e a u q
theorem sub_both {F : Fr} {H : Hp} {p : Addr} {o : HO} (e : Sub F H) : Sub (F.add p o) (upd H p o) := fun a u q => by
  have q : upd F.z p o a = some u := q
  by_cases ha : a = p
  · subst ha; rw [upd_same] at q ⊢; exact q
  · rw [upd_ne ha] at q ⊢; exact e a u q
/-- a new object, frozen at once -/
theorem Stt.freeze (S : Stt K F O H) (h : H p = none) : Stt K (F.add p o) O (upd H p o) :=
  ⟨sub_both S.ext, fun a u e => by
    obtain ⟨h1, ho, h2, h3⟩ := S.opn a u e
    have ne : a ≠ p := ne_of_none h2 h
    exact ⟨by show upd F.z p o a = none; rw [upd_ne ne]; exact h1, ho, by rw [upd_ne ne]; exact h2, h3.mono (Ext.new (S.fresh h))⟩,
   fun a u e => by
    obtain ⟨h1, h2, h3⟩ := S.rst a u e
    have ne : a ≠ p := ne_of_none h3 h
    exact ⟨by show upd F.z p o a = none; rw [upd_ne ne]; exact h1, h2, by rw [upd_ne ne]; exact h3⟩⟩
/-- a new object, left open -/
theorem Stt.open_ {u : OO} (S : Stt K F O H) (h : H p = none) (r : RepO K F u o) : Stt K F (O.up p u) (upd H p o) :=
  ⟨sub_up S.ext (S.fresh h), fun a w e => by
    by_cases ha : a = p
    · subst ha
      rw [Opens.up_same] at e; cases e
      exact ⟨S.fresh h, o, upd_same, r⟩
    · rw [Opens.up_ne ha] at e
      obtain ⟨h1, ho, h2, h3⟩ := S.opn a w e
      exact ⟨h1, ho, by rw [upd_ne ha]; exact h2, h3⟩,
   fun a w e => by
    obtain ⟨h1, h2, h3⟩ := S.rst a w e
    have ne : a ≠ p := ne_of_none h3 h
    exact ⟨h1, by rw [Opens.up_ne ne]; exact h2, by rw [upd_ne ne]; exact h3⟩⟩
/-- an open object is changed -/
theorem Stt.change {u w : OO} (S : Stt K F O H) (h : O p = some w) (r : RepO K F u o) : Stt K F (O.up p u) (upd H p o) :=
  ⟨sub_up S.ext (S.opn p w h).1, fun a v e => by
    by_cases ha : a = p
    · subst ha
      rw [Opens.up_same] at e; cases e
      exact ⟨(S.opn a w h).1, o, upd_same, r⟩
    · rw [Opens.up_ne ha] at e
      obtain ⟨h1, ho, h2, h3⟩ := S.opn a v e
      exact ⟨h1, ho, by rw [upd_ne ha]; exact h2, h3⟩,
   fun a w' e => by
    obtain ⟨h1, h2, h3⟩ := S.rst a w' e
    have ne : a ≠ p := fun z => by subst z; rw [h2] at h; cases h
    exact ⟨h1, by rw [Opens.up_ne ne]; exact h2, by rw [upd_ne ne]; exact h3⟩⟩
/-- an untracked-by-us object comes -/
theorem Stt.grow {H' : Hp} (S : Stt K F O H) (e : ∀ a o, H a = some o → H' a = some o) : Stt K F O H' :=
  ⟨fun a o q => e a o (S.ext a o q), fun a u q => by
    obtain ⟨h1, ho, h2, h3⟩ := S.opn a u q
    exact ⟨h1, ho, e _ _ h2, h3⟩, fun a u q => by
    obtain ⟨h1, h2, h3⟩ := S.rst a u q
    exact ⟨h1, h2, e _ _ h3⟩⟩
/-- some open things are left alone for a while -/
theorem Stt.hide {O₁ : Opens} {R : Hp} (S : Stt K F O H) (h1 : ∀ a o, O₁ a = some o → O a = some o) (h2 : ∀ a o, R a = some o → (F.r a = some o ∨ ((O a).isSome = true ∧ O₁ a = none ∧ H a = some o))) : Stt K ⟨F.z, R⟩ O₁ H := by
  refine ⟨S.ext, fun a o e => ?_, fun a o e => ?_⟩
  · obtain ⟨q1, ho, q2, q3⟩ := S.opn a o (h1 a o e)
    exact ⟨q1, ho, q2, RepO.monoZ (F := F) (F' := ⟨F.z, R⟩) (fun _ _ z => z) q3⟩
  · rcases h2 a o e with q | ⟨q1, q2, q3⟩
    · obtain ⟨g1, g2, g3⟩ := S.rst a o q
      refine ⟨g1, ?_, g3⟩
      cases w : O₁ a with
      | none => rfl
      | some u => rw [h1 a u w] at g2; cases g2
    · obtain ⟨u, hu⟩ := Option.isSome_iff_exists.mp q1
      exact ⟨(S.opn a u hu).1, q2, q3⟩
theorem Stt.list (S : Stt K F O H) {a : Addr} {ds : List D} (h : O a = some (.lst ds)) : ∃ vs, H a = some (.lst vs) ∧ Reps K F ds vs := by
  obtain ⟨_, ho, h2, vs, rfl, h3⟩ := S.opn a _ h
  exact ⟨vs, h2, h3⟩
end

/-! ### the slots -/
abbrev Env' := List (Option D)
structure EnvR (K : PySem.W.Frag) (F : Fr) (ρ : Env') (σ : L2.St) : Prop where
  len : σ.length = ρ.length
  get : ∀ (i : Nat) (d : D), ρ[i]? = some (some d) → ∃ v, σ[i]? = some (some v) ∧ Rep K F d v
theorem EnvR.mono {K : PySem.W.Frag} {F F' : Fr} {ρ : Env'} {σ : L2.St} (e : Ext F F') (h : EnvR K F ρ σ) : EnvR K F' ρ σ :=
  ⟨h.len, fun i d q => by obtain ⟨v, h1, h2⟩ := h.get i d q; exact ⟨v, h1, h2.mono e⟩⟩
theorem EnvR.set {K : PySem.W.Frag} {F : Fr} {ρ : Env'} {σ : L2.St} (h : EnvR K F ρ σ) (i : Nat) {d : D} {v : V} (r : Rep K F d v) : EnvR K F (ρ.set i (some d)) (σ.set i (some v)) :=
  ⟨by rw [List.length_set, List.length_set, h.len], fun j e q => by
    by_cases hj : j = i
    · subst hj
      have hl : j < ρ.length := by
        have := (List.getElem?_eq_some_iff.mp q).1
        simpa using this
      rw [List.getElem?_set_self hl] at q
      cases q
      exact ⟨v, List.getElem?_set_self (by rw [h.len]; exact hl), r⟩
    · rw [List.getElem?_set_ne (Ne.symm hj)] at q
      obtain ⟨w, h1, h2⟩ := h.get j e q
      exact ⟨w, by rw [List.getElem?_set_ne (Ne.symm hj)]; exact h1, h2⟩⟩
/-- forget a slot -/
theorem EnvR.forget {K : PySem.W.Frag} {F : Fr} {ρ : Env'} {σ : L2.St} (h : EnvR K F ρ σ) (i : Nat) (x : Option V) : EnvR K F (ρ.set i none) (σ.set i x) :=
  ⟨by rw [List.length_set, List.length_set, h.len], fun j e q => by
    by_cases hj : j = i
    · subst hj
      have hl : j < ρ.length := by
        have := (List.getElem?_eq_some_iff.mp q).1
        simpa using this
      rw [List.getElem?_set_self hl] at q
      cases q
    · rw [List.getElem?_set_ne (Ne.symm hj)] at q
      obtain ⟨w, h1, h2⟩ := h.get j e q
      exact ⟨w, by rw [List.getElem?_set_ne (Ne.symm hj)]; exact h1, h2⟩⟩
theorem EnvR.weaken {K : PySem.W.Frag} {F : Fr} {ρ ρ' : Env'} {σ : L2.St} (h : EnvR K F ρ σ) (hl : ρ'.length = ρ.length) (w : ∀ (i : Nat) (d : D), ρ'[i]? = some (some d) → ρ[i]? = some (some d)) : EnvR K F ρ' σ :=
  ⟨h.len.trans hl.symm, fun i d q => h.get i d (w i d q)⟩

/-! ### where code runs -/
structure Mo where
  P : Program
  w : World
  K : PySem.W.Frag
  mg : Str → Option Value
  base : Heap
/-- an exception, as data: its class, its fields -/
structure XD where
  cls : Addr
  ns : List Str
  ds : List D
def RepX (K : PySem.W.Frag) (F : Fr) (x : XD) (cls : Value) (d : Option Addr) : Prop :=
  cls = .ref x.cls ∧ x.ns.length = x.ds.length ∧ (x.ns = [] ∨ ∃ da vs, d = some da ∧ F.z da = some (.xd (x.ns.zip vs)) ∧ Reps K F x.ds vs)
structure G where
  M : Mo
  N : List Str
  sc : Scope
  ss : Scope
  k : Nat
  hot : Bool
  top : Bool
  F0 : Fr
  E : XD → Env' → Opens → Prop
  pin : Addr → Value → Option Addr → Prop
def G.W (Γ : G) : WX := fun cls d σ H => ∃ (x : XD) (ρ : Env') (F : Fr) (O : Opens), Ext Γ.F0 F ∧ Stt Γ.M.K F O H ∧ EnvR Γ.M.K F ρ σ ∧ RepX Γ.M.K F x cls d ∧ Γ.E x ρ O
structure G.Has (Γ : G) (X : Cx) : Prop where
  M : Γ.M = ⟨X.prog, X.w, X.K, X.mg, X.base⟩
  N : X.N = Γ.N
  nd : Γ.N.Nodup
  sc : X.env.scope = Γ.sc
  calm : Γ.hot = false → X.calm = true
  room : Γ.hot = false → Room Γ.k X.A
  units : X.A.units + 100 < cLine
  fn : ∀ x : Str, Loc Γ.ss x → Loc X.env.scope x ∧ (X.fn x = true ∨ X.env.scope.names.lookup x = some .local)
  takes : Takes X Γ.W
  passes : PassesOwn (model X.prog X.w) X.A X.env X.xe
  stk : Γ.top = true → X.stack = X.env :: X.outer ∧ X.env.frame = some X.env.locals
  pin : ∀ a cls d, Γ.pin a cls d → ∃ oe, Zc cls d oe ∧ (∃ vs, oe.data = .fields vs) ∧ (a, oe) ∈ X.pn

def Ev (Γ : G) (e : Expr) (σ : L2.St) (H : Hp) (Q : VK) : Prop := ∀ X, Γ.Has X → ∀ pins s, Inv X pins σ H s → wpAny (model X.prog X.w) X.A (eval e X.env) (EP X pins σ Q) X.xe s
theorem Ev.pe {Γ : G} {X : Cx} (h : Γ.Has X) (e : Expr) : PE X e (Ev Γ e) := ⟨fun pins s σ H Q I q => q X h pins s I⟩
def EvT (Γ : G) (e : Expr) (σ : L2.St) (H : Hp) (Q : Bool → Hp → Prop) : Prop := ∀ X, Γ.Has X → ∀ pins s, Inv X pins σ H s → wpAny (model X.prog X.w) X.A (isTrue e X.env (eval e X.env)) (TP X pins σ Q) X.xe s
theorem EvT.pt {Γ : G} {X : Cx} (h : Γ.Has X) (e : Expr) : PT X e (EvT Γ e) := ⟨fun pins s σ H Q I q => q X h pins s I⟩
def EvA (Γ : G) (es : List Expr) (σ : L2.St) (H : Hp) (Q : List V → Hp → Prop) : Prop := ∀ X, Γ.Has X → ∀ pos pins s, Inv X pins σ H s → wpAny (model X.prog X.w) X.A (spliced (backTo pos (starEach es X.env))) (AP X pins σ Q) X.xe s
theorem EvA.pa {Γ : G} {X : Cx} (h : Γ.Has X) (es : List Expr) : PA X es (EvA Γ es) := ⟨fun pos pins s σ H Q I q => q X h pos pins s I⟩
def EvS (Γ : G) (st : Stmt) (D : Ends) (σ : L2.St) (H : Hp) : Prop := ∀ X, Γ.Has X → ∀ pins s, Inv X pins σ H s → wpAny (model X.prog X.w) X.A (exec st X.env) (SP X pins D) X.xe s
theorem EvS.ps {Γ : G} {X : Cx} (h : Γ.Has X) (st : Stmt) : PS X st (EvS Γ st) := ⟨fun pins s σ H D I q => q X h pins s I⟩
def EvSs (Γ : G) (st : List Stmt) (D : Ends) (σ : L2.St) (H : Hp) : Prop := ∀ X, Γ.Has X → ∀ pins s, Inv X pins σ H s → wpAny (model X.prog X.w) X.A (execs st X.env) (SP X pins D) X.xe s
theorem EvSs.pss {Γ : G} {X : Cx} (h : Γ.Has X) (st : List Stmt) : PSs X st (EvSs Γ st) := ⟨fun pins s σ H D I q => q X h pins s I⟩

/-! ### the judgements over data -/
abbrev DK := D → Opens → Prop
/-- what a value's wish is, from what is wished of data -/
def KV' (Γ : G) (F : Fr) (Q : DK) : VK := fun v H' => ∃ d F' O', Ext F F' ∧ Stt Γ.M.K F' O' H' ∧ Rep Γ.M.K F' d v ∧ Q d O'
def We (Γ : G) (e : Expr) (ρ : Env') (O : Opens) (Q : DK) : Prop :=
  ∀ F σ H, Ext Γ.F0 F → Stt Γ.M.K F O H → EnvR Γ.M.K F ρ σ → Ev Γ e σ H (KV' Γ F Q)
def WT (Γ : G) (e : Expr) (ρ : Env') (O : Opens) (Q : Bool → Opens → Prop) : Prop :=
  ∀ F σ H, Ext Γ.F0 F → Stt Γ.M.K F O H → EnvR Γ.M.K F ρ σ → EvT Γ e σ H fun b H' => ∃ F' O', Ext F F' ∧ Stt Γ.M.K F' O' H' ∧ Q b O'
def WA (Γ : G) (es : List Expr) (ρ : Env') (O : Opens) (Q : List D → Opens → Prop) : Prop :=
  ∀ F σ H, Ext Γ.F0 F → Stt Γ.M.K F O H → EnvR Γ.M.K F ρ σ → EvA Γ es σ H fun vs H' => ∃ ds F' O', Ext F F' ∧ Stt Γ.M.K F' O' H' ∧ Reps Γ.M.K F' ds vs ∧ Q ds O'
structure EndsD where
  nx : Env' → Opens → Prop
  rt : DK
  bk : Env' → Opens → Prop := fun _ _ => False
  ct : Env' → Opens → Prop := fun _ _ => False
def KS (Γ : G) (F : Fr) (Q : Env' → Opens → Prop) : L2.St → Hp → Prop := fun σ' H' => ∃ ρ' F' O', Ext F F' ∧ Stt Γ.M.K F' O' H' ∧ EnvR Γ.M.K F' ρ' σ' ∧ Q ρ' O'
def KE' (Γ : G) (F : Fr) (Z : EndsD) : Ends := ⟨KS Γ F Z.nx, KV' Γ F Z.rt, KS Γ F Z.bk, KS Γ F Z.ct⟩
def WS (Γ : G) (st : Stmt) (ρ : Env') (O : Opens) (Z : EndsD) : Prop :=
  ∀ F σ H, Ext Γ.F0 F → Stt Γ.M.K F O H → EnvR Γ.M.K F ρ σ → EvS Γ st (KE' Γ F Z) σ H
def WSs (Γ : G) (st : List Stmt) (ρ : Env') (O : Opens) (Z : EndsD) : Prop :=
  ∀ F σ H, Ext Γ.F0 F → Stt Γ.M.K F O H → EnvR Γ.M.K F ρ σ → EvSs Γ st (KE' Γ F Z) σ H

/-! ### weakening -/
theorem KV'.mono {Γ : G} {F F' : Fr} {Q Q' : DK} (e : Ext F F') (h : ∀ d O, Q d O → Q' d O) {v : V} {H : Hp} (k : KV' Γ F' Q v H) : KV' Γ F Q' v H := by
  obtain ⟨d, F2, O2, e2, s2, r2, q2⟩ := k
  exact ⟨d, F2, O2, e.trans e2, s2, r2, h _ _ q2⟩
theorem KS.mono {Γ : G} {F F' : Fr} {Q Q' : Env' → Opens → Prop} (e : Ext F F') (h : ∀ d O, Q d O → Q' d O) {σ : L2.St} {H : Hp} (k : KS Γ F' Q σ H) : KS Γ F Q' σ H := by
  obtain ⟨d, F2, O2, e2, s2, r2, q2⟩ := k
  exact ⟨d, F2, O2, e.trans e2, s2, r2, h _ _ q2⟩
theorem EP.mono {X : Cx} {pins : List (Addr × Obj)} {σ : L2.St} {Q Q' : VK} (h : ∀ v H, Q v H → Q' v H) {u : Value} {s : Shared} (k : EP X pins σ Q u s) : EP X pins σ Q' u s := by
  obtain ⟨v, H, I, r, q⟩ := k
  exact ⟨v, H, I, r, h _ _ q⟩
theorem SP.mono {X : Cx} {pins : List (Addr × Obj)} {D D' : Ends} (h1 : ∀ σ H, D.nx σ H → D'.nx σ H) (h2 : ∀ v H, D.rt v H → D'.rt v H) (h3 : ∀ σ H, D.bk σ H → D'.bk σ H) (h4 : ∀ σ H, D.ct σ H → D'.ct σ H)
    {f : Flow} {s : Shared} (k : SP X pins D f s) : SP X pins D' f s := by
  cases f with
  | next => obtain ⟨σ, H, I, q⟩ := k; exact ⟨σ, H, I, h1 _ _ q⟩
  | brk => obtain ⟨σ, H, I, q⟩ := k; exact ⟨σ, H, I, h3 _ _ q⟩
  | cont => obtain ⟨σ, H, I, q⟩ := k; exact ⟨σ, H, I, h4 _ _ q⟩
  | ret u => obtain ⟨v, σ, H, I, r, q⟩ := k; exact ⟨v, σ, H, I, r, h2 _ _ q⟩
section
variable {Γ : G} {e : Expr} {ρ : Env'} {O : Opens} {F F' : Fr} {σ : L2.St} {H : Hp}
/-- run a part from a later frozen heap, its wish told from an earlier one -/
theorem We.at {Q Q' : DK} (h : We Γ e ρ O Q) (e0 : Ext Γ.F0 F) (e1 : Ext F F') (s : Stt Γ.M.K F' O H) (r : EnvR Γ.M.K F' ρ σ) (m : ∀ d O, Q d O → Q' d O) : Ev Γ e σ H (KV' Γ F Q') := fun X hX pins st I =>
  thn (h F' σ H (e0.trans e1) s r X hX pins st I) fun u s' k => EP.mono (fun v H q => KV'.mono e1 m q) k
theorem We.imp {Q Q' : DK} (h : We Γ e ρ O Q) (m : ∀ d O, Q d O → Q' d O) : We Γ e ρ O Q' := fun F σ H e0 s r => h.at e0 (Ext.refl F) s r m
theorem WT.imp {Q Q' : Bool → Opens → Prop} (h : WT Γ e ρ O Q) (m : ∀ d O, Q d O → Q' d O) : WT Γ e ρ O Q' := fun F σ H e0 s r X hX pins st I =>
  thn (h F σ H e0 s r X hX pins st I) fun b s' k => by
    obtain ⟨H', I', F', O', e1, s1, q⟩ := k
    exact ⟨H', I', F', O', e1, s1, m _ _ q⟩
theorem WS.imp {st : Stmt} {Z Z' : EndsD} (h : WS Γ st ρ O Z) (h1 : ∀ ρ O, Z.nx ρ O → Z'.nx ρ O) (h2 : ∀ v H, Z.rt v H → Z'.rt v H) (h3 : ∀ ρ O, Z.bk ρ O → Z'.bk ρ O) (h4 : ∀ ρ O, Z.ct ρ O → Z'.ct ρ O) : WS Γ st ρ O Z' := fun F σ H e0 s r X hX pins st I =>
  thn (h F σ H e0 s r X hX pins st I) fun u s' k => SP.mono (fun _ _ q => KS.mono (Ext.refl F) h1 q) (fun _ _ q => KV'.mono (Ext.refl F) h2 q) (fun _ _ q => KS.mono (Ext.refl F) h3 q) (fun _ _ q => KS.mono (Ext.refl F) h4 q) k
theorem WSs.imp {st : List Stmt} {Z Z' : EndsD} (h : WSs Γ st ρ O Z) (h1 : ∀ ρ O, Z.nx ρ O → Z'.nx ρ O) (h2 : ∀ v H, Z.rt v H → Z'.rt v H) (h3 : ∀ ρ O, Z.bk ρ O → Z'.bk ρ O) (h4 : ∀ ρ O, Z.ct ρ O → Z'.ct ρ O) : WSs Γ st ρ O Z' := fun F σ H e0 s r X hX pins st I =>
  thn (h F σ H e0 s r X hX pins st I) fun u s' k => SP.mono (fun _ _ q => KS.mono (Ext.refl F) h1 q) (fun _ _ q => KV'.mono (Ext.refl F) h2 q) (fun _ _ q => KS.mono (Ext.refl F) h3 q) (fun _ _ q => KS.mono (Ext.refl F) h4 q) k
end
end DL

/-! DLB: rules: names, constants, operators, comparisons, tests, displays, small statements. -/
namespace DL
open PySem PySem.Spec PyProof.Rows L2

section
variable {K : PySem.W.Frag} {F : Fr}
theorem rep_int {i : Int} : Rep K F (.int i) (.int i) := rfl
theorem rep_bl {i : Bool} : Rep K F (.bl i) (.bl i) := rfl
theorem rep_str {i : Str} : Rep K F (.str i) (.str i) := rfl
theorem rep_non : Rep K F .non .non := rfl
theorem rep_raw {v : V} : Rep K F (.raw v) v := rfl
theorem rep_tup {a : Addr} {vs : List V} {ds : List D} (h : SqT K F.z a vs) (r : Reps K F ds vs) : Rep K F (.tup ds) (.ref a) := ⟨a, vs, rfl, h, r⟩
theorem rep_lst {a : Addr} {vs : List V} {ds : List D} (h : F.z a = some (.lst vs)) (r : Reps K F ds vs) : Rep K F (.lst ds) (.ref a) := ⟨a, vs, rfl, h, r⟩
theorem rep_rls {a : Addr} {vs : List V} {ds : List D} (h : SqL K F.z a vs) (r : Reps K F ds vs) : Rep K F (.rls ds) (.ref a) := ⟨a, vs, rfl, h, r⟩
end
section
variable {Γ : G} {ρ : Env'} {O : Opens} {Q : DK} {σ : L2.St} {H : Hp} {F : Fr}
theorem Ev.mono {e : Expr} {Q Q' : VK} (h : Ev Γ e σ H Q) (m : ∀ v H, Q v H → Q' v H) : Ev Γ e σ H Q' := fun X hX pins st I => thn (h X hX pins st I) fun _ _ k => EP.mono m k
theorem EvT.mono {e : Expr} {Q Q' : Bool → Hp → Prop} (h : EvT Γ e σ H Q) (m : ∀ v H, Q v H → Q' v H) : EvT Γ e σ H Q' := fun X hX pins st I => thn (h X hX pins st I) fun _ _ ⟨H1, I1, q⟩ => ⟨H1, I1, m _ _ q⟩
theorem EvA.mono {e : List Expr} {Q Q' : List V → Hp → Prop} (h : EvA Γ e σ H Q) (m : ∀ v H, Q v H → Q' v H) : EvA Γ e σ H Q' := fun X hX pos pins st I => thn (h X hX pos pins st I) fun _ _ ⟨vs, H1, I1, r, q⟩ => ⟨vs, H1, I1, r, m _ _ q⟩
theorem EvS.mono {e : Stmt} {D D' : Ends} (h : EvS Γ e D σ H) (h1 : ∀ σ H, D.nx σ H → D'.nx σ H) (h2 : ∀ v H, D.rt v H → D'.rt v H) (h3 : ∀ σ H, D.bk σ H → D'.bk σ H) (h4 : ∀ σ H, D.ct σ H → D'.ct σ H) : EvS Γ e D' σ H :=
  fun X hX pins st I => thn (h X hX pins st I) fun _ _ k => SP.mono h1 h2 h3 h4 k
theorem EvSs.mono {e : List Stmt} {D D' : Ends} (h : EvSs Γ e D σ H) (h1 : ∀ σ H, D.nx σ H → D'.nx σ H) (h2 : ∀ v H, D.rt v H → D'.rt v H) (h3 : ∀ σ H, D.bk σ H → D'.bk σ H) (h4 : ∀ σ H, D.ct σ H → D'.ct σ H) : EvSs Γ e D' σ H :=
  fun X hX pins st I => thn (h X hX pins st I) fun _ _ k => SP.mono h1 h2 h3 h4 k
/-- a wish met at once -/
theorem kv {d : D} {v : V} (s : Stt Γ.M.K F O H) (r : Rep Γ.M.K F d v) (q : Q d O) : KV' Γ F Q v H := ⟨d, F, O, Ext.refl F, s, r, q⟩
theorem kv1 {F' : Fr} {d : D} {v : V} (e : Ext F F') (s : Stt Γ.M.K F' O H) (r : Rep Γ.M.K F' d v) (q : Q d O) : KV' Γ F Q v H := ⟨d, F', O, e, s, r, q⟩
/-- a new tuple, a new list: frozen -/
theorem kv_tup {ds : List D} {vs : List V} {p : Addr} (s : Stt Γ.M.K F O H) (hp : H p = none) (r : Reps Γ.M.K F ds vs) (q : Q (.tup ds) O) : KV' Γ F Q (.ref p) (upd H p (.tup vs)) :=
  ⟨_, F.add p (.tup vs), O, Ext.new (s.fresh hp), s.freeze hp, rep_tup (SqT.of upd_same) (r.mono (Ext.new (s.fresh hp))), q⟩
theorem kv_lst {ds : List D} {vs : List V} {p : Addr} (s : Stt Γ.M.K F O H) (hp : H p = none) (r : Reps Γ.M.K F ds vs) (q : Q (.lst ds) O) : KV' Γ F Q (.ref p) (upd H p (.lst vs)) :=
  ⟨_, F.add p (.lst vs), O, Ext.new (s.fresh hp), s.freeze hp, rep_lst upd_same (r.mono (Ext.new (s.fresh hp))), q⟩
/-- a new list, left open -/
theorem kv_opn {ds : List D} {vs : List V} {p : Addr} (s : Stt Γ.M.K F O H) (hp : H p = none) (r : Reps Γ.M.K F ds vs) (q : ∀ p, O p = none → Q (.raw (.ref p)) (O.up p (.lst ds))) : KV' Γ F Q (.ref p) (upd H p (.lst vs)) :=
  ⟨_, F, O.up p (.lst ds), Ext.refl F, s.open_ hp ⟨vs, rfl, r⟩, rep_raw, q p (s.closed hp)⟩

/-! ### names, constants -/
theorem we_name {i : Nat} {x : Str} {pos : Pos} {d : D} (hN : Γ.N[i]? = some x) (hv : Vis Γ.sc x) (hd : ρ[i]? = some (some d)) (h : Q d O)
    (h1 : (x == ("__debug__" : Str)) = false := by decide) (h2 : (x == ("__classdict__" : Str)) = false := by decide) : We Γ (.Name x pos) ρ O Q := fun F σ H e0 s r X hX pins st I => by
  obtain ⟨v, e, rv⟩ := r.get i d hd
  exact (pe_var (X := X) (i := i) (by rw [hX.N]; exact hN) (by rw [hX.sc]; exact hv) h1 h2).run pins st σ H _ I ⟨v, e, kv s rv h⟩
theorem we_int {i : Int} {j pos} (h : Q (.int i) O) : We Γ (.Constant (.int i) j pos) ρ O Q := fun F σ H e0 s r X hX pins st I => pe_int.run pins st σ H _ I (kv s rep_int h)
theorem we_bl {b : Bool} {j pos} (h : Q (.bl b) O) : We Γ (.Constant (.bool b) j pos) ρ O Q := fun F σ H e0 s r X hX pins st I => pe_bl.run pins st σ H _ I (kv s rep_bl h)
theorem we_non {j pos} (h : Q .non O) : We Γ (.Constant .none j pos) ρ O Q := fun F σ H e0 s r X hX pins st I => pe_non.run pins st σ H _ I (kv s rep_non h)
theorem we_str {x : Str} {j pos} (h : Q (.str x) O) : We Γ (.Constant (.str x) j pos) ρ O Q := fun F σ H e0 s r X hX pins st I => pe_str.run pins st σ H _ I (kv s rep_str h)
def GlN (Γ : G) (x : Str) : Prop := Γ.sc.names.lookup x = some .globalImplicit
theorem G.Has.gl {X : Cx} {x : Str} (hX : Γ.Has X) (h : GlN Γ x) : Gl X x := by
  show X.env.scope.names.lookup x = some .globalImplicit
  rw [hX.sc]; exact h
theorem G.Has.K {X : Cx} (hX : Γ.Has X) : Γ.M.K = X.K := by rw [hX.M]
theorem G.Has.mg {X : Cx} (hX : Γ.Has X) : Γ.M.mg = X.mg := by rw [hX.M]
/-- a module's constant -/
theorem we_glob {x : Str} {pos : Pos} {u : Value} {v : V} {d : D} (hg : GlN Γ x) (hm : Γ.M.mg x = some u) (rv : RelV v u) (rd : ∀ F, Rep Γ.M.K F d v) (h : Q d O) (h1 : (x == ("__debug__" : Str)) = false := by decide) : We Γ (.Name x pos) ρ O Q := fun F σ H e0 s r X hX pins st I =>
  (pe_glob (hX.gl hg) (by rw [← hX.mg]; exact hm) rv h1).run pins st σ H _ I (kv s (rd F) h)
/-- a builtin's name as a value -/
theorem we_bltn {x : Str} {pos : Pos} {u : Value} {v : V} (hg : GlN Γ x) (hm : Γ.M.mg x = none) (hv : bootBuiltins x = some u) (rv : RelV v u) (h : Q (.raw v) O) (hn : x ≠ "__name__" := by decide) (h1 : (x == ("__debug__" : Str)) = false := by decide) : We Γ (.Name x pos) ρ O Q := fun F σ H e0 s r X hX pins st I =>
  (pe_bltn (hX.gl hg) (by rw [← hX.mg]; exact hm) hv rv hn h1).run pins st σ H _ I (kv s rep_raw h)

/-! ### operators -/
/-- a two-place operation over data: what it asks, what it gives -/
abbrev D2 := D → D → Opens → DK → Prop
/-- the operation f, by values, does what t says of data -/
def OpD (Γ : G) (X : Cx) (f : Value → Value → Sem Value) (t : D2) : Prop :=
  ∀ (F : Fr) (O : Opens) (x y : D) (Q : DK) (pins : List (Addr × Obj)) (s : Shared) (σ : L2.St) (H : Hp) (a b : V) (v u : Value), Inv X pins σ H s → RelV a v → RelV b u → Ext Γ.F0 F → Stt Γ.M.K F O H → Rep Γ.M.K F x a → Rep Γ.M.K F y b → t x y O Q →
    wpAny (model X.prog X.w) X.A (f v u) (EP X pins σ (KV' Γ F Q)) X.xe s
theorem OpD.r {X : Cx} {f : Value → Value → Sem Value} {t : D2} (h : OpD Γ X f t) : OpR X f (fun a b H Qv => ∃ F O x y Q, Ext Γ.F0 F ∧ Stt Γ.M.K F O H ∧ Rep Γ.M.K F x a ∧ Rep Γ.M.K F y b ∧ t x y O Q ∧ ∀ v H', KV' Γ F Q v H' → Qv v H') := by
  intro pins s σ H a b v u Qv I ra rb hh
  obtain ⟨F, O, x, y, Q, e0, S, rx, ry, ht, m⟩ := hh
  exact thn (h F O x y Q pins s σ H a b v u I ra rb e0 S rx ry ht) fun _ _ k => EP.mono m k
/-- two parts in a row -/
theorem two {a b : Expr} {t : D2} (e0 : Ext Γ.F0 F) (s : Stt Γ.M.K F O H) (r : EnvR Γ.M.K F ρ σ) (h : We Γ a ρ O fun x O1 => We Γ b ρ O1 fun y O2 => t x y O2 Q) :
    Ev Γ a σ H fun x H1 => Ev Γ b σ H1 fun y H2 => ∃ F2 O2 dx dy Q2, Ext Γ.F0 F2 ∧ Stt Γ.M.K F2 O2 H2 ∧ Rep Γ.M.K F2 dx x ∧ Rep Γ.M.K F2 dy y ∧ t dx dy O2 Q2 ∧ ∀ v H', KV' Γ F2 Q2 v H' → KV' Γ F Q v H' := by
  refine (h F σ H e0 s r).mono fun x H1 ⟨dx, F1, O1, e1, s1, rx, q1⟩ => ?_
  refine (q1 F1 σ H1 (e0.trans e1) s1 (r.mono e1)).mono fun y H2 ⟨dy, F2, O2, e2, s2, ry, q2⟩ => ?_
  exact ⟨F2, O2, dx, dy, Q, e0.trans (e1.trans e2), s2, rx.mono e2, ry, q2, fun v H' k => KV'.mono (e1.trans e2) (fun _ _ q => q) k⟩
theorem we_op {op : Operator} {t : D2} {a b : Expr} {pos : Pos} (ho : ∀ X, Γ.Has X → OpD Γ X (binaryOp op) t) (h : We Γ a ρ O fun x O1 => We Γ b ρ O1 fun y O2 => t x y O2 Q) : We Γ (.BinOp a op b pos) ρ O Q := fun F σ H e0 s r X hX pins st I =>
  (pe_op (ho X hX).r (Ev.pe hX a) (Ev.pe hX b)).run pins st σ H _ I (two e0 s r h)

/-- the binary operators over data -/
def BinQ (op : Operator) : D2 := fun x y O Q => match op, x, y with
  | .Add, .int i, .int j => Q (.int (i + j)) O
  | .Sub, .int i, .int j => Q (.int (i - j)) O
  | .Mult, .int i, .int j => CMulW i j ∧ Q (.int (i * j)) O
  | .FloorDiv, .int i, .int j => CDivW i j ∧ Q (.int (i / j)) O
  | .Mod, .int i, .int j => 0 < j ∧ Q (.int (i % j)) O
  | .Pow, .int i, .int j => CPow i j ∧ Q (.int (i ^ j.toNat)) O
  | .LShift, .int i, .int j => CPow i j ∧ Q (.int (i * 2 ^ j.toNat)) O
  | .RShift, .int i, .int j => 0 ≤ j ∧ Q (.int (i / 2 ^ j.toNat)) O
  | .BitAnd, .int i, .int j => Q (.int (Builtin.bitAnd i j)) O
  | .BitXor, .int i, .int j => Q (.int (Builtin.bitXor i j)) O
  | .BitOr, .int i, .int j => Q (.int (Builtin.bitOr i j)) O
  | .Add, .str a, .str b => a.length + b.length ≤ sizeLine ∧ Q (.str (a ++ b)) O
  | .Add, .lst a, .lst b => a.length + b.length ≤ sizeLine ∧ Q (.lst (a ++ b)) O
  | .Add, .tup a, .tup b => a.length + b.length ≤ sizeLine ∧ Q (.tup (a ++ b)) O
  | .Mult, .lst a, .int k => -(2 ^ 63) ≤ k ∧ k < 2 ^ 63 ∧ a.length * k.toNat ≤ sizeLine ∧ Q (.lst (List.replicate k.toNat a).flatten) O
  | .Sub, .bl a, .bl b => Q (.int (PyProof.Rows.b2i a - PyProof.Rows.b2i b)) O
  | _, _, _ => False
theorem Reps.rep {K : PySem.W.Frag} {ds : List D} {vs : List V} (h : Reps K F ds vs) : ∀ k : Nat, Reps K F (List.replicate k ds).flatten (List.replicate k vs).flatten
  | 0 => rfl
  | k + 1 => by
    rw [List.replicate_succ, List.replicate_succ, List.flatten_cons, List.flatten_cons]
    exact h.append (Reps.rep h k)
theorem bin_ok {X : Cx} (hX : Γ.Has X) (op : Operator) : OpD Γ X (binaryOp op) (BinQ op) := by
  intro F O x y Q pins s σ H a b v u I ra rb e0 S rx ry h
  have hK := hX.K
  unfold BinQ at h
  split at h
  · cases rx; cases ry; exact op_add pins s σ H _ _ _ _ _ I ra rb ⟨_, _, rfl, rfl, kv S rep_int h⟩
  · cases rx; cases ry; exact op_sub pins s σ H _ _ _ _ _ I ra rb ⟨_, _, rfl, rfl, kv S rep_int h⟩
  · cases rx; cases ry; exact op_mulW pins s σ H _ _ _ _ _ I ra rb ⟨_, _, rfl, rfl, h.1, kv S rep_int h.2⟩
  · cases rx; cases ry; exact op_fdivW pins s σ H _ _ _ _ _ I ra rb ⟨_, _, rfl, rfl, h.1, kv S rep_int h.2⟩
  · cases rx; cases ry; exact op_mod pins s σ H _ _ _ _ _ I ra rb ⟨_, _, rfl, rfl, h.1, kv S rep_int h.2⟩
  · cases rx; cases ry; exact op_pow pins s σ H _ _ _ _ _ I ra rb ⟨_, _, rfl, rfl, h.1, kv S rep_int h.2⟩
  · cases rx; cases ry; exact op_shl pins s σ H _ _ _ _ _ I ra rb ⟨_, _, rfl, rfl, h.1, kv S rep_int h.2⟩
  · cases rx; cases ry; exact op_shr pins s σ H _ _ _ _ _ I ra rb ⟨_, _, rfl, rfl, h.1, kv S rep_int h.2⟩
  · cases rx; cases ry; exact op_and pins s σ H _ _ _ _ _ I ra rb ⟨_, _, rfl, rfl, kv S rep_int h⟩
  · cases rx; cases ry; exact op_xor pins s σ H _ _ _ _ _ I ra rb ⟨_, _, rfl, rfl, kv S rep_int h⟩
  · cases rx; cases ry; exact op_or pins s σ H _ _ _ _ _ I ra rb ⟨_, _, rfl, rfl, kv S rep_int h⟩
  · cases rx; cases ry; exact op_add_str pins s σ H _ _ _ _ _ I ra rb ⟨_, _, rfl, rfl, h.1, kv S rep_str h.2⟩
  · obtain ⟨p, xs, rfl, h1, h2⟩ := rx
    obtain ⟨q, ys, rfl, h3, h4⟩ := ry
    exact op_cat pins s σ H _ _ _ _ _ I ra rb ⟨p, q, xs, ys, rfl, rfl, S.ext _ _ h1, S.ext _ _ h3, by rw [← h2.length, ← h4.length]; exact h.1, fun l hl => kv_lst S hl (h2.append h4) h.2⟩
  · obtain ⟨p, xs, rfl, h1, h2⟩ := rx
    obtain ⟨q, ys, rfl, h3, h4⟩ := ry
    rw [hK] at h1 h3
    refine op_catA pins s σ H _ _ _ _ _ I ra rb ?_
    rename_i d1 d2
    refine ⟨p, q, xs, ys, rfl, rfl, S.ext.seqT h1, S.ext.seqT h3, by rw [← h2.length, ← h4.length]; exact h.1, fun e => ?_, fun _ e => ?_, fun _ _ l hl => kv_tup S hl (h2.append h4) h.2⟩
    · subst e
      have e' : d1 = [] := List.eq_nil_of_length_eq_zero (by rw [h2.length]; rfl)
      subst e'
      exact kv S (rep_tup (by rw [hK]; exact h3) h4) h.2
    · subst e
      have e' : d2 = [] := List.eq_nil_of_length_eq_zero (by rw [h4.length]; rfl)
      subst e'
      rw [List.append_nil] at h
      exact kv S (rep_tup (by rw [hK]; exact h1) h2) h.2
  · cases ry
    obtain ⟨p, xs, rfl, h1, h2⟩ := rx
    obtain ⟨g1, g2, g3, g4⟩ := h
    exact op_rep pins s σ H _ _ _ _ _ I ra rb ⟨p, _, xs, rfl, rfl, S.ext _ _ h1, g1, g2, by rw [← h2.length]; exact g3, fun l hl => kv_lst S hl (h2.rep _) g4⟩
  · cases rx; cases ry
    cases ra; cases rb
    exact PyProof.Rows.sub_bool ⟨.int _, H, I.tok _, ⟨_, rfl⟩, kv S rep_int h⟩
  · exact h.elim
theorem we_bin {op : Operator} {a b : Expr} {pos : Pos} (h : We Γ a ρ O fun x O1 => We Γ b ρ O1 fun y O2 => BinQ op x y O2 Q) : We Γ (.BinOp a op b pos) ρ O Q := we_op (fun X hX => bin_ok hX op) h
end
end DL

/-! DLC: rules: comparisons, tests, and | or | not, conditional expressions, displays, items, slices. -/
namespace DL
open PySem PySem.Spec PyProof.Rows L2

/-! ### data as PyData -/
mutual
def toPy : D → Option PyData
  | .non => some .none
  | .bl b => some (.bool b)
  | .int i => some (.int i)
  | .str x => some (.str x)
  | .tup ds => (toPys ds).map .tuple
  | .lst ds => (toPys ds).map .list
  | .rls ds => (toPys ds).map .list
  | _ => none
def toPys : List D → Option (List PyData)
  | [] => some []
  | d :: ds => (toPy d).bind fun p => (toPys ds).map fun q => p :: q
end
section
variable {K : PySem.W.Frag} {F : Fr} {H : Hp}
mutual
theorem dp_of (e : Sub F H) : ∀ (d : D) (v : V) (p : PyData), toPy d = some p → Rep K F d v → Dp K H v p
  | .non, v, p, h, r => by cases h; cases r; exact .non
  | .bl b, v, p, h, r => by cases h; cases r; exact .bl b
  | .int b, v, p, h, r => by cases h; cases r; exact .int b
  | .str b, v, p, h, r => by cases h; cases r; exact .str b
  | .tup ds, v, p, h, r => by
    obtain ⟨a, vs, rfl, h1, h2⟩ := r
    rw [toPy] at h
    obtain ⟨q, hq, rfl⟩ := Option.map_eq_some_iff.mp h
    exact .tup (e.seqT h1) (dps_of e ds vs q hq h2)
  | .lst ds, v, p, h, r => by
    obtain ⟨a, vs, rfl, h1, h2⟩ := r
    rw [toPy] at h
    obtain ⟨q, hq, rfl⟩ := Option.map_eq_some_iff.mp h
    exact .lst (SqL.of (e _ _ h1)) (dps_of e ds vs q hq h2)
  | .rls ds, v, p, h, r => by
    obtain ⟨a, vs, rfl, h1, h2⟩ := r
    rw [toPy] at h
    obtain ⟨q, hq, rfl⟩ := Option.map_eq_some_iff.mp h
    exact .lst (e.seqL h1) (dps_of e ds vs q hq h2)
  | .raw _, _, _, h, _ => by cases h
  | .obj _ _ _, _, _, h, _ => by cases h
  | .exc _ _ _, _, _, h, _ => by cases h
  | .dic _ _, _, _, h, _ => by cases h
theorem dps_of (e : Sub F H) : ∀ (ds : List D) (vs : List V) (p : List PyData), toPys ds = some p → Reps K F ds vs → DpAll K H vs p
  | [], vs, p, h, r => by cases h; cases (show vs = [] from r); exact .nil
  | d :: ds, vs, p, h, r => by
    obtain ⟨v, t, rfl, h1, h2⟩ := r
    rw [toPys] at h
    obtain ⟨a, ha, h⟩ := Option.bind_eq_some_iff.mp h
    obtain ⟨b, hb, rfl⟩ := Option.map_eq_some_iff.mp h
    exact .cons (dp_of e d v a ha h1) (dps_of e ds t b hb h2)
end
end
def EqG (neg : Bool) : D2 := fun x y O Q => ∃ p q, toPy x = some p ∧ toPy y = some q ∧ SeqAt.shaped p = true ∧ SeqAt.shaped q = true ∧ Q (.bl (if neg then !PyData.eqv p q else PyData.eqv p q)) O
def EqQ (neg : Bool) : D2 := fun x y O Q => match x, y with
  | .str a, .str b => Q (.bl (if neg then !(a == b) else a == b)) O
  | x, y => EqG neg x y O Q
def isNon : D → Bool
  | .non => true
  | _ => false
theorem isNon_ok {K : PySem.W.Frag} {F : Fr} {d : D} {v : V} (h : Rep K F d v) (hd : ∀ x, d ≠ .raw x) : decide (v = .non) = isNon d := by
  cases d with
  | non => cases h; rfl
  | bl _ => cases h; rfl
  | int _ => cases h; rfl
  | str _ => cases h; rfl
  | raw x => exact absurd rfl (hd x)
  | tup _ => obtain ⟨_, _, rfl, _⟩ := h; rfl
  | lst _ => obtain ⟨_, _, rfl, _⟩ := h; rfl
  | rls _ => obtain ⟨_, _, rfl, _⟩ := h; rfl
  | obj _ _ _ => obtain ⟨_, _, _, rfl, _⟩ := h; rfl
  | exc _ _ _ => obtain ⟨_, _, _, rfl, _⟩ := h; rfl
  | dic _ _ => obtain ⟨_, _, rfl, _⟩ := h; rfl
def flatD : D → Bool
  | .non => true
  | .bl _ => true
  | .int _ => true
  | .str _ => true
  | _ => false
def flatOf : D → V
  | .non => .non
  | .bl b => .bl b
  | .int i => .int i
  | .str x => .str x
  | _ => .non
theorem flat_ok {K : PySem.W.Frag} {F : Fr} {d : D} {v : V} (f : flatD d = true) (h : Rep K F d v) : v = flatOf d ∧ flatV v = true := by
  cases d with
  | non => cases h; exact ⟨rfl, rfl⟩
  | bl _ => cases h; exact ⟨rfl, rfl⟩
  | int _ => cases h; exact ⟨rfl, rfl⟩
  | str _ => cases h; exact ⟨rfl, rfl⟩
  | _ => exact absurd (show false = true from f) Bool.false_ne_true
theorem flats_ok {K : PySem.W.Frag} {F : Fr} : ∀ {ds : List D} {vs : List V}, ds.all flatD = true → Reps K F ds vs → vs = ds.map flatOf ∧ vs.all flatV = true
  | [], vs, _, h => by cases (show vs = [] from h); exact ⟨rfl, rfl⟩
  | d :: ds, vs, f, h => by
    obtain ⟨v, r, rfl, h1, h2⟩ := h
    rw [List.all_cons, Bool.and_eq_true] at f
    obtain ⟨e1, e2⟩ := flat_ok f.1 h1
    obtain ⟨e3, e4⟩ := flats_ok f.2 h2
    subst e1 e3
    exact ⟨rfl, by rw [List.all_cons, e2, e4]; rfl⟩
/-- x in ds (flat items) -/
def inD (x : D) (ds : List D) : Bool := inV (flatOf x) (ds.map flatOf)
def InQ (neg : Bool) : D2 := fun x y O Q => match y with
  | .tup ds => flatD x = true ∧ ds.all flatD = true ∧ Q (.bl (if neg then !inD x ds else inD x ds)) O
  | .lst ds => flatD x = true ∧ ds.all flatD = true ∧ Q (.bl (if neg then !inD x ds else inD x ds)) O
  | .rls ds => flatD x = true ∧ ds.all flatD = true ∧ Q (.bl (if neg then !inD x ds else inD x ds)) O
  | .str z => (match x with | .str y => (∃ c, y = ⟨#[c]⟩ ∧ Q (.bl (if neg then !decide (c ∈ z.cps.toList) else decide (c ∈ z.cps.toList))) O) | _ => False)
  | _ => False
def CmpQ (op : CmpOp) : D2 := fun x y O Q => match op with
  | .Eq => EqQ false x y O Q
  | .NotEq => EqQ true x y O Q
  | .In => InQ false x y O Q
  | .NotIn => InQ true x y O Q
  | .Is => (match x, y with
    | .bl a, .bl b => Q (.bl (decide (a = b))) O
    | .raw _, _ => False
    | x, .non => Q (.bl (isNon x)) O
    | _, _ => False)
  | .IsNot => (match x, y with
    | .bl a, .bl b => Q (.bl (!decide (a = b))) O
    | .raw _, _ => False
    | x, .non => Q (.bl (!isNon x)) O
    | _, _ => False)
  | .Lt => (match x, y with
    | .int i, .int j => Q (.bl (decide (i < j))) O
    | .str i, .str j => Q (.bl (decide (i.cps.toList < j.cps.toList))) O
    | _, _ => False)
  | .LtE => (match x, y with
    | .int i, .int j => Q (.bl (decide (i ≤ j))) O
    | .str i, .str j => Q (.bl (!decide (j.cps.toList < i.cps.toList))) O
    | _, _ => False)
  | .Gt => (match x, y with
    | .int i, .int j => Q (.bl (decide (j < i))) O
    | .str i, .str j => Q (.bl (decide (j.cps.toList < i.cps.toList))) O
    | _, _ => False)
  | .GtE => (match x, y with
    | .int i, .int j => Q (.bl (decide (j ≤ i))) O
    | .str i, .str j => Q (.bl (!decide (i.cps.toList < j.cps.toList))) O
    | _, _ => False)

section
variable {Γ : G} {ρ : Env'} {O : Opens} {Q : DK} {σ : L2.St} {H : Hp} {F : Fr}
theorem cmp_ok {X : Cx} (hX : Γ.Has X) (op : CmpOp) : OpD Γ X (compareOp op) (CmpQ op) := by
  intro F O x y Q pins s σ H a b v u I ra rb e0 S rx ry h
  have hK := hX.K
  have hu : X.A.units + 64 < cLine := by have := hX.units; omega
  cases op with
  | Eq =>
    have h : EqQ false x y O Q := h
    unfold EqQ at h
    split at h
    · cases rx; cases ry
      exact op_eq pins s σ H _ _ _ _ _ I ra rb ⟨rfl, kv S rep_bl (by rw [dec_str]; exact h)⟩
    obtain ⟨p, q, h1, h2, h3, h4, h5⟩ := h
    exact op_eqD hu pins s σ H _ _ _ _ _ I ra rb ⟨p, q, dp_of S.ext x a p h1 (hK ▸ rx), dp_of S.ext y b q h2 (hK ▸ ry), h3, h4, kv S rep_bl h5⟩
  | NotEq =>
    have h : EqQ true x y O Q := h
    unfold EqQ at h
    split at h
    · cases rx; cases ry
      exact op_ne pins s σ H _ _ _ _ _ I ra rb ⟨rfl, kv S rep_bl (by rw [dec_str]; exact h)⟩
    obtain ⟨p, q, h1, h2, h3, h4, h5⟩ := h
    exact op_neD hu pins s σ H _ _ _ _ _ I ra rb ⟨p, q, dp_of S.ext x a p h1 (hK ▸ rx), dp_of S.ext y b q h2 (hK ▸ ry), h3, h4, kv S rep_bl h5⟩
  | Lt =>
    unfold CmpQ at h
    dsimp only at h
    split at h
    · cases rx; cases ry; exact op_lt pins s σ H _ _ _ _ _ I ra rb ⟨_, _, rfl, rfl, kv S rep_bl h⟩
    · cases rx; cases ry; exact op_lt_str pins s σ H _ _ _ _ _ I ra rb ⟨_, _, rfl, rfl, kv S rep_bl h⟩
    · exact h.elim
  | LtE =>
    unfold CmpQ at h
    dsimp only at h
    split at h
    · cases rx; cases ry; exact op_le pins s σ H _ _ _ _ _ I ra rb ⟨_, _, rfl, rfl, kv S rep_bl h⟩
    · cases rx; cases ry; exact op_le_str pins s σ H _ _ _ _ _ I ra rb ⟨_, _, rfl, rfl, kv S rep_bl h⟩
    · exact h.elim
  | Gt =>
    unfold CmpQ at h
    dsimp only at h
    split at h
    · cases rx; cases ry; exact op_gt pins s σ H _ _ _ _ _ I ra rb ⟨_, _, rfl, rfl, kv S rep_bl h⟩
    · cases rx; cases ry; exact op_gt_str pins s σ H _ _ _ _ _ I ra rb ⟨_, _, rfl, rfl, kv S rep_bl h⟩
    · exact h.elim
  | GtE =>
    unfold CmpQ at h
    dsimp only at h
    split at h
    · cases rx; cases ry; exact op_ge pins s σ H _ _ _ _ _ I ra rb ⟨_, _, rfl, rfl, kv S rep_bl h⟩
    · cases rx; cases ry; exact op_ge_str pins s σ H _ _ _ _ _ I ra rb ⟨_, _, rfl, rfl, kv S rep_bl h⟩
    · exact h.elim
  | Is =>
    unfold CmpQ at h
    dsimp only at h
    split at h
    · cases rx; cases ry; exact op_isBl pins s σ H _ _ _ _ _ I ra rb ⟨_, _, rfl, rfl, kv S rep_bl h⟩
    · exact h.elim
    · rename_i hd
      cases ry
      exact op_isN pins s σ H _ _ _ _ _ I ra rb ⟨rfl, kv S rep_bl (by rw [isNon_ok rx fun x => by first | exact hd x | (intro z; exact hd x z)]; exact h)⟩
    · exact h.elim
  | IsNot =>
    unfold CmpQ at h
    dsimp only at h
    split at h
    · cases rx; cases ry; exact op_notBl pins s σ H _ _ _ _ _ I ra rb ⟨_, _, rfl, rfl, kv S rep_bl h⟩
    · exact h.elim
    · rename_i hd
      cases ry
      exact op_notN pins s σ H _ _ _ _ _ I ra rb ⟨rfl, kv S rep_bl (by rw [isNon_ok rx fun x => by first | exact hd x | (intro z; exact hd x z)]; exact h)⟩
    · exact h.elim
  | In =>
    show wpAny _ _ _ _ _ _
    have h : InQ false x y O Q := h
    unfold InQ at h
    split at h
    · obtain ⟨f1, f2, f3⟩ := h
      obtain ⟨p, xs, rfl, h1, h2⟩ := ry
      obtain ⟨e1, e2⟩ := flat_ok f1 rx
      obtain ⟨e3, e4⟩ := flats_ok f2 h2
      exact op_in_seq pins s σ H _ _ _ _ _ I ra rb ⟨p, xs, rfl, .inr (S.ext.seqT (hK ▸ h1)), e2, e4, kv S rep_bl (by rw [e1, e3]; exact f3)⟩
    · obtain ⟨f1, f2, f3⟩ := h
      obtain ⟨p, xs, rfl, h1, h2⟩ := ry
      obtain ⟨e1, e2⟩ := flat_ok f1 rx
      obtain ⟨e3, e4⟩ := flats_ok f2 h2
      exact op_in_seq pins s σ H _ _ _ _ _ I ra rb ⟨p, xs, rfl, .inl (SqL.of (S.ext _ _ h1)), e2, e4, kv S rep_bl (by rw [e1, e3]; exact f3)⟩
    · obtain ⟨f1, f2, f3⟩ := h
      obtain ⟨p, xs, rfl, h1, h2⟩ := ry
      obtain ⟨e1, e2⟩ := flat_ok f1 rx
      obtain ⟨e3, e4⟩ := flats_ok f2 h2
      exact op_in_seq pins s σ H _ _ _ _ _ I ra rb ⟨p, xs, rfl, .inl (S.ext.seqL (hK ▸ h1)), e2, e4, kv S rep_bl (by rw [e1, e3]; exact f3)⟩
    · split at h
      · obtain ⟨c, e1, f3⟩ := h
        cases rx; cases ry
        exact op_in_sign pins s σ H _ _ _ _ _ I ra rb ⟨c, _, by rw [e1], rfl, kv S rep_bl f3⟩
      · exact h.elim
    · exact h.elim
  | NotIn =>
    show wpAny _ _ _ _ _ _
    have h : InQ true x y O Q := h
    unfold InQ at h
    split at h
    · obtain ⟨f1, f2, f3⟩ := h
      obtain ⟨p, xs, rfl, h1, h2⟩ := ry
      obtain ⟨e1, e2⟩ := flat_ok f1 rx
      obtain ⟨e3, e4⟩ := flats_ok f2 h2
      exact op_notIn_seq pins s σ H _ _ _ _ _ I ra rb ⟨p, xs, rfl, .inr (S.ext.seqT (hK ▸ h1)), e2, e4, kv S rep_bl (by rw [e1, e3]; exact f3)⟩
    · obtain ⟨f1, f2, f3⟩ := h
      obtain ⟨p, xs, rfl, h1, h2⟩ := ry
      obtain ⟨e1, e2⟩ := flat_ok f1 rx
      obtain ⟨e3, e4⟩ := flats_ok f2 h2
      exact op_notIn_seq pins s σ H _ _ _ _ _ I ra rb ⟨p, xs, rfl, .inl (SqL.of (S.ext _ _ h1)), e2, e4, kv S rep_bl (by rw [e1, e3]; exact f3)⟩
    · obtain ⟨f1, f2, f3⟩ := h
      obtain ⟨p, xs, rfl, h1, h2⟩ := ry
      obtain ⟨e1, e2⟩ := flat_ok f1 rx
      obtain ⟨e3, e4⟩ := flats_ok f2 h2
      exact op_notIn_seq pins s σ H _ _ _ _ _ I ra rb ⟨p, xs, rfl, .inl (S.ext.seqL (hK ▸ h1)), e2, e4, kv S rep_bl (by rw [e1, e3]; exact f3)⟩
    · split at h
      · obtain ⟨c, e1, f3⟩ := h
        cases rx; cases ry
        exact op_notIn_sign pins s σ H _ _ _ _ _ I ra rb ⟨c, _, by rw [e1], rfl, kv S rep_bl f3⟩
      · exact h.elim
    · exact h.elim
def Bhm (op : CmpOp) (b : Expr) : Prop := behindInMarks op b = false
theorem we_cmp {op : CmpOp} {a b : Expr} {pos : Pos} (h : We Γ a ρ O fun x O1 => We Γ b ρ O1 fun y O2 => CmpQ op x y O2 Q) (hm : behindInMarks op b = false := by first | exact nomark _ | rfl | with_unfolding_all rfl) : We Γ (.Compare a [op] [b] pos) ρ O Q := fun F σ H e0 s r X hX pins st I =>
  (pe_cmpR (cmp_ok hX op).r (Ev.pe hX a) (Ev.pe hX b) hm).run pins st σ H _ I (two e0 s r h)
/-- a test's wish -/
def KT (Γ : G) (F : Fr) (Q : Bool → Opens → Prop) : Bool → Hp → Prop := fun b H' => ∃ F' O', Ext F F' ∧ Stt Γ.M.K F' O' H' ∧ Q b O'
theorem KT.mono {F F' : Fr} {Q Q' : Bool → Opens → Prop} (e : Ext F F') (h : ∀ d O, Q d O → Q' d O) {v : Bool} {H : Hp} (k : KT Γ F' Q v H) : KT Γ F Q' v H := by
  obtain ⟨F2, O2, e2, s2, q2⟩ := k
  exact ⟨F2, O2, e.trans e2, s2, h _ _ q2⟩
/-- a wish of a bool -/
abbrev BlQ (Q : Bool → Opens → Prop) : DK := fun d O => ∃ k, d = .bl k ∧ Q k O
theorem wt_cmp {op : CmpOp} {a b : Expr} {pos : Pos} {Q : Bool → Opens → Prop} (h : We Γ a ρ O fun x O1 => We Γ b ρ O1 fun y O2 => CmpQ op x y O2 (BlQ Q)) (hm : behindInMarks op b = false := by first | exact nomark _ | rfl | with_unfolding_all rfl) : WT Γ (.Compare a [op] [b] pos) ρ O Q := fun F σ H e0 s r X hX pins st I => by
  refine (pt_cmpR (cmp_ok hX op).r (Ev.pe hX a) (Ev.pe hX b) hm).run pins st σ H _ I ?_
  refine (two e0 s r h).mono fun x H1 q => q.mono fun y H2 ⟨F2, O2, dx, dy, Q2, g1, g2, g3, g4, g5, g6⟩ => ⟨F2, O2, dx, dy, Q2, g1, g2, g3, g4, g5, fun v H' k => ?_⟩
  obtain ⟨d, F3, O3, e3, s3, r3, k3, rfl, q3⟩ := g6 v H' k
  cases r3
  exact ⟨k3, rfl, F3, O3, e3, s3, q3⟩
/-- a < b < c -/
def ChQ (Γ : G) (op op' : CmpOp) (b c : Expr) (ρ : Env') (Q : DK) (x : D) (O1 : Opens) : Prop := We Γ b ρ O1 fun y O2 => CmpQ op x y O2 fun z O3 => ∃ k, z = .bl k ∧ if k = true then We Γ c ρ O3 fun w O4 => CmpQ op' y w O4 Q else Q (.bl false) O3
theorem chain_run {op op' : CmpOp} {a b c : Expr} (e0 : Ext Γ.F0 F) (s : Stt Γ.M.K F O H) (r : EnvR Γ.M.K F ρ σ) (h : We Γ a ρ O (ChQ Γ op op' b c ρ Q)) :
    tChain (fun a b H Qv => ∃ (F : Fr) (O : Opens) (x y : D) (Q : DK), Ext Γ.F0 F ∧ Stt Γ.M.K F O H ∧ Rep Γ.M.K F x a ∧ Rep Γ.M.K F y b ∧ CmpQ op x y O Q ∧ ∀ v H', KV' Γ F Q v H' → Qv v H') (fun a b H Qv => ∃ (F : Fr) (O : Opens) (x y : D) (Q : DK), Ext Γ.F0 F ∧ Stt Γ.M.K F O H ∧ Rep Γ.M.K F x a ∧ Rep Γ.M.K F y b ∧ CmpQ op' x y O Q ∧ ∀ v H', KV' Γ F Q v H' → Qv v H')
      (Ev Γ a) (Ev Γ b) (Ev Γ c) σ H (KV' Γ F Q) := by
  refine (h F σ H e0 s r).mono fun x H1 ⟨dx, F1, O1, e1, s1, rx, q1⟩ => ?_
  refine (q1 F1 σ H1 (e0.trans e1) s1 (r.mono e1)).mono fun y H2 ⟨dy, F2, O2, e2, s2, ry, q2⟩ => ?_
  refine ⟨F2, O2, dx, dy, _, e0.trans (e1.trans e2), s2, rx.mono e2, ry, q2, fun z H3 ⟨dz, F3, O3, e3, s3, rz, k, hz, q3⟩ => ?_⟩
  subst hz
  cases rz
  refine ⟨k, rfl, ?_⟩
  cases k with
  | false => exact ⟨.bl false, F3, O3, (e1.trans e2).trans e3, s3, rep_bl, by simpa using q3⟩
  | true =>
    have q3 : We Γ c ρ O3 fun w O4 => CmpQ op' dy w O4 Q := by simpa using q3
    show Ev Γ c σ H3 _
    have e03 := (e1.trans e2).trans e3
    refine (q3 F3 σ H3 (e0.trans e03) s3 (r.mono e03)).mono fun w H4 ⟨dw, F4, O4, e4, s4, rw', q4⟩ => ?_
    exact ⟨F4, O4, dy, dw, _, e0.trans (e03.trans e4), s4, ry.mono (e3.trans e4), rw', q4, fun v H' k => KV'.mono (e03.trans e4) (fun _ _ q => q) k⟩
theorem we_chain {op op' : CmpOp} {a b c : Expr} {pos : Pos} (h : We Γ a ρ O (ChQ Γ op op' b c ρ Q)) (hm : lastMarks [op, op'] [b, c] = false := by with_unfolding_all rfl) : We Γ (.Compare a [op, op'] [b, c] pos) ρ O Q := fun F σ H e0 s r X hX pins st I =>
  (pe_chain (cmp_ok hX op).r (cmp_ok hX op').r (Ev.pe hX a) (Ev.pe hX b) (Ev.pe hX c) hm).run pins st σ H _ I (chain_run e0 s r h)
theorem wt_chain {op op' : CmpOp} {a b c : Expr} {pos : Pos} {Q : Bool → Opens → Prop} (h : We Γ a ρ O (ChQ Γ op op' b c ρ (BlQ Q))) (hm : lastMarks [op, op'] [b, c] = false := by with_unfolding_all rfl) : WT Γ (.Compare a [op, op'] [b, c] pos) ρ O Q := fun F σ H e0 s r X hX pins st I => by
  refine (pt_chain (cmp_ok hX op).r (cmp_ok hX op').r (Ev.pe hX a) (Ev.pe hX b) (Ev.pe hX c) hm).run pins st σ H _ I ?_
  refine (h F σ H e0 s r).mono fun x H1 ⟨dx, F1, O1, e1, s1, rx, q1⟩ => ?_
  refine (q1 F1 σ H1 (e0.trans e1) s1 (r.mono e1)).mono fun y H2 ⟨dy, F2, O2, e2, s2, ry, q2⟩ => ?_
  refine ⟨F2, O2, dx, dy, _, e0.trans (e1.trans e2), s2, rx.mono e2, ry, q2, fun z H3 ⟨dz, F3, O3, e3, s3, rz, k, hz, q3⟩ => ?_⟩
  subst hz
  cases rz
  refine ⟨k, rfl, ?_⟩
  have e03 := (e1.trans e2).trans e3
  cases k with
  | false =>
    obtain ⟨k', e', q'⟩ : BlQ Q (.bl false) O3 := by simpa using q3
    cases e'
    exact ⟨false, rfl, F3, O3, e03, s3, q'⟩
  | true =>
    have q3 : We Γ c ρ O3 fun w O4 => CmpQ op' dy w O4 (BlQ Q) := by simpa using q3
    show Ev Γ c σ H3 _
    refine (q3 F3 σ H3 (e0.trans e03) s3 (r.mono e03)).mono fun w H4 ⟨dw, F4, O4, e4, s4, rw', q4⟩ => ?_
    refine ⟨F4, O4, dy, dw, _, e0.trans (e03.trans e4), s4, ry.mono (e3.trans e4), rw', q4, fun v H' ⟨d5, F5, O5, e5, s5, r5, k5, h5, q5⟩ => ?_⟩
    subst h5
    cases r5
    exact ⟨k5, rfl, F5, O5, (e03.trans e4).trans e5, s5, q5⟩

/-! ### tests -/
theorem wt_not {a : Expr} {pos : Pos} {Q : Bool → Opens → Prop} (h : WT Γ a ρ O fun b O1 => Q (!b) O1) : WT Γ (.UnaryOp .Not a pos) ρ O Q := fun F σ H e0 s r X hX pins st I =>
  (pt_not (EvT.pt hX a)).run pins st σ H _ I (h F σ H e0 s r)
/-- a chain of and | or as a test -/
def EvW (Γ : G) (e : Expr) (σ : L2.St) (H : Hp) (Q : Bool → Hp → Prop) : Prop := ∀ X, Γ.Has X → ∀ (whole : Sem Value) pins s, Inv X pins σ H s → wpAny (model X.prog X.w) X.A (isTrue e X.env whole) (TP X pins σ Q) X.xe s
def WW (Γ : G) (e : Expr) (ρ : Env') (O : Opens) (Q : Bool → Opens → Prop) : Prop :=
  ∀ F σ H, Ext Γ.F0 F → Stt Γ.M.K F O H → EnvR Γ.M.K F ρ σ → EvW Γ e σ H (KT Γ F Q)
theorem EvW.pw {X : Cx} (h : Γ.Has X) (e : Expr) : PW X e (EvW Γ e) := ⟨fun wh pins s σ H Q I q => q X h wh pins s I⟩
theorem WW.wt {e : Expr} {Q : Bool → Opens → Prop} (h : WW Γ e ρ O Q) : WT Γ e ρ O Q := fun F σ H e0 s r X hX pins st I => h F σ H e0 s r X hX _ pins st I
theorem ww_and1 {a : Expr} {pos : Pos} {Q : Bool → Opens → Prop} (h : WT Γ a ρ O Q) : WW Γ (.BoolOp .And [a] pos) ρ O Q := fun F σ H e0 s r X hX wh pins st I =>
  (pw_and1 (EvT.pt hX a)).run wh pins st σ H _ I (h F σ H e0 s r)
theorem ww_or1 {a : Expr} {pos : Pos} {Q : Bool → Opens → Prop} (h : WT Γ a ρ O Q) : WW Γ (.BoolOp .Or [a] pos) ρ O Q := fun F σ H e0 s r X hX wh pins st I =>
  (pw_or1 (EvT.pt hX a)).run wh pins st σ H _ I (h F σ H e0 s r)
theorem ww_and {a b : Expr} {es : List Expr} {pos : Pos} {Q : Bool → Opens → Prop} (h : WT Γ a ρ O fun c O1 => if c = true then WW Γ (.BoolOp .And (b :: es) pos) ρ O1 Q else Q false O1) : WW Γ (.BoolOp .And (a :: b :: es) pos) ρ O Q := fun F σ H e0 s r X hX wh pins st I => by
  refine (pw_and (EvT.pt hX a) (EvW.pw hX _)).run wh pins st σ H _ I ((h F σ H e0 s r).mono fun c H1 ⟨F1, O1, e1, s1, q1⟩ => ?_)
  cases c with
  | true =>
    have q1 : WW Γ (.BoolOp .And (b :: es) pos) ρ O1 Q := by simpa using q1
    show EvW Γ _ σ H1 _
    exact fun X hX wh pins st I => thn (q1 F1 σ H1 (e0.trans e1) s1 (r.mono e1) X hX wh pins st I) fun _ _ ⟨H2, I2, k⟩ => ⟨H2, I2, k.mono e1 fun _ _ q => q⟩
  | false => exact ⟨F1, O1, e1, s1, by simpa using q1⟩
theorem ww_or {a b : Expr} {es : List Expr} {pos : Pos} {Q : Bool → Opens → Prop} (h : WT Γ a ρ O fun c O1 => if c = true then Q true O1 else WW Γ (.BoolOp .Or (b :: es) pos) ρ O1 Q) : WW Γ (.BoolOp .Or (a :: b :: es) pos) ρ O Q := fun F σ H e0 s r X hX wh pins st I => by
  refine (pw_or (EvT.pt hX a) (EvW.pw hX _)).run wh pins st σ H _ I ((h F σ H e0 s r).mono fun c H1 ⟨F1, O1, e1, s1, q1⟩ => ?_)
  cases c with
  | false =>
    have q1 : WW Γ (.BoolOp .Or (b :: es) pos) ρ O1 Q := by simpa using q1
    show EvW Γ _ σ H1 _
    exact fun X hX wh pins st I => thn (q1 F1 σ H1 (e0.trans e1) s1 (r.mono e1) X hX wh pins st I) fun _ _ ⟨H2, I2, k⟩ => ⟨H2, I2, k.mono e1 fun _ _ q => q⟩
  | true => exact ⟨F1, O1, e1, s1, by simpa using q1⟩
/-- a value's truth -/
def TruQ (d : D) (O : Opens) (Q : Bool → Opens → Prop) : Prop := match d with
  | .non => Q false O
  | .bl b => Q b O
  | .int i => Q (i != 0) O
  | .str x => x.length ≤ sizeLine ∧ Q (x.length != 0) O
  | .tup ds => Q (!ds.isEmpty) O
  | .lst ds => Q (!ds.isEmpty) O
  | .rls ds => Q (!ds.isEmpty) O
  | .raw (.ref a) => ∃ ds, O a = some (.lst ds) ∧ Q (!ds.isEmpty) O
  | _ => False
theorem isEmpty_len {α β : Type} {xs : List α} {ys : List β} (h : xs.length = ys.length) : (!xs.isEmpty) = !ys.isEmpty := by
  cases xs <;> cases ys <;> simp_all
theorem tru_of {X : Cx} (hK : Γ.M.K = X.K) {d : D} {v : V} {Q : Bool → Opens → Prop} {H : Hp} (S : Stt Γ.M.K F O H) (r : Rep Γ.M.K F d v) (h : TruQ d O Q) : ∃ k, TruV X.K v H k ∧ Q k O := by
  cases d with
  | non => cases r; exact ⟨false, rfl, h⟩
  | bl b => cases r; exact ⟨b, rfl, h⟩
  | int i => cases r; exact ⟨_, rfl, h⟩
  | str x =>
    cases r
    refine ⟨_, ⟨h.1, rfl⟩, ?_⟩
    have e : ((x.length : Int) != 0) = (x.length != 0) := by
      cases hx : x.length <;> simp <;> omega
    rw [e]; exact h.2
  | tup ds =>
    obtain ⟨p, xs, rfl, h1, h2⟩ := r
    exact ⟨_, .inr (.inl ⟨xs, S.ext.seqT (hK ▸ h1), rfl⟩), by rw [isEmpty_len h2.length.symm]; exact h⟩
  | lst ds =>
    obtain ⟨p, xs, rfl, h1, h2⟩ := r
    exact ⟨_, .inl ⟨xs, SqL.of (S.ext _ _ h1), rfl⟩, by rw [isEmpty_len h2.length.symm]; exact h⟩
  | rls ds =>
    obtain ⟨p, xs, rfl, h1, h2⟩ := r
    exact ⟨_, .inl ⟨xs, S.ext.seqL (hK ▸ h1), rfl⟩, by rw [isEmpty_len h2.length.symm]; exact h⟩
  | raw x =>
    cases r
    cases v with
    | ref a =>
      obtain ⟨ds, ho, q⟩ := h
      obtain ⟨vs, h1, h2⟩ := S.list ho
      exact ⟨_, .inl ⟨vs, SqL.of h1, rfl⟩, by rw [isEmpty_len h2.length.symm]; exact q⟩
    | _ => exact (show False from h).elim
  | obj _ _ _ => exact (show False from h).elim
  | exc _ _ _ => exact (show False from h).elim
  | dic _ _ => exact (show False from h).elim
/-- any expression whose test is its value's truth -/
theorem wt_val {a : Expr} {Q : Bool → Opens → Prop} (h : We Γ a ρ O fun d O1 => TruQ d O1 Q) (he : ∀ (env : Env) (whole : Sem Value), isTrue a env whole = (do let v ← whole; standAt a.pos; holding [v] (truthy v)) := by intro _ _; rfl) : WT Γ a ρ O Q := fun F σ H e0 s r X hX pins st I => by
  refine (pt_truth (Ev.pe hX a) (he X.env)).run pins st σ H _ I ((h F σ H e0 s r).mono fun v H1 ⟨d, F1, O1, e1, s1, r1, q1⟩ => ?_)
  obtain ⟨k, h1, h2⟩ := tru_of (X := X) hX.K s1 r1 q1
  exact ⟨k, h1, F1, O1, e1, s1, h2⟩

/-! ### and, or, not as values; a if t else b -/
theorem we_not {a : Expr} {pos : Pos} (h : We Γ a ρ O fun d O1 => ∃ k, d = .bl k ∧ Q (.bl (!k)) O1) : We Γ (.UnaryOp .Not a pos) ρ O Q := fun F σ H e0 s r X hX pins st I =>
  (pe_not (Ev.pe hX a)).run pins st σ H _ I ((h F σ H e0 s r).mono fun v H1 ⟨d, F1, O1, e1, s1, r1, k, hk, q1⟩ => by subst hk; cases r1; exact ⟨k, rfl, kv1 e1 s1 rep_bl q1⟩)
theorem we_one {op : BoolOp} {a : Expr} {pos : Pos} (h : We Γ a ρ O Q) : We Γ (.BoolOp op [a] pos) ρ O Q := fun F σ H e0 s r X hX pins st I => (pe_one (Ev.pe hX a)).run pins st σ H _ I (h F σ H e0 s r)
theorem we_and {a b : Expr} {es : List Expr} {pos : Pos} (h : We Γ a ρ O fun d O1 => ∃ k, d = .bl k ∧ if k = true then We Γ (.BoolOp .And (b :: es) pos) ρ O1 Q else Q (.bl false) O1) : We Γ (.BoolOp .And (a :: b :: es) pos) ρ O Q := fun F σ H e0 s r X hX pins st I => by
  refine (pe_and (Ev.pe hX a) (Ev.pe hX _)).run pins st σ H _ I ((h F σ H e0 s r).mono fun v H1 ⟨d, F1, O1, e1, s1, r1, k, hk, q1⟩ => ?_)
  subst hk
  cases r1
  refine ⟨k, rfl, ?_⟩
  cases k with
  | true => exact We.at (Q' := Q) (by simpa using q1) e0 e1 s1 (r.mono e1) fun _ _ q => q
  | false => exact kv1 e1 s1 rep_bl (by simpa using q1)
theorem we_or {a b : Expr} {es : List Expr} {pos : Pos} (h : We Γ a ρ O fun d O1 => ∃ k, d = .bl k ∧ if k = true then Q (.bl true) O1 else We Γ (.BoolOp .Or (b :: es) pos) ρ O1 Q) : We Γ (.BoolOp .Or (a :: b :: es) pos) ρ O Q := fun F σ H e0 s r X hX pins st I => by
  refine (pe_or (Ev.pe hX a) (Ev.pe hX _)).run pins st σ H _ I ((h F σ H e0 s r).mono fun v H1 ⟨d, F1, O1, e1, s1, r1, k, hk, q1⟩ => ?_)
  subst hk
  cases r1
  refine ⟨k, rfl, ?_⟩
  cases k with
  | false => exact We.at (Q' := Q) (by simpa using q1) e0 e1 s1 (r.mono e1) fun _ _ q => q
  | true => exact kv1 e1 s1 rep_bl (by simpa using q1)
theorem we_if {c a b : Expr} {pos : Pos} (h : WT Γ c ρ O fun k O1 => if k = true then We Γ a ρ O1 Q else We Γ b ρ O1 Q) : We Γ (.IfExp c a b pos) ρ O Q := fun F σ H e0 s r X hX pins st I => by
  refine (pe_ifExp (EvT.pt hX c) (Ev.pe hX a) (Ev.pe hX b)).run pins st σ H _ I ((h F σ H e0 s r).mono fun k H1 ⟨F1, O1, e1, s1, q1⟩ => ?_)
  cases k with
  | true => exact We.at (Q' := Q) (by simpa using q1) e0 e1 s1 (r.mono e1) fun _ _ q => q
  | false => exact We.at (Q' := Q) (by simpa using q1) e0 e1 s1 (r.mono e1) fun _ _ q => q
theorem we_neg {a : Expr} {pos : Pos} (h : We Γ a ρ O fun d O1 => ∃ i, d = .int i ∧ Q (.int (-i)) O1) : We Γ (.UnaryOp .USub a pos) ρ O Q := fun F σ H e0 s r X hX pins st I =>
  (pe_un un_neg (Ev.pe hX a)).run pins st σ H _ I ((h F σ H e0 s r).mono fun v H1 ⟨d, F1, O1, e1, s1, r1, k, hk, q1⟩ => by subst hk; cases r1; exact ⟨k, rfl, kv1 e1 s1 rep_int q1⟩)

/-! ### arguments, displays -/
def KA (Γ : G) (F : Fr) (Q : List D → Opens → Prop) : List V → Hp → Prop := fun vs H' => ∃ ds F' O', Ext F F' ∧ Stt Γ.M.K F' O' H' ∧ Reps Γ.M.K F' ds vs ∧ Q ds O'
theorem wa_nil {Q : List D → Opens → Prop} (h : Q [] O) : WA Γ [] ρ O Q := fun F σ H e0 s r X hX pos pins st I => pa_nil.run pos pins st σ H _ I ⟨[], F, O, Ext.refl F, s, rfl, h⟩
theorem wa_cons {e : Expr} {es : List Expr} {Q : List D → Opens → Prop} (h : We Γ e ρ O fun d O1 => WA Γ es ρ O1 fun ds O2 => Q (d :: ds) O2) (hs : ∀ env, starEach (e :: es) env = (false, eval e env) :: starEach es env := by intro _; rfl) : WA Γ (e :: es) ρ O Q := fun F σ H e0 s r X hX pos pins st I => by
  refine (pa_cons (Ev.pe hX e) (EvA.pa hX es) (hs X.env)).run pos pins st σ H _ I ((h F σ H e0 s r).mono fun v H1 ⟨d, F1, O1, e1, s1, r1, q1⟩ => ?_)
  refine (q1 F1 σ H1 (e0.trans e1) s1 (r.mono e1)).mono fun vs H2 ⟨ds, F2, O2, e2, s2, r2, q2⟩ => ?_
  exact ⟨d :: ds, F2, O2, e1.trans e2, s2, Reps.cons (r1.mono e2) r2, q2⟩
theorem we_tup {es : List Expr} {k : Nat} {pos : Pos} (h : WA Γ es ρ O fun ds O1 => ds.length ≤ sizeLine ∧ Q (.tup ds) O1) : We Γ (.Tuple es k pos) ρ O Q := fun F σ H e0 s r X hX pins st I =>
  (pe_tup (EvA.pa hX es)).run pins st σ H _ I ((h F σ H e0 s r).mono fun vs H1 ⟨ds, F1, O1, e1, s1, r1, hz, q1⟩ => ⟨by rw [← r1.length]; exact hz, fun p hp => KV'.mono e1 (fun _ _ q => q) (kv_tup s1 hp r1 q1)⟩)
theorem we_lst {es : List Expr} {pos : Pos} (h : WA Γ es ρ O fun ds O1 => ds.length ≤ sizeLine ∧ Q (.lst ds) O1) : We Γ (.List es pos) ρ O Q := fun F σ H e0 s r X hX pins st I =>
  (pe_lst (EvA.pa hX es)).run pins st σ H _ I ((h F σ H e0 s r).mono fun vs H1 ⟨ds, F1, O1, e1, s1, r1, hz, q1⟩ => ⟨by rw [← r1.length]; exact hz, fun p hp => KV'.mono e1 (fun _ _ q => q) (kv_lst s1 hp r1 q1)⟩)
/-- a list left open -/
theorem we_lstO {es : List Expr} {pos : Pos} (h : WA Γ es ρ O fun ds O1 => ds.length ≤ sizeLine ∧ ∀ p, O1 p = none → Q (.raw (.ref p)) (O1.up p (.lst ds))) : We Γ (.List es pos) ρ O Q := fun F σ H e0 s r X hX pins st I =>
  (pe_lst (EvA.pa hX es)).run pins st σ H _ I ((h F σ H e0 s r).mono fun vs H1 ⟨ds, F1, O1, e1, s1, r1, hz, q1⟩ => ⟨by rw [← r1.length]; exact hz, fun p hp => KV'.mono e1 (fun _ _ q => q) (kv_opn s1 hp r1 q1)⟩)

/-! ### items, slices -/
def IxQ : D2 := fun x y O Q => match x, y with
  | .tup ds, .int i => ∃ d, atI ds i = some d ∧ Q d O
  | .lst ds, .int i => ∃ d, atI ds i = some d ∧ Q d O
  | .rls ds, .int i => ∃ d, atI ds i = some d ∧ Q d O
  | .raw (.ref a), .int i => ∃ ds d, O a = some (.lst ds) ∧ atI ds i = some d ∧ Q d O
  | .str z, .int i => z.length ≤ sizeLine ∧ ∃ c, atI z.cps.toList i = some c ∧ Q (.str ⟨#[c]⟩) O
  | _, _ => False
theorem at_reps {K : PySem.W.Frag} {ds : List D} {vs : List V} {i : Int} {d : D} (h : Reps K F ds vs) (e : atI ds i = some d) : ∃ v, atI vs i = some v ∧ Rep K F d v := by
  unfold atI at e ⊢
  rw [← h.length]
  obtain ⟨j, hj, e⟩ := Option.bind_eq_some_iff.mp e
  obtain ⟨v, h1, h2⟩ := h.get e
  exact ⟨v, Option.bind_eq_some_iff.mpr ⟨j, hj, h1⟩, h2⟩
theorem we_ix {a b : Expr} {pos : Pos} (h : We Γ a ρ O fun x O1 => We Γ b ρ O1 fun y O2 => IxQ x y O2 Q) (hb : ∀ o i, subscripted b false o i = operate [o, i] (getItem o i) := by exact fun _ _ => rfl) : We Γ (.Subscript a b pos) ρ O Q := fun F σ H e0 s r X hX pins st I => by
  refine (pe_ix ix_seq (Ev.pe hX a) (Ev.pe hX b) hb).run pins st σ H _ I ((two (t := IxQ) e0 s r h).mono fun x H1 qq => qq.mono fun y H2 ⟨F2, O2, dx, dy, Q2, g1, S, rx, ry, hh, g6⟩ => ?_)
  have hK := hX.K
  unfold IxQ at hh
  split at hh
  · obtain ⟨d, e, q⟩ := hh
    obtain ⟨p, xs, rfl, h1, h2⟩ := rx
    cases ry
    obtain ⟨v, e1, e2⟩ := at_reps h2 e
    exact .inr (.inl ⟨p, xs, _, v, rfl, rfl, S.ext.seqT (hK ▸ h1), e1, g6 _ _ (kv S e2 q)⟩)
  · obtain ⟨d, e, q⟩ := hh
    obtain ⟨p, xs, rfl, h1, h2⟩ := rx
    cases ry
    obtain ⟨v, e1, e2⟩ := at_reps h2 e
    exact .inl ⟨p, xs, _, v, rfl, rfl, SqL.of (S.ext _ _ h1), e1, g6 _ _ (kv S e2 q)⟩
  · obtain ⟨d, e, q⟩ := hh
    obtain ⟨p, xs, rfl, h1, h2⟩ := rx
    cases ry
    obtain ⟨v, e1, e2⟩ := at_reps h2 e
    exact .inl ⟨p, xs, _, v, rfl, rfl, S.ext.seqL (hK ▸ h1), e1, g6 _ _ (kv S e2 q)⟩
  · obtain ⟨ds, d, ho, e, q⟩ := hh
    cases rx
    cases ry
    obtain ⟨vs, h1, h2⟩ := S.list ho
    obtain ⟨v, e1, e2⟩ := at_reps h2 e
    exact .inl ⟨_, vs, _, v, rfl, rfl, SqL.of h1, e1, g6 _ _ (kv S e2 q)⟩
  · obtain ⟨hz, c, e, q⟩ := hh
    cases rx
    cases ry
    exact .inr (.inr ⟨_, _, c, rfl, rfl, hz, e, g6 _ _ (kv S rep_str q)⟩)
  · exact hh.elim
/-- a slice's part -/
def WO (Γ : G) (e : Option Expr) (ρ : Env') (O : Opens) (Q : Option Int → Opens → Prop) : Prop := match e with
  | none => Q none O
  | some e => We Γ e ρ O fun d O1 => ∃ i, d = .int i ∧ Q (some i) O1
def EvO (Γ : G) (e : Option Expr) (σ : L2.St) (H : Hp) (Q : Option Int → Hp → Prop) : Prop := match e with
  | none => Q none H
  | some e => Ev Γ e σ H fun x H1 => ∃ i, x = .int i ∧ Q (some i) H1
theorem EvO.po {X : Cx} (hX : Γ.Has X) (e : Option Expr) : PO X e (EvO Γ e) := by
  cases e with
  | none => exact po_none
  | some e => exact po_some (Ev.pe hX e)
theorem EvO.mono' {e : Option Expr} {Q Q' : Option Int → Hp → Prop} (h : EvO Γ e σ H Q) (m : ∀ v H, Q v H → Q' v H) : EvO Γ e σ H Q' := by
  cases e with
  | none => exact m _ _ h
  | some e => exact Ev.mono h fun v H1 ⟨i, hi, q⟩ => ⟨i, hi, m _ _ q⟩
theorem WO.run {e : Option Expr} {Q : Option Int → Opens → Prop} (h : WO Γ e ρ O Q) (e0 : Ext Γ.F0 F) (s : Stt Γ.M.K F O H) (r : EnvR Γ.M.K F ρ σ) : EvO Γ e σ H fun o H' => ∃ (F' : Fr) (O' : Opens), Ext F F' ∧ Stt Γ.M.K F' O' H' ∧ Q o O' := by
  cases e with
  | none => exact ⟨F, O, Ext.refl F, s, h⟩
  | some e => exact (show We Γ e ρ O _ from h) F σ H e0 s r |>.mono fun v H1 ⟨d, F1, O1, e1, s1, r1, i, hi, q⟩ => by subst hi; cases r1; exact ⟨i, rfl, F1, O1, e1, s1, q⟩
def cutD (xs : List D) (lo hi : Option Int) : List D := (xs.drop (HT.sIx xs.length 0 lo)).take (HT.sIx xs.length xs.length hi - HT.sIx xs.length 0 lo)
theorem cut_reps {K : PySem.W.Frag} {ds : List D} {vs : List V} {lo hi : Option Int} (h : Reps K F ds vs) : Reps K F (cutD ds lo hi) (cutV vs lo hi) := by
  unfold cutD cutV
  rw [h.length]
  exact (h.drop _).take _
def SlQ (x : D) (lo hi : Option Int) (O : Opens) (Q : DK) : Prop := match x with
  | .tup ds => Q (.tup (cutD ds lo hi)) O
  | .lst ds => Q (.lst (cutD ds lo hi)) O
  | .rls ds => Q (.lst (cutD ds lo hi)) O
  | .raw (.ref a) => ∃ ds, O a = some (.lst ds) ∧ Q (.lst (cutD ds lo hi)) O
  | .str z => z.length ≤ sizeLine ∧ Q (.str (cutS z lo hi)) O
  | _ => False
theorem cut_whole {xs : List V} {lo hi : Option Int} (h : HT.sIx xs.length 0 lo = 0 ∧ HT.sIx xs.length xs.length hi = xs.length) : cutV xs lo hi = xs := by
  unfold cutV
  rw [h.1, h.2]
  simp
theorem we_slice {e : Expr} {lo hi : Option Expr} {p2 pos : Pos} (h : We Γ e ρ O fun x O1 => WO Γ lo ρ O1 fun l O2 => WO Γ hi ρ O2 fun u O3 => SlQ x l u O3 Q) : We Γ (.Subscript e (.Slice lo hi none p2) pos) ρ O Q := fun F σ H e0 s r X hX pins st I => by
  refine (pe_slice (sl_list.or (sl_tupA.or sl_str)) (Ev.pe hX e) (EvO.po hX lo) (EvO.po hX hi)).run pins st σ H _ I ?_
  refine (h F σ H e0 s r).mono fun x H1 ⟨dx, F1, O1, e1, s1, rx, q1⟩ => ?_
  refine (EvO.mono' (q1.run (e0.trans e1) s1 (r.mono e1)) fun l H2 ⟨F2, O2, e2, s2, q2⟩ => ?_)
  refine (EvO.mono' (q2.run (e0.trans (e1.trans e2)) s2 (r.mono (e1.trans e2))) fun u H3 ⟨F3, O3, e3, S, hh⟩ => ?_)
  have hK := hX.K
  have rx := rx.mono (e2.trans e3)
  have ee := (e1.trans e2).trans e3
  unfold SlQ at hh
  split at hh
  · obtain ⟨p, xs, rfl, h1, h2⟩ := rx
    refine .inr (.inl ⟨p, xs, rfl, S.ext.seqT (hK ▸ h1), fun w => ?_, fun _ l hl => KV'.mono ee (fun _ _ q => q) (kv_tup S hl (cut_reps h2) hh)⟩)
    have c := cut_reps (lo := l) (hi := u) h2
    rw [cut_whole w] at c
    exact kv1 ee S (rep_tup h1 c) hh
  · obtain ⟨p, xs, rfl, h1, h2⟩ := rx
    exact .inl ⟨p, xs, rfl, SqL.of (S.ext _ _ h1), fun l hl => KV'.mono ee (fun _ _ q => q) (kv_lst S hl (cut_reps h2) hh)⟩
  · obtain ⟨p, xs, rfl, h1, h2⟩ := rx
    exact .inl ⟨p, xs, rfl, S.ext.seqL (hK ▸ h1), fun l hl => KV'.mono ee (fun _ _ q => q) (kv_lst S hl (cut_reps h2) hh)⟩
  · obtain ⟨ds, ho, hh⟩ := hh
    cases rx
    obtain ⟨vs, h1, h2⟩ := S.list ho
    exact .inl ⟨_, vs, rfl, SqL.of h1, fun l hl => KV'.mono ee (fun _ _ q => q) (kv_lst S hl (cut_reps h2) hh)⟩
  · cases rx
    exact .inr (.inr ⟨_, rfl, hh.1, kv1 ee S rep_str hh.2⟩)
  · exact hh.elim
end
end DL

/-! DLD: rules: statements, targets, loops, comprehensions, calls of own defs. -/
namespace DL
open PySem PySem.Spec PyProof.Rows L2

section
variable {Γ : G} {ρ : Env'} {O : Opens} {Z : EndsD} {Q : DK} {σ : L2.St} {H : Hp} {F : Fr}
theorem KE'.mono {st : List Stmt} {F F' : Fr} (e : Ext F F') (h : EvSs Γ st (KE' Γ F' Z) σ H) : EvSs Γ st (KE' Γ F Z) σ H :=
  h.mono (fun _ _ q => KS.mono e (fun _ _ q => q) q) (fun _ _ q => KV'.mono e (fun _ _ q => q) q) (fun _ _ q => KS.mono e (fun _ _ q => q) q) (fun _ _ q => KS.mono e (fun _ _ q => q) q)
theorem KE'.mono1 {st : Stmt} {F F' : Fr} (e : Ext F F') (h : EvS Γ st (KE' Γ F' Z) σ H) : EvS Γ st (KE' Γ F Z) σ H :=
  h.mono (fun _ _ q => KS.mono e (fun _ _ q => q) q) (fun _ _ q => KV'.mono e (fun _ _ q => q) q) (fun _ _ q => KS.mono e (fun _ _ q => q) q) (fun _ _ q => KS.mono e (fun _ _ q => q) q)
theorem ks {F' : Fr} {ρ' : Env'} {O' : Opens} {Q : Env' → Opens → Prop} (e : Ext F F') (s : Stt Γ.M.K F' O' H) (r : EnvR Γ.M.K F' ρ' σ) (q : Q ρ' O') : KS Γ F Q σ H := ⟨ρ', F', O', e, s, r, q⟩
/-! ### blocks -/
theorem wss_nil (h : Z.nx ρ O) : WSs Γ [] ρ O Z := fun F σ H e0 s r X hX pins st I => pss_nil.run pins st σ H _ I (ks (Ext.refl F) s r h)
theorem wss_cons {st : Stmt} {rest : List Stmt} (h : WS Γ st ρ O { Z with nx := fun ρ' O' => WSs Γ rest ρ' O' Z }) : WSs Γ (st :: rest) ρ O Z := fun F σ H e0 s r X hX pins sh I => by
  refine (pss_cons (EvS.ps hX st) (EvSs.pss hX rest)).run pins sh σ H _ I ((h F σ H e0 s r).mono (fun σ' H' ⟨ρ', F', O', e1, s1, r1, q⟩ => ?_) (fun _ _ q => q) (fun _ _ q => q) fun _ _ q => q)
  exact KE'.mono e1 (q F' σ' H' (e0.trans e1) s1 r1)
theorem ws_pass {pos : Pos} (h : Z.nx ρ O) : WS Γ (.Pass pos) ρ O Z := fun F σ H e0 s r X hX pins st I => ps_pass.run pins st σ H _ I (ks (Ext.refl F) s r h)
theorem ws_break {pos : Pos} (h : Z.bk ρ O) : WS Γ (.Break pos) ρ O Z := fun F σ H e0 s r X hX pins st I => ps_break.run pins st σ H _ I (ks (Ext.refl F) s r h)
theorem ws_continue {pos : Pos} (h : Z.ct ρ O) : WS Γ (.Continue pos) ρ O Z := fun F σ H e0 s r X hX pins st I => ps_continue.run pins st σ H _ I (ks (Ext.refl F) s r h)
theorem ws_expr {e : Expr} {pos : Pos} (h : We Γ e ρ O fun _ O1 => Z.nx ρ O1) (hs : ∀ env, env.scope = Γ.sc → swapsWith e none pos.line env = pure false := by intro _ _; rfl) : WS Γ (.Expr e pos) ρ O Z := fun F σ H e0 s r X hX pins st I =>
  (ps_expr (Ev.pe hX e) (hs X.env hX.sc)).run pins st σ H _ I ((h F σ H e0 s r).mono fun v H1 ⟨d, F1, O1, e1, s1, r1, q1⟩ => ks e1 s1 (r.mono e1) q1)
theorem ws_ret {e : Expr} {pos : Pos} (h : We Γ e ρ O Z.rt) : WS Γ (.Return (some e) pos) ρ O Z := fun F σ H e0 s r X hX pins st I => (ps_ret (Ev.pe hX e)).run pins st σ H _ I (h F σ H e0 s r)
theorem ws_retN {pos : Pos} (h : Z.rt .non O) : WS Γ (.Return none pos) ρ O Z := fun F σ H e0 s r X hX pins st I => ps_retN.run pins st σ H _ I (kv s rep_non h)
theorem ws_if {c : Expr} {a b : List Stmt} {pos : Pos} (h : WT Γ c ρ O fun k O1 => if k = true then WSs Γ a ρ O1 Z else WSs Γ b ρ O1 Z) : WS Γ (.If c a b pos) ρ O Z := fun F σ H e0 s r X hX pins st I => by
  refine (ps_if (EvT.pt hX c) (EvSs.pss hX a) (EvSs.pss hX b)).run pins st σ H _ I ((h F σ H e0 s r).mono fun k H1 ⟨F1, O1, e1, s1, q1⟩ => ?_)
  cases k with
  | true => exact KE'.mono e1 ((show WSs Γ a ρ O1 Z by simpa using q1) F1 σ H1 (e0.trans e1) s1 (r.mono e1))
  | false => exact KE'.mono e1 ((show WSs Γ b ρ O1 Z by simpa using q1) F1 σ H1 (e0.trans e1) s1 (r.mono e1))

/-! ### targets -/
def EvG (Γ : G) (tg : Expr) (v : V) (σ : L2.St) (H : Hp) (Q : L2.St → Hp → Prop) : Prop := ∀ X, Γ.Has X → ∀ pins s u, Inv X pins σ H s → RelV v u → wpAny (model X.prog X.w) X.A (assign tg X.env u) (fun _ s' => ∃ σ' H', Inv X pins σ' H' s' ∧ Q σ' H') X.xe s
theorem EvG.pg {X : Cx} (h : Γ.Has X) (tg : Expr) : PG X tg (EvG Γ tg) := ⟨fun pins s σ H v u Q I r q => q X h pins s u I r⟩
theorem EvG.mono {tg : Expr} {v : V} {Q Q' : L2.St → Hp → Prop} (h : EvG Γ tg v σ H Q) (m : ∀ σ H, Q σ H → Q' σ H) : EvG Γ tg v σ H Q' := fun X hX pins s u I r => thn (h X hX pins s u I r) fun _ _ ⟨σ', H', I', q⟩ => ⟨σ', H', I', m _ _ q⟩
def EvGs (Γ : G) (tg : List Expr) (v : List V) (σ : L2.St) (H : Hp) (Q : L2.St → Hp → Prop) : Prop := ∀ X, Γ.Has X → ∀ pins s u, Inv X pins σ H s → Vals v u → wpAny (model X.prog X.w) X.A (assignInOrder ((assignEach tg X.env).map (·.2)) u) (fun _ s' => ∃ σ' H', Inv X pins σ' H' s' ∧ Q σ' H') X.xe s
theorem EvGs.pgs {X : Cx} (h : Γ.Has X) (tg : List Expr) : PGs X tg (EvGs Γ tg) := ⟨fun pins s σ H v u Q I r q => q X h pins s u I r⟩
def WG (Γ : G) (tg : Expr) (d : D) (ρ : Env') (O : Opens) (Q : Env' → Opens → Prop) : Prop := ∀ F σ H v, Ext Γ.F0 F → Stt Γ.M.K F O H → EnvR Γ.M.K F ρ σ → Rep Γ.M.K F d v → EvG Γ tg v σ H (KS Γ F Q)
def WGs (Γ : G) (tg : List Expr) (ds : List D) (ρ : Env') (O : Opens) (Q : Env' → Opens → Prop) : Prop := ∀ F σ H vs, Ext Γ.F0 F → Stt Γ.M.K F O H → EnvR Γ.M.K F ρ σ → Reps Γ.M.K F ds vs → EvGs Γ tg vs σ H (KS Γ F Q)
theorem wg_name {i : Nat} {x : Str} {pos : Pos} {d : D} {Q : Env' → Opens → Prop} (hN : Γ.N[i]? = some x) (hl : Loc Γ.ss x) (h : Q (ρ.set i (some d)) O) : WG Γ (.Name x pos) d ρ O Q := fun F σ H v e0 s r rv X hX pins st u I ru => by
  obtain ⟨h1, h2⟩ := hX.fn x hl
  exact (pg_name (X := X) (i := i) (by rw [hX.N]; exact hX.nd) (by rw [hX.N]; exact hN) h1 h2).run pins st σ H v u _ I ru (ks (Ext.refl F) s (r.set i rv) h)
theorem wgs_nil {Q : Env' → Opens → Prop} (h : Q ρ O) : WGs Γ [] [] ρ O Q := fun F σ H vs e0 s r rv X hX pins st u I ru => by
  cases (show vs = [] from rv)
  exact pgs_nil.run pins st σ H _ u _ I ru ⟨rfl, ks (Ext.refl F) s r h⟩
theorem wgs_cons {e : Expr} {es : List Expr} {d : D} {ds : List D} {Q : Env' → Opens → Prop} (h : WG Γ e d ρ O fun ρ' O' => WGs Γ es ds ρ' O' Q) (hs : ∀ env, (assignEach (e :: es) env).map (·.2) = assign e env :: (assignEach es env).map (·.2) := by intro _; rfl) : WGs Γ (e :: es) (d :: ds) ρ O Q := fun F σ H vs e0 s r rv X hX pins st u I ru => by
  obtain ⟨v, t, rfl, h1, h2⟩ := rv
  refine (pgs_cons (EvG.pg hX e) (EvGs.pgs hX es) (hs X.env)).run pins st σ H _ u _ I ru ⟨v, t, rfl, (h F σ H v e0 s r h1).mono fun σ1 H1 ⟨ρ1, F1, O1, e1, s1, r1, q1⟩ => ?_⟩
  exact fun X hX pins st u I ru => thn (q1 F1 σ1 H1 t (e0.trans e1) s1 r1 (h2.mono e1) X hX pins st u I ru) fun _ _ ⟨σ', H', I', q⟩ => ⟨σ', H', I', KS.mono e1 (fun _ _ q => q) q⟩
theorem wg_tup {es : List Expr} {k : Nat} {pos : Pos} {ds : List D} {Q : Env' → Opens → Prop} {n : Nat} (hh : Γ.hot = false) (hl : ds.length = n) (h : WGs Γ es ds ρ O Q) (hn : ∀ env, (assignEach es env).length = n := by intro _; rfl) (hst : ∀ env, (assignEach es env).findIdx? (·.1) = none := by intro _; rfl) : WG Γ (.Tuple es k pos) (.tup ds) ρ O Q := fun F σ H v e0 s r rv X hX pins st u I ru => by
  obtain ⟨a, vs, rfl, h1, h2⟩ := rv
  exact (pg_tup (hX.calm hh) (EvGs.pgs hX es) (hn X.env) (hst X.env)).run pins st σ H _ u _ I ru ⟨a, vs, rfl, s.ext.seqT (hX.K ▸ h1), by rw [← h2.length]; exact hl, h F σ H vs e0 s r h2⟩
/-- xs[i] = v, the list open -/
theorem wg_sub {o i : Expr} {pos : Pos} {d : D} {Q : Env' → Opens → Prop} (h : We Γ o ρ O fun x O1 => We Γ i ρ O1 fun y O2 => ∃ a ds k j, x = .raw (.ref a) ∧ y = .int k ∧ O2 a = some (.lst ds) ∧ ixN ds.length k = some j ∧ Q ρ (O2.up a (.lst (ds.set j d))))
    (ha : ∀ env v, assign (.Subscript o i pos) env v = (do let ov ← holding [v] (eval o env); let iv ← holding [v, ov] (eval i env); standAt pos; holding [v, ov, iv] (setItem ov iv v); release [v, ov, iv] []) := by intro _ _; rfl) : WG Γ (.Subscript o i pos) d ρ O Q := fun F σ H v e0 s r rv X hX pins st u I ru => by
  refine (pg_sub (Ev.pe hX o) (Ev.pe hX i) set_list (ha X.env)).run pins st σ H v u _ I ru ((h F σ H e0 s r).mono fun x H1 ⟨dx, F1, O1, e1, s1, rx, q1⟩ => ?_)
  refine (q1 F1 σ H1 (e0.trans e1) s1 (r.mono e1)).mono fun y H2 ⟨dy, F2, O2, e2, s2, ry, a, ds, k, j, hx, hy, ho, hj, q⟩ => ?_
  subst hx hy
  cases rx; cases ry
  obtain ⟨vs, g1, g2⟩ := s2.list ho
  have e := e1.trans e2
  exact ⟨a, vs, k, j, rfl, rfl, g1, by rw [← g2.length]; exact hj, ks e (s2.change ho (u := .lst (ds.set j d)) ⟨_, rfl, g2.set j (rv.mono e)⟩) (r.mono e) q⟩
theorem ws_asg {tg e : Expr} {pos : Pos} (h : We Γ e ρ O fun d O1 => WG Γ tg d ρ O1 Z.nx) (hs : ∀ env, env.scope = Γ.sc → swapsWithSole [tg] e pos.line env = pure false := by intro _ _; rfl) (hw : ∀ env, env.scope = Γ.sc → swappedStores [tg] e env = pure none := by intro _ _; rfl)
    (h1 : ∀ env, (assignEach [tg] env).map (·.2) = [assign tg env] := by intro _; rfl) : WS Γ (.Assign [tg] e pos) ρ O Z := fun F σ H e0 s r X hX pins st I =>
  (ps_asg (Ev.pe hX e) (EvG.pg hX tg) (hs X.env hX.sc) (hw X.env hX.sc) (h1 X.env)).run pins st σ H _ I ((h F σ H e0 s r).mono fun v H1 ⟨d, F1, O1, e1, s1, r1, q1⟩ => (q1 F1 σ H1 v (e0.trans e1) s1 (r.mono e1) r1).mono fun _ _ q => KS.mono e1 (fun _ _ q => q) q)
theorem ws_set {i : Nat} {x : Str} {e : Expr} {pos pos' : Pos} (hN : Γ.N[i]? = some x) (hl : Loc Γ.ss x) (h : We Γ e ρ O fun d O1 => Z.nx (ρ.set i (some d)) O1) (hs : ∀ env, env.scope = Γ.sc → swapsWith e (some (.Name x pos')) pos.line env = pure false := by intro _ _; rfl) : WS Γ (.Assign [.Name x pos'] e pos) ρ O Z := fun F σ H e0 s r X hX pins st I => by
  obtain ⟨h1, h2⟩ := hX.fn x hl
  exact (ps_set (X := X) (i := i) (by rw [hX.N]; exact hX.nd) (by rw [hX.N]; exact hN) h1 (Ev.pe hX e) (hs X.env hX.sc) h2).run pins st σ H _ I ((h F σ H e0 s r).mono fun v H1 ⟨d, F1, O1, e1, s1, r1, q1⟩ => ks e1 s1 ((r.mono e1).set i r1) q1)
/-- a, b = x, y -/
theorem ws_par {i j : Nat} {x y : Str} {a b : Expr} {px py pt pos : Pos} {kt k2 pt2} (hh : Γ.hot = false) (hi : Γ.N[i]? = some x) (hj : Γ.N[j]? = some y) (hij : i ≠ j) (hx : Γ.sc.names.lookup x = some .local) (hy : Γ.sc.names.lookup y = some .local)
    (h : We Γ a ρ O fun u O1 => We Γ b ρ O1 fun v O2 => Z.nx ((ρ.set i (some u)).set j (some v)) O2)
    (hw : ∀ env, env.scope = Γ.sc → swappedStores [.Tuple [.Name x px, .Name y py] kt pt] (.Tuple [a, b] k2 pt2) env = pure (some [x, y])) (hs : ∀ env, env.scope = Γ.sc → swapsWithSole [.Tuple [.Name x px, .Name y py] kt pt] (.Tuple [a, b] k2 pt2) pos.line env = pure false := by intro _ _; rfl)
    (h1 : ∀ env, starEach [a, b] env = (false, eval a env) :: starEach [b] env := by intro _; rfl) (h2 : ∀ env, starEach [b] env = (false, eval b env) :: starEach [] env := by intro _; rfl) :
    WS Γ (.Assign [.Tuple [.Name x px, .Name y py] kt pt] (.Tuple [a, b] k2 pt2) pos) ρ O Z := fun F σ H e0 s r X hX pins st I => by
  have ha : WA Γ [a, b] ρ O fun ds O2 => ∃ u v, ds = [u, v] ∧ Z.nx ((ρ.set i (some u)).set j (some v)) O2 := wa_cons (h.imp fun u O1 q => wa_cons (q.imp fun v O2 q => wa_nil ⟨u, v, rfl, q⟩) h2) h1
  refine (ps_par (X := X) (i := i) (j := j) (hX.calm hh) (by rw [hX.N]; exact hX.nd) (by rw [hX.N]; exact hi) (by rw [hX.N]; exact hj) hij (by rw [hX.sc]; exact hx) (by rw [hX.sc]; exact hy) (EvA.pa hX _) (hw X.env hX.sc) (hs X.env hX.sc)).run pins st σ H _ I ?_
  refine (ha F σ H e0 s r).mono fun vs H1 ⟨ds, F1, O1, e1, s1, r1, u, v, hd, q⟩ => ?_
  subst hd
  obtain ⟨v1, t1, rfl, g1, g2⟩ := r1
  obtain ⟨v2, t2, rfl, g3, g4⟩ := g2
  cases (show t2 = [] from g4)
  exact ⟨v1, v2, rfl, ks e1 s1 (((r.mono e1).set i g1).set j g3) q⟩

/-! ### while -/
theorem ws_while {c : Expr} {body : List Stmt} {pos : Pos} (W : Nat → Env' → Opens → Prop) (n : Nat) (h0 : W n ρ O)
    (hs : ∀ n ρ' O', W n ρ' O' → WT Γ c ρ' O' fun k O1 => if k = true then WSs Γ body ρ' O1 { Z with nx := fun ρ2 O2 => ∃ m, m < n ∧ W m ρ2 O2, ct := fun ρ2 O2 => ∃ m, m < n ∧ W m ρ2 O2, bk := Z.nx } else Z.nx ρ' O1) : WS Γ (.While c body [] pos) ρ O Z := fun F σ H e0 s r X hX pins st I => by
  refine (ps_while hX.passes (EvT.pt hX c) (EvSs.pss hX body)).run pins st σ H _ I ⟨fun m σ' H' => KS Γ F (W m) σ' H', ⟨n, ks (Ext.refl F) s r h0⟩, fun m σ' H' ⟨ρ', F', O', e1, s1, r1, w1⟩ => ?_⟩
  refine (hs m ρ' O' w1 F' σ' H' (e0.trans e1) s1 r1).mono fun k H1 ⟨F2, O2, e2, s2, q2⟩ => ?_
  cases k with
  | true =>
    have q2 := (show WSs Γ body ρ' O2 _ by simpa using q2) F2 σ' H1 (e0.trans (e1.trans e2)) s2 (r1.mono e2)
    refine ⟨KS Γ F fun ρ2 O2 => ∃ m', m' < m ∧ W m' ρ2 O2, fun σ3 H3 ⟨ρ3, F3, O3, e3, s3, r3, m', hm, w3⟩ => ⟨m', hm, ρ3, F3, O3, e3, s3, r3, w3⟩, ?_⟩
    have e := e1.trans e2
    exact q2.mono (fun _ _ q => KS.mono e (fun _ _ q => q) q) (fun _ _ q => KV'.mono e (fun _ _ q => q) q) (fun _ _ q => KS.mono e (fun _ _ q => q) q) (fun _ _ q => KS.mono e (fun _ _ q => q) q)
  | false =>
    have q2 : Z.nx ρ' O2 := by simpa using q2
    exact ks (e1.trans e2) s2 (r1.mono e2) q2

/-! ### for -/
/-- over a list or tuple that is frozen -/
def seqD : D → Option (List D)
  | .tup ds => some ds
  | .lst ds => some ds
  | .rls ds => some ds
  | _ => none
/-- one loop over data: the body at each item -/
structure ForQ (Γ : G) (tg : Expr) (body : List Stmt) (Z : EndsD) (n : Nat) (it : Nat → Option D) (ρ : Env') (O : Opens) (W : Nat → Env' → Opens → Prop) : Prop where
  start : W 0 ρ O
  turn : ∀ i x ρ' O', i < n → it i = some x → W i ρ' O' → WG Γ tg x ρ' O' fun ρ2 O2 => WSs Γ body ρ2 O2 { Z with nx := W (i + 1), ct := W (i + 1), bk := Z.nx }
  stop : ∀ ρ' O', W n ρ' O' → Z.nx ρ' O'
theorem for_turn {tg : Expr} {body : List Stmt} {n : Nat} {it : Nat → Option D} {W : Nat → Env' → Opens → Prop} (T : ForQ Γ tg body Z n it ρ O W) {i : Nat} {x : D} {v : V} {F F2 : Fr} {O2 : Opens} {ρ2 : Env'} {σ2 : L2.St} {H2 : Hp} (e0 : Ext Γ.F0 F) (hi : i < n) (hx : it i = some x) (e2 : Ext F F2) (s2 : Stt Γ.M.K F2 O2 H2) (r2 : EnvR Γ.M.K F2 ρ2 σ2) (w2 : W i ρ2 O2) (rv : Rep Γ.M.K F2 x v) :
    EvG Γ tg v σ2 H2 fun σ3 H3 => EvSs Γ body { KE' Γ F Z with nx := KS Γ F (W (i + 1)), ct := KS Γ F (W (i + 1)), bk := KS Γ F Z.nx } σ3 H3 := by
  refine (T.turn i x ρ2 O2 hi hx w2 F2 σ2 H2 v (e0.trans e2) s2 r2 rv).mono fun σ3 H3 ⟨ρ3, F3, O3, e3, s3, r3, q3⟩ => ?_
  have e := e2.trans e3
  exact (q3 F3 σ3 H3 (e0.trans e) s3 r3).mono (fun _ _ q => KS.mono e (fun _ _ q => q) q) (fun _ _ q => KV'.mono e (fun _ _ q => q) q) (fun _ _ q => KS.mono e (fun _ _ q => q) q) (fun _ _ q => KS.mono e (fun _ _ q => q) q)
theorem ws_for {tg iter : Expr} {body : List Stmt} {pos : Pos} (hh : Γ.hot = false) (h : We Γ iter ρ O fun d O1 => ∃ ds, (d = .lst ds ∨ d = .rls ds) ∧ ∃ W, ForQ Γ tg body Z ds.length (fun i => ds[i]?) ρ O1 W)
    (hs : ∀ env x, foldedSetIterable iter env x = pure x := by intro _ _; rfl) : WS Γ (.For tg iter body [] pos) ρ O Z := fun F σ H e0 s r X hX pins st I => by
  refine (ps_for hX.passes (hX.calm hh) (pi_list (Ev.pe hX iter)) (EvG.pg hX tg) (EvSs.pss hX body) (hs X.env)).run pins st σ H _ I ((h F σ H e0 s r).mono fun v H1 ⟨d, F1, O1, e1, s1, r1, ds, hd, W, T⟩ => ?_)
  have hl : ∃ a vs, v = .ref a ∧ SqL Γ.M.K F1.z a vs ∧ Reps Γ.M.K F1 ds vs := by
    rcases hd with rfl | rfl
    · obtain ⟨a, vs, e, g1, g2⟩ := r1
      exact ⟨a, vs, e, SqL.of g1, g2⟩
    · exact r1
  obtain ⟨a, vs, rfl, g1, g2⟩ := hl
  have hK := hX.K
  refine ⟨a, rfl, ⟨vs, s1.ext.seqL (hK ▸ g1)⟩, for_list (K := X.K) (a := a) (xs := vs) (D := KE' Γ F Z) (fun i σ' H' => KS Γ F1 (W i) σ' H') (ks (Ext.refl F1) s1 (r.mono e1) T.start) (fun i σ' H' _ ⟨ρ', F', O', e2, s2, r2, _⟩ => ?_) (fun i v σ' H' hi ⟨ρ', F', O', e2, s2, r2, w2⟩ => ?_) (fun σ' H' ⟨ρ', F', O', e2, s2, r2, w2⟩ => ?_)⟩
  · exact s2.ext.seqL (seq_l e2.1 (hK ▸ g1))
  · obtain ⟨x, hx, rx⟩ := g2.back hi
    have hi' : i < ds.length := by
      have := (List.getElem?_eq_some_iff.mp hx).1
      exact this
    refine (for_turn T (F := F1) (e0.trans e1) hi' hx e2 s2 r2 w2 (rx.mono e2)).mono fun σ3 H3 q => q.mono (fun _ _ q => q) (fun _ _ q => KV'.mono e1 (fun _ _ q => q) q) (fun _ _ q => KS.mono e1 (fun _ _ q => q) q) (fun _ _ q => q)
  · rw [← g2.length] at w2
    exact ks (e1.trans e2) s2 r2 (T.stop _ _ w2)
theorem ws_forT {tg iter : Expr} {body : List Stmt} {pos : Pos} (hh : Γ.hot = false) (h : We Γ iter ρ O fun d O1 => ∃ ds, d = .tup ds ∧ ∃ W, ForQ Γ tg body Z ds.length (fun i => ds[i]?) ρ O1 W)
    (hs : ∀ env x, foldedSetIterable iter env x = pure x := by intro _ _; rfl) : WS Γ (.For tg iter body [] pos) ρ O Z := fun F σ H e0 s r X hX pins st I => by
  refine (ps_for hX.passes (hX.calm hh) (pi_tup (Ev.pe hX iter)) (EvG.pg hX tg) (EvSs.pss hX body) (hs X.env)).run pins st σ H _ I ((h F σ H e0 s r).mono fun v H1 ⟨d, F1, O1, e1, s1, r1, ds, hd, W, T⟩ => ?_)
  subst hd
  obtain ⟨a, vs, rfl, g1, g2⟩ := r1
  have hK := hX.K
  refine ⟨a, rfl, ⟨vs, s1.ext.seqT (hK ▸ g1)⟩, for_tup (K := X.K) (a := a) (xs := vs) (D := KE' Γ F Z) (fun i σ' H' => KS Γ F1 (W i) σ' H') (ks (Ext.refl F1) s1 (r.mono e1) T.start) (fun i σ' H' _ ⟨ρ', F', O', e2, s2, r2, _⟩ => ?_) (fun i v σ' H' hi ⟨ρ', F', O', e2, s2, r2, w2⟩ => ?_) (fun σ' H' ⟨ρ', F', O', e2, s2, r2, w2⟩ => ?_)⟩
  · exact s2.ext.seqT (seq_t e2.1 (hK ▸ g1))
  · obtain ⟨x, hx, rx⟩ := g2.back hi
    have hi' : i < ds.length := by
      have := (List.getElem?_eq_some_iff.mp hx).1
      exact this
    refine (for_turn T (F := F1) (e0.trans e1) hi' hx e2 s2 r2 w2 (rx.mono e2)).mono fun σ3 H3 q => q.mono (fun _ _ q => q) (fun _ _ q => KV'.mono e1 (fun _ _ q => q) q) (fun _ _ q => KS.mono e1 (fun _ _ q => q) q) (fun _ _ q => q)
  · rw [← g2.length] at w2
    exact ks (e1.trans e2) s2 r2 (T.stop _ _ w2)
theorem ws_forR {tg a : Expr} {body : List Stmt} {p p2 pos : Pos} (hh : Γ.hot = false) (hg : GlN Γ "range") (hm : Γ.M.mg "range" = none) (h : We Γ a ρ O fun d O1 => ∃ n : Int, d = .int n ∧ -(2 ^ 62) ≤ n ∧ n < 2 ^ 62 ∧ ∃ W, ForQ Γ tg body Z n.toNat (fun i => some (.int (i : Int))) ρ O1 W)
    (h1 : ∀ env, starEach [a] env = [(false, eval a env)] := by intro _; rfl) (hs : ∀ env x, foldedSetIterable (.Call (.Name "range" p) [a] [] p2) env x = pure x := by intro _ _; rfl) : WS Γ (.For tg (.Call (.Name "range" p) [a] [] p2) body [] pos) ρ O Z := fun F σ H e0 s r X hX pins st I => by
  refine (ps_for hX.passes (hX.calm hh) (pi_range1 (hX.gl hg) (by rw [← hX.mg]; exact hm) (pa_cons (Ev.pe hX a) pa_nil (h1 X.env)) (h1 X.env)) (EvG.pg hX tg) (EvSs.pss hX body) (hs X.env)).run pins st σ H _ I ((h F σ H e0 s r).mono fun v H1 ⟨d, F1, O1, e1, s1, r1, n, hd, b1, b2, W, T⟩ => ?_)
  subst hd
  cases r1
  refine ⟨n, rfl, b1, b2, for_range (lo := 0) (n := n.toNat) (D := KE' Γ F Z) (fun i σ' H' => KS Γ F1 (W i) σ' H') (ks (Ext.refl F1) s1 (r.mono e1) T.start) (fun i σ' H' hi ⟨ρ', F', O', e2, s2, r2, w2⟩ => ?_) (fun σ' H' ⟨ρ', F', O', e2, s2, r2, w2⟩ => ?_)⟩
  · have ez : (0 : Int) + (i : Int) = (i : Int) := Int.zero_add _
    rw [ez]
    exact (for_turn T (F := F1) (x := .int (i : Int)) (e0.trans e1) hi rfl e2 s2 r2 w2 rep_int).mono fun σ3 H3 q => q.mono (fun _ _ q => q) (fun _ _ q => KV'.mono e1 (fun _ _ q => q) q) (fun _ _ q => KS.mono e1 (fun _ _ q => q) q) (fun _ _ q => q)
  · exact ks (e1.trans e2) s2 r2 (T.stop _ _ w2)
end
end DL

/-! DLE: what a def promises over data; its body; its calls; list comprehensions. -/
namespace DL
open PySem PySem.Spec PyProof.Rows L2

/-- a promise: the arguments, what is open, what is wished of the value, of an exception -/
abbrev SpD := List D → Opens → DK → (XD → Opens → Prop) → Prop
def lift (K : PySem.W.Frag) (sp : SpD) : Sp := fun vs H Q E => ∃ (ds : List D) (F : Fr) (O : Opens) (Qd : DK) (Ed : XD → Opens → Prop), Reps K F ds vs ∧ Stt K F O H ∧ sp ds O Qd Ed ∧
  (∀ (d : D) (v : V) (F' : Fr) (O' : Opens) (H' : Hp), Ext F F' → Stt K F' O' H' → Rep K F' d v → Qd d O' → Q v H') ∧
  (∀ (x : XD) (cls : Value) (da : Option Addr) (F' : Fr) (O' : Opens) (H' : Hp), Ext F F' → Stt K F' O' H' → RepX K F' x cls da → Ed x O' → E cls da H')
structure DefD (M : Mo) (x : Str) (st : Stmt) (ps : List Str) (k : Nat) (sp : SpD) : Prop where
  ex : ∃ (f : Addr) (fd : FuncData), M.mg x = some (.ref f) ∧ Fun M.K x x st f fd ∧ FnOk M.P M.w M.K M.mg M.base (L2.CX M.P M.w) k f fd ps (lift M.K sp)
  bd : ∀ (kV doc pm : Value) (an : Option Addr) (cdv ct : Value) (us : List Value), us.length = ps.length → bindArgs (PySem.W.fnOf x x (defArgs st) (defBody st) (defScope st) .none kV doc pm an cdv ct) ⟨us, []⟩ = pure (ps.zip us)
def startD (N : List Str) (ds : List D) : Env' := ds.map some ++ List.replicate (N.length - ds.length) none
theorem start_env {K : PySem.W.Frag} {F : Fr} {N : List Str} {ds : List D} {vs : List V} (h : Reps K F ds vs) : EnvR K F (startD N ds) (L2.start N vs) := by
  refine ⟨by unfold startD L2.start; simp [h.length], fun i d e => ?_⟩
  unfold startD at e
  unfold L2.start
  by_cases hi : i < ds.length
  · rw [List.getElem?_append_left (by simpa using hi), List.getElem?_map] at e
    cases q : ds[i]? with
    | none => rw [q] at e; cases e
    | some x =>
      rw [q] at e
      cases e
      obtain ⟨v, h1, h2⟩ := h.get q
      exact ⟨v, by rw [List.getElem?_append_left (by rw [List.length_map, ← h.length]; exact hi), List.getElem?_map, h1]; rfl, h2⟩
  · rw [List.getElem?_append_right (by simpa using hi), List.getElem?_replicate] at e
    split at e <;> cases e
/-- where a def's body runs -/
def bodyG (M : Mo) (N : List Str) (sc : Scope) (k : Nat) (F0 : Fr) (E : XD → Opens → Prop) : G := ⟨M, N, sc, sc, k, false, true, F0, fun x _ O => E x O, fun _ _ _ => False⟩
theorem bodyG_has {M : Mo} {N : List Str} {qual : Str} {st : Stmt} {k : Nat} {F0 : Fr} {Ed : XD → Opens → Prop} {f : Addr} {cdv : Value} {A : Around} {outer : List Env} {s : Shared} {H : Hp} {E : XK} (hN : N.Nodup)
    (hr : Room k (A.deeper (envOfC qual (defScope st) s.heap.objs.size f cdv))) (hE : ∀ (x : XD) (cls : Value) (da : Option Addr) (F' : Fr) (O' : Opens) (H' : Hp), Ext F0 F' → Stt M.K F' O' H' → RepX M.K F' x cls da → Ed x O' → E cls da H') :
    (bodyG M N (defScope st) k F0 Ed).Has (cxOf (L2.CX M.P M.w) M.P M.w M.K M.mg M.base N qual (defScope st) f cdv A outer s H E) where
  M := rfl
  N := rfl
  nd := hN
  sc := rfl
  calm := fun _ => rfl
  room := fun _ => hr
  units := by have := hr.un; show (A.deeper (envOfC qual (defScope st) s.heap.objs.size f cdv)).units + 100 < cLine; omega
  fn := fun x h => ⟨h, .inl rfl⟩
  takes := (takes_of rfl rfl rfl rfl).imp fun c d σ H ⟨x, ρ, F, O, e0, s, r, rx, q⟩ => hE x c d F O H e0 s rx q
  passes := passes_of rfl
  stk := fun _ => ⟨rfl, rfl⟩
  pin := fun _ _ _ h => h.elim
/-- THE RULE: a def by its body -/
theorem def_ok {M : Mo} {x : Str} {st : Stmt} {f : Addr} {fd : FuncData} {N ps : List Str} {k : Nat} {sp : SpD} (hm : M.mg x = some (.ref f)) (Fn : Fun M.K x x st f fd) (S : FnScope N ps (defScope st))
    (bd : ∀ (kV doc pm : Value) (an : Option Addr) (cdv ct : Value) (us : List Value), us.length = ps.length → bindArgs (PySem.W.fnOf x x (defArgs st) (defBody st) (defScope st) .none kV doc pm an cdv ct) ⟨us, []⟩ = pure (ps.zip us))
    (len : ∀ ds O Q E, sp ds O Q E → ds.length = ps.length)
    (body : ∀ (F : Fr) (ds : List D) (O : Opens) (Qd : DK) (Ed : XD → Opens → Prop), sp ds O Qd Ed → WSs (bodyG M N (defScope st) k F Ed) (defBody st) (startD N ds) O { nx := fun _ O' => Qd .non O', rt := Qd }) : DefD M x st ps (k + 1) sp := by
  refine ⟨⟨f, fd, hm, Fn, Fn.okX S (fun vs H Q E h => ?_) fun cdv A outer s H vs Q E hr h => ?_⟩, bd⟩
  · obtain ⟨ds, F, O, Qd, Ed, r, _, q, _⟩ := h
    rw [← r.length]
    exact len _ _ _ _ q
  · obtain ⟨ds, F, O, Qd, Ed, r, S', q, hQ, hE⟩ := h
    have hX := bodyG_has (M := M) (qual := x) (st := st) (f := f) (cdv := cdv) (A := A) (outer := outer) (s := s) (H := H) (E := E) (Ed := Ed) (F0 := F) S.nd hr hE
    refine ⟨_, EvSs.pss hX (defBody st), ?_⟩
    refine (body F ds O Qd Ed q F (L2.start N vs) H (Ext.refl F) S' (start_env r)).mono (fun σ' H' ⟨ρ', F', O', e, s', r', q'⟩ => ?_) (fun v H' ⟨d, F', O', e, s', r', q'⟩ => hQ d v F' O' H' e s' r' q') (fun σ' H' ⟨ρ', F', O', e, s', r', q'⟩ => q'.elim) fun σ' H' ⟨ρ', F', O', e, s', r', q'⟩ => q'.elim
    exact hQ .non .non F' O' H' e s' rep_non q'
section
variable {Γ : G} {ρ : Env'} {O : Opens} {Z : EndsD} {Q : DK} {σ : L2.St} {H : Hp} {F : Fr} {x : Str} {st : Stmt} {ps : List Str} {k : Nat} {sp : SpD}
theorem G.Has.def_ {X : Cx} (hX : Γ.Has X) (h : DefD Γ.M x st ps k sp) : ∃ (f : Addr) (fd : FuncData), X.mg x = some (.ref f) ∧ Fun X.K x x st f fd ∧ FnOk X.prog X.w X.K X.mg X.base (L2.CX X.prog X.w) k f fd ps (lift X.K sp) := by
  obtain ⟨f, fd, h1, h2, h3⟩ := h.ex
  rw [hX.M] at h1 h2 h3
  exact ⟨f, fd, h1, h2, h3⟩
theorem lift_call {X : Cx} (hX : Γ.Has X) {ds : List D} {vs : List V} {O1 : Opens} {F1 : Fr} {H1 : Hp} (e0 : Ext Γ.F0 F) (e1 : Ext F F1) (s1 : Stt Γ.M.K F1 O1 H1) (r : EnvR Γ.M.K F ρ σ) (r1 : Reps Γ.M.K F1 ds vs) (q : sp ds O1 Q fun x O2 => Γ.E x ρ O2) :
    lift X.K sp vs H1 (KV' Γ F Q) (fun cls d H => Γ.W cls d σ H) :=
  ⟨ds, F1, O1, Q, _, hX.K ▸ r1, hX.K ▸ s1, q, fun d v F' O' H' e s' r' q' => ⟨d, F', O', e1.trans e, hX.K ▸ s', hX.K ▸ r', q'⟩, fun x cls da F' O' H' e s' rx q' => ⟨x, ρ, F', O', e0.trans (e1.trans e), hX.K ▸ s', r.mono (e1.trans e), hX.K ▸ rx, q'⟩⟩
theorem we_call {p pos : Pos} {e : Expr} {es : List Expr} (hd : DefD Γ.M x st ps k sp) (hk : k ≤ Γ.k) (hg : GlN Γ x) (hh : Γ.hot = false) (h : WA Γ (e :: es) ρ O fun ds O1 => sp ds O1 Q fun x O2 => Γ.E x ρ O2)
    (h1 : (x == ("__debug__" : Str)) = false := by decide) (h2 : ∀ env, starEach (e :: es) env = (false, eval e env) :: starEach es env := by intro _; rfl) (h3 : ∀ env, (backTo pos (starEach es env)).any (·.1) = false := by intro _; rfl) : We Γ (.Call (.Name x p) (e :: es) [] pos) ρ O Q := fun F σ H e0 s r X hX pins sh I => by
  obtain ⟨f, fd, g1, g2, g3⟩ := hX.def_ hd
  exact (pe_callS (E := L2.WE Γ.W) g3 ((hX.room hh).mono hk) (hX.gl hg) g1 g2.kp (g2.binds hd.bd) (fun σ => passAt hX.takes σ) (EvA.pa hX _) h1 (h2 X.env) (h3 X.env)).run pins sh σ H _ I ((h F σ H e0 s r).mono fun vs H1 ⟨ds, F1, O1, e1, s1, r1, q1⟩ => lift_call hX e0 e1 s1 r r1 q1)
theorem we_call0 {p pos : Pos} (hd : DefD Γ.M x st ps k sp) (hk : k ≤ Γ.k) (hg : GlN Γ x) (hh : Γ.hot = false) (h : sp [] O Q fun x O2 => Γ.E x ρ O2)
    (h1 : (x == ("__debug__" : Str)) = false := by decide) : We Γ (.Call (.Name x p) [] [] pos) ρ O Q := fun F σ H e0 s r X hX pins sh I => by
  obtain ⟨f, fd, g1, g2, g3⟩ := hX.def_ hd
  refine wpAny_Call_Name_kw (ld_glob I (hX.gl hg) g1 ?_ h1)
  refine PySem.W.callWith_K0 I.kIn g2.kp ?_
  exact run_fnS (E := L2.WE Γ.W) g3 ((hX.room hh).mono hk) (g2.binds hd.bd) (passAt hX.takes σ) I .nil (lift_call hX e0 (Ext.refl F) s r (by exact rfl) h)
/-- how keywords bind: g puts the positional values and the keywords' in the parameters' order -/
structure KwB (x : Str) (st : Stmt) (ps ks : List Str) (n : Nat) (g : {α : Type} → List α → List α → List α) : Prop where
  to : ∀ (kV doc pm : Value) (an : Option Addr) (cdv ct : Value) (us ws : List Value), us.length = n → ws.length = ks.length → bindArgs (PySem.W.fnOf x x (defArgs st) (defBody st) (defScope st) .none kV doc pm an cdv ct) ⟨us, ks.zip ws⟩ = pure (ps.zip (g us ws))
  rel : ∀ {vs : List V} {us : List Value} {zs : List V} {ws : List Value}, Vals vs us → Vals zs ws → us.length = n → ws.length = ks.length → Vals (g vs zs) (g us ws)
  rep : ∀ {K : PySem.W.Frag} {F : Fr} {vs : List V} {ds : List D} {zs : List V} {es : List D}, Reps K F ds vs → Reps K F es zs → ds.length = n → es.length = ks.length → Reps K F (g ds es) (g vs zs)
/-- keywords' values -/
def EvK (Γ : G) (kws : List Keyword) (σ : L2.St) (H : Hp) (Q : List V → Hp → Prop) : Prop := ∀ X, Γ.Has X → ∀ pos pins s, Inv X pins σ H s → wpAny (model X.prog X.w) X.A (evalAll ((backToKw pos (keywordEach kws X.env)).map (·.2))) (AP X pins σ Q) X.xe s
theorem EvK.pk {X : Cx} (h : Γ.Has X) (es : List Keyword) : PK X es (EvK Γ es) := ⟨fun pos pins s σ H Q I q => q X h pos pins s I⟩
theorem EvK.mono {kws : List Keyword} {Q Q' : List V → Hp → Prop} (h : EvK Γ kws σ H Q) (m : ∀ v H, Q v H → Q' v H) : EvK Γ kws σ H Q' := fun X hX pos pins st I => thn (h X hX pos pins st I) fun _ _ ⟨vs, H1, I1, r, q⟩ => ⟨vs, H1, I1, r, m _ _ q⟩
def WK (Γ : G) (kws : List Keyword) (ρ : Env') (O : Opens) (Q : List D → Opens → Prop) : Prop :=
  ∀ F σ H, Ext Γ.F0 F → Stt Γ.M.K F O H → EnvR Γ.M.K F ρ σ → EvK Γ kws σ H (KA Γ F Q)
theorem wk_nil {Q : List D → Opens → Prop} (h : Q [] O) : WK Γ [] ρ O Q := fun F σ H e0 s r X hX pos pins st I => pk_nil.run pos pins st σ H _ I ⟨[], F, O, Ext.refl F, s, rfl, h⟩
theorem wk_cons {e : Expr} {nm : Option Str} {kpos : Pos} {kws : List Keyword} {Q : List D → Opens → Prop} (h : We Γ e ρ O fun d O1 => WK Γ kws ρ O1 fun ds O2 => Q (d :: ds) O2) : WK Γ (⟨nm, e, kpos⟩ :: kws) ρ O Q := fun F σ H e0 s r X hX pos pins st I => by
  refine (pk_cons (Ev.pe hX e) (EvK.pk hX kws)).run pos pins st σ H _ I ((h F σ H e0 s r).mono fun v H1 ⟨d, F1, O1, e1, s1, r1, q1⟩ => ?_)
  refine (q1 F1 σ H1 (e0.trans e1) s1 (r.mono e1)).mono fun vs H2 ⟨ds, F2, O2, e2, s2, r2, q2⟩ => ?_
  exact ⟨d :: ds, F2, O2, e1.trans e2, s2, Reps.cons (r1.mono e2) r2, q2⟩
theorem run_kw {X : Cx} {pins : List (Addr × Obj)} {sh : Shared} {ks : List Str} {n : Nat} {g : {α : Type} → List α → List α → List α} (hX : Γ.Has X) (hd : DefD Γ.M x st ps k sp) (hb : KwB x st ps ks n g) (hk : k ≤ Γ.k) (hh : Γ.hot = false) {ds es : List D} {vs zs : List V} {us ws : List Value} {O1 : Opens} {F1 : Fr} {H1 : Hp}
    {f : Addr} {fd : FuncData} (g2 : Fun X.K x x st f fd) (g3 : FnOk X.prog X.w X.K X.mg X.base (L2.CX X.prog X.w) k f fd ps (lift X.K sp))
    (I : Inv X pins σ H1 sh) (ru : Vals vs us) (rw : Vals zs ws) (e0 : Ext Γ.F0 F) (e1 : Ext F F1) (s1 : Stt Γ.M.K F1 O1 H1) (r : EnvR Γ.M.K F ρ σ) (r1 : Reps Γ.M.K F1 ds vs) (r2 : Reps Γ.M.K F1 es zs) (l1 : ds.length = n) (l2 : es.length = ks.length) (q : sp (g ds es) O1 Q fun x O2 => Γ.E x ρ O2) :
    wpAny (model X.prog X.w) X.A (call (.ref f) us (ks.zip ws)) (EP X pins σ (KV' Γ F Q)) X.xe sh := by
  have m1 : us.length = n := by rw [← ru.length, ← r1.length]; exact l1
  have m2 : ws.length = ks.length := by rw [← rw.length, ← r2.length]; exact l2
  have hsp := lift_call (Q := Q) (sp := sp) hX e0 e1 s1 r (hb.rep r1 r2 l1 l2) q
  obtain ⟨oc, od, kV, doc, pm, an, cdv, ct, osl, rfl, lk, hcd⟩ := g2.ex
  refine wpAny_call (codeAny_mono (g3.run X.A X.stack sh H1 ⟨us, ks.zip ws⟩ (g us ws) (g vs zs) _ _ ((hX.room hh).mono hk) I.env0 (.of_eq (hb.to kV doc pm an cdv ct us ws m1 m2)) (hb.rel ru rw m1 m2) hsp) fun r s' hq => ?_)
  cases r with
  | error e => exact passAt hX.takes σ pins H1 sh e s' I hq
  | ok fl =>
    cases fl with
    | ret u => exact I.after hq
    | next => exact False.elim hq
    | brk => exact False.elim hq
    | cont => exact False.elim hq
theorem we_callK0 {p pos : Pos} {kws : List Keyword} {ks : List Str} {g : {α : Type} → List α → List α → List α} (hd : DefD Γ.M x st ps k sp) (hb : KwB x st ps ks 0 g) (hk : k ≤ Γ.k) (hg : GlN Γ x) (hh : Γ.hot = false) (h : WK Γ kws ρ O fun es O1 => es.length = ks.length ∧ sp (g [] es) O1 Q fun x O2 => Γ.E x ρ O2)
    (hall : ∀ env, (backToKw pos (keywordEach kws env)).all (·.1.isSome) = true := by intro _; rfl) (hks : ∀ env, (backToKw pos (keywordEach kws env)).filterMap (·.1) = ks := by intro _; rfl) (h1 : (x == ("__debug__" : Str)) = false := by decide)
    (hpl : ∀ env, ((backTo pos (starEach [] env)).any (·.1) || (backToKw pos (keywordEach kws env)).any (·.1.isNone)) = false := by intro _; rfl) : We Γ (.Call (.Name x p) [] kws pos) ρ O Q := fun F σ H e0 s r X hX pins sh I => by
  obtain ⟨f, fd, g1, g2, g3⟩ := hX.def_ hd
  refine wpAny_Call_Name_kw (ld_glob I (hX.gl hg) g1 ?_ h1)
  refine PySem.W.callWith_KW0 (h₀ := X.base) I.ok.mod.kin g2.kp (hall X.env) ?_ (hpl X.env)
  refine thn (h F σ H e0 s r X hX pos pins _ I) fun ws s2 ⟨zs, H2, I2, rz, es, F1, O1, e1, s1, r2, l2, q⟩ => ⟨I2.kIn, ?_⟩
  rw [hks X.env]
  exact run_kw (us := []) (vs := []) (ds := []) hX hd hb hk hh g2 g3 I2 .nil rz e0 e1 s1 r rfl r2 rfl l2 q
end

/-! ### list comprehensions -/
/-- where a comprehension's block runs -/
def blkG (Γ : G) (scope : Scope) (F0 : Fr) : G := ⟨Γ.M, Γ.N, relS scope Γ.sc, scope, Γ.k, Γ.hot, false, F0, fun _ _ _ => False, fun _ _ _ => False⟩
theorem blkG_has {Γ : G} {X : Cx} (hX : Γ.Has X) {scope : Scope} {F0 : Fr} {s : Shared} {H : Hp} {C : Addr} {cl : List (Str × Addr)} {fp : List Addr} : (blkG Γ scope F0).Has (X.blk s H scope (compEnvC scope cl C X.env) fp) where
  M := hX.M
  N := hX.N
  nd := hX.nd
  sc := by show relS scope X.env.scope = relS scope Γ.sc; rw [hX.sc]
  calm := hX.calm
  room := hX.room
  units := hX.units
  fn := fun x h => by
    have k : ∀ k, k ≠ .free → scope.names.lookup x = some k → (relS scope X.env.scope).names.lookup x = some k := fun k hk e => lookup_relS_keep hk e
    rcases h with h | h
    · exact ⟨.inl (k _ (by decide) h), .inr (k _ (by decide) h)⟩
    · refine ⟨.inr (k _ (by decide) h), .inl ?_⟩
      show (scope.names.lookup x == some .cell) = true
      rw [show scope.names.lookup x = some .cell from h]; rfl
  takes := fun u s' ⟨_, _, _, _, _, _, _, _, _, _, _, _, _, _, _, _, w⟩ => by
    obtain ⟨_, _, _, _, _, _, _, _, q⟩ := w
    exact q.elim
  passes := PassesOwn.never
  stk := fun h => absurd (show false = true from h) Bool.false_ne_true
  pin := fun _ _ _ h => h.elim
/-- the clause's tests -/
def EvI (Γ : G) (ifs : List Expr) (σ : L2.St) (H : Hp) (Q : Bool → Hp → Prop) : Prop := match ifs with
  | [] => Q true H
  | [c] => EvT Γ c σ H Q
  | _ => False
theorem EvI.pts {Γ : G} {X : Cx} (hX : Γ.Has X) (ifs : List Expr) : PTs X ifs (EvI Γ ifs) := by
  match ifs with
  | [] => exact pts_nil
  | [c] => exact pts_one (EvT.pt hX c)
  | _ :: _ :: _ => exact ⟨fun _ _ _ _ _ _ h => (show False from h).elim⟩
def WI (Γ : G) (ifs : List Expr) (ρ : Env') (O : Opens) (Q : Bool → Opens → Prop) : Prop := match ifs with
  | [] => Q true O
  | [c] => WT Γ c ρ O Q
  | _ => False
theorem WI.run {Γ : G} {ifs : List Expr} {ρ : Env'} {O : Opens} {Q : Bool → Opens → Prop} {F : Fr} {σ : L2.St} {H : Hp} (h : WI Γ ifs ρ O Q) (e0 : Ext Γ.F0 F) (s : Stt Γ.M.K F O H) (r : EnvR Γ.M.K F ρ σ) : EvI Γ ifs σ H (KT Γ F Q) := by
  match ifs, h with
  | [], h => exact ⟨F, O, Ext.refl F, s, h⟩
  | [c], h => exact (show WT Γ c ρ O Q from h) F σ H e0 s r
  | _ :: _ :: _, h => exact h.elim
theorem EvI.mono {Γ : G} {ifs : List Expr} {σ : L2.St} {H : Hp} {Q Q' : Bool → Hp → Prop} (h : EvI Γ ifs σ H Q) (m : ∀ b H, Q b H → Q' b H) : EvI Γ ifs σ H Q' := by
  match ifs, h with
  | [], h => exact m _ _ h
  | [c], h => exact EvT.mono h m
  | _ :: _ :: _, h => exact h.elim
def wipeD (ρ : Env') : List Nat → Env'
  | [] => ρ
  | v :: vs => (wipeD ρ vs).set v none
theorem wipe_env {K : PySem.W.Frag} {F : Fr} {ρ : Env'} {σ : L2.St} (h : EnvR K F ρ σ) : ∀ vs, EnvR K F (wipeD ρ vs) (wipe σ vs)
  | [] => h
  | v :: vs => (wipe_env h vs).forget v none
theorem wipe_set (σ : L2.St) (v : Option V) : ∀ {vs : List Nat} {i : Nat}, i ∈ vs → wipe (σ.set i v) vs = wipe σ vs
  | w :: vs, i, h => by
    unfold wipe
    by_cases hi : i = w
    · subst hi
      by_cases hm : i ∈ vs
      · rw [wipe_set σ v hm]
      · have : ∀ {vs : List Nat}, i ∉ vs → wipe (σ.set i v) vs = (wipe σ vs).set i v := by
          intro vs
          induction vs with
          | nil => intro _; rfl
          | cons a vs ih =>
            intro hm
            rw [List.mem_cons, not_or] at hm
            unfold wipe
            rw [ih hm.2, List.set_comm _ _ hm.1]
        rw [this hm, List.set_set]
    · rcases List.mem_cons.mp h with e | h
      · exact absurd e hi
      · rw [wipe_set σ v h]
/-- targets of a comprehension: the slots stored are the block's own -/
def WGo (Γ : G) (own : List Nat) (tg : Expr) (d : D) (ρ : Env') (O : Opens) (Q : Env' → Opens → Prop) : Prop := ∀ F σ H v, Ext Γ.F0 F → Stt Γ.M.K F O H → EnvR Γ.M.K F ρ σ → Rep Γ.M.K F d v → EvG Γ tg v σ H fun σ' H' => wipe σ' own = wipe σ own ∧ KS Γ F Q σ' H'
def WGso (Γ : G) (own : List Nat) (tg : List Expr) (ds : List D) (ρ : Env') (O : Opens) (Q : Env' → Opens → Prop) : Prop := ∀ F σ H vs, Ext Γ.F0 F → Stt Γ.M.K F O H → EnvR Γ.M.K F ρ σ → Reps Γ.M.K F ds vs → EvGs Γ tg vs σ H fun σ' H' => wipe σ' own = wipe σ own ∧ KS Γ F Q σ' H'
section
variable {Γ : G} {ρ : Env'} {O : Opens} {own : List Nat}
theorem wgo_name {i : Nat} {x : Str} {pos : Pos} {d : D} {Q : Env' → Opens → Prop} (hN : Γ.N[i]? = some x) (hl : Loc Γ.ss x) (hi : i ∈ own) (h : Q (ρ.set i (some d)) O) : WGo Γ own (.Name x pos) d ρ O Q := fun F σ H v e0 s r rv X hX pins st u I ru => by
  obtain ⟨h1, h2⟩ := hX.fn x hl
  exact (pg_name (X := X) (i := i) (by rw [hX.N]; exact hX.nd) (by rw [hX.N]; exact hN) h1 h2).run pins st σ H v u _ I ru ⟨wipe_set σ _ hi, ks (Ext.refl F) s (r.set i rv) h⟩
theorem wgso_nil {Q : Env' → Opens → Prop} (h : Q ρ O) : WGso Γ own [] [] ρ O Q := fun F σ H vs e0 s r rv X hX pins st u I ru => by
  cases (show vs = [] from rv)
  exact pgs_nil.run pins st σ H _ u _ I ru ⟨rfl, rfl, ks (Ext.refl F) s r h⟩
theorem wgso_cons {e : Expr} {es : List Expr} {d : D} {ds : List D} {Q : Env' → Opens → Prop} (h : WGo Γ own e d ρ O fun ρ' O' => WGso Γ own es ds ρ' O' Q) (hs : ∀ env, (assignEach (e :: es) env).map (·.2) = assign e env :: (assignEach es env).map (·.2) := by intro _; rfl) : WGso Γ own (e :: es) (d :: ds) ρ O Q := fun F σ H vs e0 s r rv X hX pins st u I ru => by
  obtain ⟨v, t, rfl, h1, h2⟩ := rv
  refine (pgs_cons (EvG.pg hX e) (EvGs.pgs hX es) (hs X.env)).run pins st σ H _ u _ I ru ⟨v, t, rfl, (h F σ H v e0 s r h1).mono fun σ1 H1 ⟨w1, ρ1, F1, O1, e1, s1, r1, q1⟩ => ?_⟩
  exact fun X hX pins st u I ru => thn (q1 F1 σ1 H1 t (e0.trans e1) s1 r1 (h2.mono e1) X hX pins st u I ru) fun _ _ ⟨σ', H', I', w, q⟩ => ⟨σ', H', I', w.trans w1, KS.mono e1 (fun _ _ q => q) q⟩
theorem wgo_tup {es : List Expr} {k : Nat} {pos : Pos} {ds : List D} {Q : Env' → Opens → Prop} {n : Nat} (hh : Γ.hot = false) (hl : ds.length = n) (h : WGso Γ own es ds ρ O Q) (hn : ∀ env, (assignEach es env).length = n := by intro _; rfl) (hst : ∀ env, (assignEach es env).findIdx? (·.1) = none := by intro _; rfl) : WGo Γ own (.Tuple es k pos) (.tup ds) ρ O Q := fun F σ H v e0 s r rv X hX pins st u I ru => by
  obtain ⟨a, vs, rfl, h1, h2⟩ := rv
  exact (pg_tup (hX.calm hh) (EvGs.pgs hX es) (hn X.env) (hst X.env)).run pins st σ H _ u _ I ru ⟨a, vs, rfl, s.ext.seqT (hX.K ▸ h1), by rw [← h2.length]; exact hl, h F σ H vs e0 s r h2⟩
end
structure LcQ (Γ : G) (scope : Scope) (own : List Nat) (tg : Expr) (ifs : List Expr) (elt : Expr) (n : Nat) (it : Nat → Option D) (ρ : Env') (O : Opens) (Q : List D → Opens → Prop) (W : Nat → List D → Opens → Prop) : Prop where
  start : W 0 [] O
  turn : ∀ (F0 : Fr) i x acc O', i < n → it i = some x → W i acc O' → WGo (blkG Γ scope F0) own tg x (wipeD ρ own) O' fun ρ2 O2 =>
    WI (blkG Γ scope F0) ifs ρ2 O2 fun b O3 => if b = true then We (blkG Γ scope F0) elt ρ2 O3 fun y O4 => acc.length < sizeLine ∧ W (i + 1) (acc ++ [y]) O4 else W (i + 1) acc O3
  stop : ∀ acc O', W n acc O' → Q acc O'
/-- the state within: the new list at P left alone -/
def LcS (K : PySem.W.Frag) (F : Fr) (P : Addr) (W : List D → Opens → Prop) (H : Hp) : Prop := ∃ F' O' acc vs, Ext F F' ∧ Stt K ⟨F'.z, upd F.r P (.lst vs)⟩ O' H ∧ Reps K F' acc vs ∧ W acc O'
theorem reps_z {K : PySem.W.Frag} {F F' : Fr} {ds : List D} {vs : List V} (e : F.z = F'.z) (h : Reps K F ds vs) : Reps K F' ds vs := Reps.monoZ (fun a o q => by rw [← e]; exact q) _ _ h
theorem rep_z {K : PySem.W.Frag} {F F' : Fr} {d : D} {v : V} (e : F.z = F'.z) (h : Rep K F d v) : Rep K F' d v := Rep.monoZ (fun a o q => by rw [← e]; exact q) _ _ h
theorem env_z {K : PySem.W.Frag} {F F' : Fr} {ρ : Env'} {σ : L2.St} (e : F.z = F'.z) (h : EnvR K F ρ σ) : EnvR K F' ρ σ := ⟨h.len, fun i d q => by obtain ⟨v, h1, h2⟩ := h.get i d q; exact ⟨v, h1, rep_z e h2⟩⟩
/-- what is left alone besides is written -/
theorem Stt.app {K : PySem.W.Frag} {z r : Hp} {O : Opens} {H : Hp} {P : Addr} {o o' : HO} (S : Stt K ⟨z, upd r P o⟩ O H) : Stt K ⟨z, upd r P o'⟩ O (upd H P o') := by
  obtain ⟨g1, g2, g3⟩ := S.rst P o upd_same
  refine ⟨fun a u q => ?_, fun a u q => ?_, fun a u q => ?_⟩
  · have hz : z a = some u := q
    have ne : a ≠ P := fun e => by subst e; rw [show z a = none from g1] at hz; cases hz
    rw [upd_ne ne]; exact S.ext a u q
  · obtain ⟨h1, ho, h2, h3⟩ := S.opn a u q
    have ne : a ≠ P := fun e => by subst e; rw [g2] at q; cases q
    exact ⟨h1, ho, by rw [upd_ne ne]; exact h2, RepO.monoZ (F := ⟨z, upd r P o⟩) (F' := ⟨z, upd r P o'⟩) (fun _ _ w => w) h3⟩
  · have q : upd r P o' a = some u := q
    by_cases ha : a = P
    · subst ha
      rw [upd_same] at q
      exact ⟨g1, g2, by rw [upd_same]; exact q⟩
    · rw [upd_ne ha] at q
      obtain ⟨h1, h2, h3⟩ := S.rst a u (by show upd r P o a = some u; rw [upd_ne ha]; exact q)
      exact ⟨h1, h2, by rw [upd_ne ha]; exact h3⟩
section
variable {Γ : G} {ρ : Env'} {O : Opens} {Q : DK} {σ : L2.St} {H : Hp} {F : Fr} {scope : Scope} {own : List (Str × Nat)} {tg elt : Expr} {ifs : List Expr}
def BG (Γ : G) (scope : Scope) (tg : Expr) : TG := fun v σ H Q => ∃ F0, EvG (blkG Γ scope F0) tg v σ H Q
def BI (Γ : G) (scope : Scope) (ifs : List Expr) : TT := fun σ H Q => ∃ F0, EvI (blkG Γ scope F0) ifs σ H Q
def BE (Γ : G) (scope : Scope) (e : Expr) : TE := fun σ H Q => ∃ F0, Ev (blkG Γ scope F0) e σ H Q
/-- one turn of the block -/
theorem lc_turn {n : Nat} {it : Nat → Option D} {Ql : List D → Opens → Prop} {W : Nat → List D → Opens → Prop} {P : Addr} {i : Nat} {x : D} {v : V} {F1 F2 : Fr} {O2 : Opens} {acc : List D} {vs : List V} {H2 : Hp} {ρ0 : Env'} {O0 : Opens}
    (T : LcQ Γ scope (own.map (·.2)) tg ifs elt n it ρ0 O0 Ql W) (hi : i < n) (hx : it i = some x) (r : EnvR Γ.M.K F1 ρ0 σ) (e2 : Ext F1 F2) (s2 : Stt Γ.M.K ⟨F2.z, upd F1.r P (.lst vs)⟩ O2 H2) (ra : Reps Γ.M.K F2 acc vs) (w2 : W i acc O2) (rv : Rep Γ.M.K F2 x v) :
    BG Γ scope tg v (wipe σ (own.map (·.2))) H2 fun σ3 H3 => wipe σ3 (own.map (·.2)) = wipe σ (own.map (·.2)) ∧ BI Γ scope ifs σ3 H3 fun b H4 =>
      if b = true then BE Γ scope elt σ3 H4 fun y H5 => ∃ ac, H5 P = some (.lst ac) ∧ ac.length < sizeLine ∧ LcS Γ.M.K F1 P (W (i + 1)) (upd H5 P (.lst (ac ++ [y]))) else LcS Γ.M.K F1 P (W (i + 1)) H4 := by
  refine ⟨⟨F2.z, upd F1.r P (.lst vs)⟩, ?_⟩
  have hr : EnvR Γ.M.K ⟨F2.z, upd F1.r P (.lst vs)⟩ (wipeD ρ0 (own.map (·.2))) (wipe σ (own.map (·.2))) := env_z (F := F2) rfl (wipe_env (r.mono e2) _)
  have ww : ∀ (vs : List Nat) (τ : L2.St), wipe (wipe τ vs) vs = wipe τ vs := by
    intro vs τ
    have gen : ∀ (us : List Nat), (∀ j ∈ us, j ∈ vs) → ∀ τ : L2.St, wipe (wipe τ us) vs = wipe τ vs := by
      intro us
      induction us with
      | nil => intro _ τ; rfl
      | cons a us ih =>
        intro hm τ
        show wipe ((wipe τ us).set a none) vs = wipe τ vs
        rw [wipe_set _ _ (hm a List.mem_cons_self)]
        exact ih (fun j hj => hm j (List.mem_cons_of_mem _ hj)) τ
    exact gen vs (fun j hj => hj) τ
  refine (T.turn ⟨F2.z, upd F1.r P (.lst vs)⟩ i x acc O2 hi hx w2 ⟨F2.z, upd F1.r P (.lst vs)⟩ _ H2 v (Ext.refl _) s2 hr (rep_z (F := F2) rfl rv)).mono fun σ3 H3 ⟨wq, ρ3, F3, O3, e3, s3, r3, q3⟩ => ⟨wq.trans (ww _ _), ⟨F2.z, upd F1.r P (.lst vs)⟩, ?_⟩
  refine (q3.run e3 s3 r3).mono fun b H4 ⟨F4, O4, e4, s4, q4⟩ => ?_
  have e34 := e3.trans e4
  have fin : ∀ {F5 : Fr} {O5 : Opens} {H5 : Hp} {ac : List D} {us : List V}, Ext ⟨F2.z, upd F1.r P (.lst vs)⟩ F5 → Stt Γ.M.K ⟨F5.z, upd F1.r P (.lst us)⟩ O5 H5 → Reps Γ.M.K F5 ac us → W (i + 1) ac O5 → LcS Γ.M.K F1 P (W (i + 1)) H5 := fun {F5 O5 H5 ac us} e5 s5 r5 q5 =>
    ⟨⟨F5.z, F1.r⟩, O5, ac, us, ⟨fun a o q => e5.1 a o (e2.1 a o q), rfl⟩, s5, reps_z (F := F5) rfl r5, q5⟩
  cases b with
  | true =>
    have q4 := (show We (blkG Γ scope ⟨F2.z, upd F1.r P (.lst vs)⟩) elt ρ3 O4 _ by simpa using q4) F4 σ3 H4 e34 s4 (r3.mono e4)
    show BE Γ scope elt σ3 H4 _
    refine ⟨⟨F2.z, upd F1.r P (.lst vs)⟩, q4.mono fun y H5 ⟨d, F5, O5, e5, s5, r5, hz, q5⟩ => ?_⟩
    have e := e34.trans e5
    have hr5 : F5.r = upd F1.r P (.lst vs) := e.2
    have s5' : Stt Γ.M.K ⟨F5.z, upd F1.r P (.lst vs)⟩ O5 H5 := by
      have : (⟨F5.z, upd F1.r P (.lst vs)⟩ : Fr) = F5 := by rw [← hr5]
      rw [this]; exact s5
    have rv5 : Reps Γ.M.K F5 acc vs := Reps.mono e _ _ (reps_z (F := F2) rfl ra)
    obtain ⟨g1, g2, g3⟩ := s5'.rst P _ upd_same
    exact ⟨vs, g3, by rw [← rv5.length]; exact hz, fin e s5'.app (rv5.append (Reps.cons r5 Reps.nil)) q5⟩
  | false =>
    have q4 : W (i + 1) acc O4 := by simpa using q4
    have hr4 : F4.r = upd F1.r P (.lst vs) := e34.2
    have s4' : Stt Γ.M.K ⟨F4.z, upd F1.r P (.lst vs)⟩ O4 H4 := by
      have : (⟨F4.z, upd F1.r P (.lst vs)⟩ : Fr) = F4 := by rw [← hr4]
      rw [this]; exact s4
    exact fin e34 s4' (Reps.mono e34 _ _ (reps_z (F := F2) rfl ra)) q4
/-- the block's start -/
theorem lc_start {P : Addr} {W : List D → Opens → Prop} {F1 : Fr} {O1 : Opens} {H1 : Hp} (s : Stt Γ.M.K F1 O1 H1) (hp : H1 P = none) (w : W [] O1) : LcS Γ.M.K F1 P W (upd H1 P (.lst [])) := by
  refine ⟨F1, O1, [], [], Ext.refl F1, ⟨fun a u q => ?_, fun a u q => ?_, fun a u q => ?_⟩, rfl, w⟩
  · rw [upd_ne (ne_of_none (s.ext a u q) hp)]; exact s.ext a u q
  · obtain ⟨h1, ho, h2, h3⟩ := s.opn a u q
    exact ⟨h1, ho, by rw [upd_ne (ne_of_none h2 hp)]; exact h2, RepO.monoZ (F := F1) (F' := ⟨F1.z, upd F1.r P (.lst [])⟩) (fun _ _ w => w) h3⟩
  · have q : upd F1.r P (.lst []) a = some u := q
    by_cases ha : a = P
    · subst ha
      rw [upd_same] at q; cases q
      exact ⟨s.fresh hp, s.closed hp, upd_same⟩
    · rw [upd_ne ha] at q
      obtain ⟨h1, h2, h3⟩ := s.rst a u q
      exact ⟨h1, h2, by rw [upd_ne ha]; exact h3⟩
/-- .. and its end: the new list, frozen or open -/
theorem lc_end {P : Addr} {W : List D → Opens → Prop} {F1 : Fr} {H1 H2 : Hp} {O1 : Opens} (s : Stt Γ.M.K F1 O1 H1) (hp : H1 P = none) (h : LcS Γ.M.K F1 P W H2) : ∃ F' O' acc vs, Ext F1 F' ∧ F'.z P = none ∧ O' P = none ∧ H2 P = some (.lst vs) ∧ Stt Γ.M.K F' O' H2 ∧ Reps Γ.M.K F' acc vs ∧ W acc O' := by
  obtain ⟨F', O', acc, vs, e, s', r, w⟩ := h
  obtain ⟨g1, g2, g3⟩ := s'.rst P _ upd_same
  have hn : F1.r P = none := by
    cases q : F1.r P with
    | none => rfl
    | some u =>
      obtain ⟨_, _, h3⟩ := s.rst P u q
      rw [h3] at hp; cases hp
  refine ⟨F', O', acc, vs, e, g1, g2, g3, ⟨s'.ext, fun a u q => ?_, fun a u q => ?_⟩, r, w⟩
  · obtain ⟨h1, ho, h2, h3⟩ := s'.opn a u q
    exact ⟨h1, ho, h2, RepO.monoZ (F := ⟨F'.z, upd F1.r P (.lst vs)⟩) (F' := F') (fun _ _ w => w) h3⟩
  · rw [e.2] at q
    have ne : a ≠ P := fun z => by subst z; rw [hn] at q; cases q
    exact s'.rst a u (by show upd F1.r P (.lst vs) a = some u; rw [upd_ne ne]; exact q)
theorem lc_frozen {P : Addr} {W : List D → Opens → Prop} {F1 : Fr} {H1 H2 : Hp} {O1 : Opens} (s : Stt Γ.M.K F1 O1 H1) (hp : H1 P = none) (h : LcS Γ.M.K F1 P W H2) (hq : ∀ acc O', W acc O' → Q (.lst acc) O') : KV' Γ F1 Q (.ref P) H2 := by
  obtain ⟨F', O', acc, vs, e, g1, g2, g3, s', r, w⟩ := lc_end s hp h
  refine ⟨.lst acc, F'.add P (.lst vs), O', e.trans (Ext.new g1), ?_, rep_lst upd_same (r.mono (Ext.new g1)), hq _ _ w⟩
  refine ⟨fun a u q => ?_, fun a u q => ?_, fun a u q => ?_⟩
  · have q : upd F'.z P (.lst vs) a = some u := q
    by_cases ha : a = P
    · subst ha; rw [upd_same] at q; cases q; exact g3
    · rw [upd_ne ha] at q; exact s'.ext a u q
  · have ne : a ≠ P := fun z => by subst z; rw [g2] at q; cases q
    obtain ⟨h1, ho, h2, h3⟩ := s'.opn a u q
    exact ⟨by show upd F'.z P _ a = none; rw [upd_ne ne]; exact h1, ho, h2, h3.mono (Ext.new g1)⟩
  · have q' : F'.r a = some u := q
    have ne : a ≠ P := fun z => by
      subst z
      rw [e.2] at q'
      obtain ⟨_, _, h3⟩ := s.rst a u q'
      rw [h3] at hp; cases hp
    obtain ⟨h1, h2, h3⟩ := s'.rst a u q
    exact ⟨by show upd F'.z P _ a = none; rw [upd_ne ne]; exact h1, h2, h3⟩
theorem lc_opened {P : Addr} {W : List D → Opens → Prop} {F1 : Fr} {H1 H2 : Hp} {O1 : Opens} (s : Stt Γ.M.K F1 O1 H1) (hp : H1 P = none) (h : LcS Γ.M.K F1 P W H2) (hq : ∀ p acc O', O' p = none → W acc O' → Q (.raw (.ref p)) (O'.up p (.lst acc))) : KV' Γ F1 Q (.ref P) H2 := by
  obtain ⟨F', O', acc, vs, e, g1, g2, g3, s', r, w⟩ := lc_end s hp h
  refine ⟨.raw (.ref P), F', O'.up P (.lst acc), e, ?_, rep_raw, hq P acc O' g2 w⟩
  refine ⟨s'.ext, fun a u q => ?_, fun a u q => ?_⟩
  · by_cases ha : a = P
    · subst ha
      rw [Opens.up_same] at q; cases q
      exact ⟨g1, _, g3, vs, rfl, r⟩
    · rw [Opens.up_ne ha] at q
      exact s'.opn a u q
  · have q' : F'.r a = some u := q
    have ne : a ≠ P := fun z => by
      subst z
      rw [e.2] at q'
      obtain ⟨_, _, h3⟩ := s.rst a u q'
      rw [h3] at hp; cases hp
    obtain ⟨h1, h2, h3⟩ := s'.rst a u q
    exact ⟨h1, by rw [Opens.up_ne ne]; exact h2, h3⟩
theorem bg_pg {X : Cx} (hX : Γ.Has X) {s : Shared} {H : Hp} {C : Addr} {cl : List (Str × Addr)} {fp : List Addr} (tg : Expr) : PG (X.blk s H scope (compEnvC scope cl C X.env) fp) tg (BG Γ scope tg) :=
  ⟨fun pins s σ H v u Q I r ⟨F0, q⟩ => (EvG.pg (blkG_has hX) tg).run pins s σ H v u Q I r q⟩
theorem bi_pt {X : Cx} (hX : Γ.Has X) {s : Shared} {H : Hp} {C : Addr} {cl : List (Str × Addr)} {fp : List Addr} (ifs : List Expr) : PTs (X.blk s H scope (compEnvC scope cl C X.env) fp) ifs (BI Γ scope ifs) :=
  ⟨fun pins s σ H Q I ⟨F0, q⟩ => (EvI.pts (blkG_has hX) ifs).run pins s σ H Q I q⟩
theorem be_pe {X : Cx} (hX : Γ.Has X) {s : Shared} {H : Hp} {C : Addr} {cl : List (Str × Addr)} {fp : List Addr} (e : Expr) : PE (X.blk s H scope (compEnvC scope cl C X.env) fp) e (BE Γ scope e) :=
  ⟨fun pins s σ H Q I ⟨F0, q⟩ => (Ev.pe (blkG_has hX) e).run pins s σ H Q I q⟩
/-- the reading of the comprehension, whatever it walks -/
theorem lc_list_run {K' : PySem.W.Frag} (hK : Γ.M.K = K') {ds : List D} {vs : List V} {a : Addr} {F1 : Fr} {O1 : Opens} {H1 : Hp} {W : Nat → List D → Opens → Prop} {Ql : List D → Opens → Prop} {Qv : VK} (e0 : Ext Γ.F0 F1) (s1 : Stt Γ.M.K F1 O1 H1) (r : EnvR Γ.M.K F1 ρ σ) (g1 : SqL Γ.M.K F1.z a vs) (g2 : Reps Γ.M.K F1 ds vs)
    (T : LcQ Γ scope (own.map (·.2)) tg ifs elt ds.length (fun i => ds[i]?) ρ O1 Ql W) (hq : ∀ P H2, H1 P = none → LcS Γ.M.K F1 P (W ds.length) H2 → Qv (.ref P) H2) :
    ∀ P, H1 P = none → ∃ W' : Nat → Nat → Hp → Prop, (∃ m, W' 0 m (upd H1 P (.lst []))) ∧ ∀ i m H, W' i m H →
      ((Itl K' a).stop i H ∧ Qv (.ref P) H) ∨ ((Itl K' a).go i H ∧ ∃ Nx : Hp → Prop, (∀ H', Nx H' → ∃ m', m' < m ∧ W' (i + 1) m' H') ∧ ∀ x H', (Itl K' a).yld i H x H' → BG Γ scope tg x (wipe σ (own.map (·.2))) H' fun σ2 H2 => wipe σ2 (own.map (·.2)) = wipe σ (own.map (·.2)) ∧ BI Γ scope ifs σ2 H2 fun b H3 =>
        if b = true then BE Γ scope elt σ2 H3 fun y H4 => ∃ acc, H4 P = some (.lst acc) ∧ acc.length < sizeLine ∧ Nx (upd H4 P (.lst (acc ++ [y]))) else Nx H3) := fun P hP => by
  refine L2.lc_list (K := K') (a := a) (xs := vs) (D := P) (fun i H' => LcS Γ.M.K F1 P (W i) H') (lc_start s1 hP T.start) (fun i H' _ ⟨F', O', acc, us, e2, s2, _⟩ => ?_) (fun i v H' hi ⟨F', O', acc, us, e2, s2, ra, w2⟩ => ?_) (fun H' w => hq P H' hP (by rw [g2.length]; exact w))
  · exact s2.ext.seqL (seq_l e2.1 (hK ▸ g1))
  · obtain ⟨x, hx, rx⟩ := g2.back hi
    exact lc_turn T (List.getElem?_eq_some_iff.mp hx).1 hx r e2 s2 ra w2 (rx.mono e2)
theorem lc_tup_run {K' : PySem.W.Frag} (hK : Γ.M.K = K') {ds : List D} {vs : List V} {a : Addr} {F1 : Fr} {O1 : Opens} {H1 : Hp} {W : Nat → List D → Opens → Prop} {Ql : List D → Opens → Prop} {Qv : VK} (e0 : Ext Γ.F0 F1) (s1 : Stt Γ.M.K F1 O1 H1) (r : EnvR Γ.M.K F1 ρ σ) (g1 : SqT Γ.M.K F1.z a vs) (g2 : Reps Γ.M.K F1 ds vs)
    (T : LcQ Γ scope (own.map (·.2)) tg ifs elt ds.length (fun i => ds[i]?) ρ O1 Ql W) (hq : ∀ P H2, H1 P = none → LcS Γ.M.K F1 P (W ds.length) H2 → Qv (.ref P) H2) :
    ∀ P, H1 P = none → ∃ W' : Nat → Nat → Hp → Prop, (∃ m, W' 0 m (upd H1 P (.lst []))) ∧ ∀ i m H, W' i m H →
      ((Itt K' a).stop i H ∧ Qv (.ref P) H) ∨ ((Itt K' a).go i H ∧ ∃ Nx : Hp → Prop, (∀ H', Nx H' → ∃ m', m' < m ∧ W' (i + 1) m' H') ∧ ∀ x H', (Itt K' a).yld i H x H' → BG Γ scope tg x (wipe σ (own.map (·.2))) H' fun σ2 H2 => wipe σ2 (own.map (·.2)) = wipe σ (own.map (·.2)) ∧ BI Γ scope ifs σ2 H2 fun b H3 =>
        if b = true then BE Γ scope elt σ2 H3 fun y H4 => ∃ acc, H4 P = some (.lst acc) ∧ acc.length < sizeLine ∧ Nx (upd H4 P (.lst (acc ++ [y]))) else Nx H3) := fun P hP => by
  refine L2.lc_tup (K := K') (a := a) (xs := vs) (D := P) (fun i H' => LcS Γ.M.K F1 P (W i) H') (lc_start s1 hP T.start) (fun i H' _ ⟨F', O', acc, us, e2, s2, _⟩ => ?_) (fun i v H' hi ⟨F', O', acc, us, e2, s2, ra, w2⟩ => ?_) (fun H' w => hq P H' hP (by rw [g2.length]; exact w))
  · exact s2.ext.seqT (seq_t e2.1 (hK ▸ g1))
  · obtain ⟨x, hx, rx⟩ := g2.back hi
    exact lc_turn T (List.getElem?_eq_some_iff.mp hx).1 hx r e2 s2 ra w2 (rx.mono e2)
theorem lc_range_run {n : Nat} {lo : Int} {F1 : Fr} {O1 : Opens} {H1 : Hp} {W : Nat → List D → Opens → Prop} {Ql : List D → Opens → Prop} {Qv : VK} (e0 : Ext Γ.F0 F1) (s1 : Stt Γ.M.K F1 O1 H1) (r : EnvR Γ.M.K F1 ρ σ)
    (T : LcQ Γ scope (own.map (·.2)) tg ifs elt n (fun i => some (.int (lo + (i : Int)))) ρ O1 Ql W) (hq : ∀ P H2, H1 P = none → LcS Γ.M.K F1 P (W n) H2 → Qv (.ref P) H2) :
    ∀ P, H1 P = none → ∃ W' : Nat → Nat → Hp → Prop, (∃ m, W' 0 m (upd H1 P (.lst []))) ∧ ∀ i m H, W' i m H →
      ((Itr lo n).stop i H ∧ Qv (.ref P) H) ∨ ((Itr lo n).go i H ∧ ∃ Nx : Hp → Prop, (∀ H', Nx H' → ∃ m', m' < m ∧ W' (i + 1) m' H') ∧ ∀ x H', (Itr lo n).yld i H x H' → BG Γ scope tg x (wipe σ (own.map (·.2))) H' fun σ2 H2 => wipe σ2 (own.map (·.2)) = wipe σ (own.map (·.2)) ∧ BI Γ scope ifs σ2 H2 fun b H3 =>
        if b = true then BE Γ scope elt σ2 H3 fun y H4 => ∃ acc, H4 P = some (.lst acc) ∧ acc.length < sizeLine ∧ Nx (upd H4 P (.lst (acc ++ [y]))) else Nx H3) := fun P hP => by
  refine L2.lc_range (lo := lo) (n := n) (D := P) (fun i H' => LcS Γ.M.K F1 P (W i) H') (lc_start s1 hP T.start) (fun i H' hi ⟨F', O', acc, us, e2, s2, ra, w2⟩ => ?_) (fun H' w => hq P H' hP w)
  exact lc_turn T hi rfl r e2 s2 ra w2 rep_int
/-- the frozen end, the open end, told of the wish -/
def LcF (Q : DK) : List D → Opens → Prop := fun acc O' => Q (.lst acc) O'
def LcO (Q : DK) : List D → Opens → Prop := fun acc O' => ∀ p, O' p = none → Q (.raw (.ref p)) (O'.up p (.lst acc))
theorem we_lcG {op : Bool} {iter : Expr} {pos : Pos} {wi : G → TI} (hh : Γ.hot = false) (ok : blkC Γ.N Γ.sc scope own = true)
    (hpi : ∀ X, Γ.Has X → PI X tg iter (wi Γ)) (hrun : ∀ F σ H, Ext Γ.F0 F → Stt Γ.M.K F O H → EnvR Γ.M.K F ρ σ → tLc (wi Γ) (BG Γ scope tg) (BI Γ scope ifs) (BE Γ scope elt) (own.map (·.2)) σ H (KV' Γ F Q))
    (hs : ∀ env x, foldedSetIterable iter env x = pure x := by intro _ _; rfl) : We Γ (.ListComp elt [⟨tg, iter, ifs, 0⟩] scope pos) ρ O Q := fun F σ H e0 s r X hX pins sh I =>
  (pe_lc (hX.calm hh) (by rw [hX.N]; exact hX.nd) (hpi X hX) (by rw [hX.N, hX.sc]; exact blkOk_by ok) (fun s H C cl fp => bg_pg hX tg) (fun s H C cl fp => bi_pt hX ifs) (fun s H C cl fp => be_pe hX elt) (hs X.env)).run pins sh σ H _ I (hrun F σ H e0 s r)
theorem KV'.at {F F1 : Fr} (e : Ext F F1) {v : V} {H : Hp} (k : KV' Γ F1 Q v H) : KV' Γ F Q v H := KV'.mono e (fun _ _ q => q) k
/-- over a list: fr, the new one is frozen; else left open -/
theorem we_lcL {iter : Expr} {pos : Pos} (hh : Γ.hot = false) (ok : blkC Γ.N Γ.sc scope own = true) (h : We Γ iter ρ O fun d O1 => ∃ ds, (d = .lst ds ∨ d = .rls ds) ∧ ∃ W, LcQ Γ scope (own.map (·.2)) tg ifs elt ds.length (fun i => ds[i]?) ρ O1 (LcF Q) W)
    (hs : ∀ env x, foldedSetIterable iter env x = pure x := by intro _ _; rfl) : We Γ (.ListComp elt [⟨tg, iter, ifs, 0⟩] scope pos) ρ O Q := fun F σ H e0 s r X hX pins sh I => by
  refine (pe_lc (own := own) (hX.calm hh) (by rw [hX.N]; exact hX.nd) (pi_list (Ev.pe hX iter)) (by rw [hX.N, hX.sc]; exact blkOk_by ok) (fun s H C cl fp => bg_pg hX tg) (fun s H C cl fp => bi_pt hX ifs) (fun s H C cl fp => be_pe hX elt) (hs X.env)).run pins sh σ H _ I ((h F σ H e0 s r).mono fun v H1 ⟨d, F1, O1, e1, s1, r1, ds, hd, W, T⟩ => ?_)
  have hl : ∃ a vs, v = .ref a ∧ SqL Γ.M.K F1.z a vs ∧ Reps Γ.M.K F1 ds vs := by
    rcases hd with rfl | rfl
    · obtain ⟨a, vs, e, g1, g2⟩ := r1
      exact ⟨a, vs, e, SqL.of g1, g2⟩
    · exact r1
  obtain ⟨a, vs, rfl, g1, g2⟩ := hl
  exact ⟨a, rfl, ⟨vs, s1.ext.seqL (hX.K ▸ g1)⟩, lc_list_run hX.K (e0.trans e1) s1 (r.mono e1) g1 g2 T fun P H2 hP w => KV'.at e1 (lc_frozen s1 hP w T.stop)⟩
theorem we_lcT {iter : Expr} {pos : Pos} (hh : Γ.hot = false) (ok : blkC Γ.N Γ.sc scope own = true) (h : We Γ iter ρ O fun d O1 => ∃ ds, d = .tup ds ∧ ∃ W, LcQ Γ scope (own.map (·.2)) tg ifs elt ds.length (fun i => ds[i]?) ρ O1 (LcF Q) W)
    (hs : ∀ env x, foldedSetIterable iter env x = pure x := by intro _ _; rfl) : We Γ (.ListComp elt [⟨tg, iter, ifs, 0⟩] scope pos) ρ O Q := fun F σ H e0 s r X hX pins sh I => by
  refine (pe_lc (own := own) (hX.calm hh) (by rw [hX.N]; exact hX.nd) (pi_tup (Ev.pe hX iter)) (by rw [hX.N, hX.sc]; exact blkOk_by ok) (fun s H C cl fp => bg_pg hX tg) (fun s H C cl fp => bi_pt hX ifs) (fun s H C cl fp => be_pe hX elt) (hs X.env)).run pins sh σ H _ I ((h F σ H e0 s r).mono fun v H1 ⟨d, F1, O1, e1, s1, r1, ds, hd, W, T⟩ => ?_)
  subst hd
  obtain ⟨a, vs, rfl, g1, g2⟩ := r1
  exact ⟨a, rfl, ⟨vs, s1.ext.seqT (hX.K ▸ g1)⟩, lc_tup_run hX.K (e0.trans e1) s1 (r.mono e1) g1 g2 T fun P H2 hP w => KV'.at e1 (lc_frozen s1 hP w T.stop)⟩
theorem we_lcR {a : Expr} {p p2 pos : Pos} (hh : Γ.hot = false) (hg : GlN Γ "range") (hm : Γ.M.mg "range" = none) (ok : blkC Γ.N Γ.sc scope own = true) (h : We Γ a ρ O fun d O1 => ∃ n : Int, d = .int n ∧ -(2 ^ 62) ≤ n ∧ n < 2 ^ 62 ∧ ∃ W, LcQ Γ scope (own.map (·.2)) tg ifs elt n.toNat (fun i => some (.int (0 + (i : Int)))) ρ O1 (LcF Q) W)
    (h1 : ∀ env, starEach [a] env = [(false, eval a env)] := by intro _; rfl) (hs : ∀ env x, foldedSetIterable (.Call (.Name "range" p) [a] [] p2) env x = pure x := by intro _ _; rfl) : We Γ (.ListComp elt [⟨tg, .Call (.Name "range" p) [a] [] p2, ifs, 0⟩] scope pos) ρ O Q := fun F σ H e0 s r X hX pins sh I => by
  refine (pe_lc (own := own) (hX.calm hh) (by rw [hX.N]; exact hX.nd) (pi_range1 (hX.gl hg) (by rw [← hX.mg]; exact hm) (pa_cons (Ev.pe hX a) pa_nil (h1 X.env)) (h1 X.env)) (by rw [hX.N, hX.sc]; exact blkOk_by ok) (fun s H C cl fp => bg_pg hX tg) (fun s H C cl fp => bi_pt hX ifs) (fun s H C cl fp => be_pe hX elt) (hs X.env)).run pins sh σ H _ I ((h F σ H e0 s r).mono fun v H1 ⟨d, F1, O1, e1, s1, r1, n, hd, b1, b2, W, T⟩ => ?_)
  subst hd
  cases r1
  exact ⟨n, rfl, b1, b2, lc_range_run (e0.trans e1) s1 (r.mono e1) T fun P H2 hP w => KV'.at e1 (lc_frozen s1 hP w T.stop)⟩
theorem we_lcRO {a : Expr} {p p2 pos : Pos} (hh : Γ.hot = false) (hg : GlN Γ "range") (hm : Γ.M.mg "range" = none) (ok : blkC Γ.N Γ.sc scope own = true) (h : We Γ a ρ O fun d O1 => ∃ n : Int, d = .int n ∧ -(2 ^ 62) ≤ n ∧ n < 2 ^ 62 ∧ ∃ W, LcQ Γ scope (own.map (·.2)) tg ifs elt n.toNat (fun i => some (.int (0 + (i : Int)))) ρ O1 (LcO Q) W)
    (h1 : ∀ env, starEach [a] env = [(false, eval a env)] := by intro _; rfl) (hs : ∀ env x, foldedSetIterable (.Call (.Name "range" p) [a] [] p2) env x = pure x := by intro _ _; rfl) : We Γ (.ListComp elt [⟨tg, .Call (.Name "range" p) [a] [] p2, ifs, 0⟩] scope pos) ρ O Q := fun F σ H e0 s r X hX pins sh I => by
  refine (pe_lc (own := own) (hX.calm hh) (by rw [hX.N]; exact hX.nd) (pi_range1 (hX.gl hg) (by rw [← hX.mg]; exact hm) (pa_cons (Ev.pe hX a) pa_nil (h1 X.env)) (h1 X.env)) (by rw [hX.N, hX.sc]; exact blkOk_by ok) (fun s H C cl fp => bg_pg hX tg) (fun s H C cl fp => bi_pt hX ifs) (fun s H C cl fp => be_pe hX elt) (hs X.env)).run pins sh σ H _ I ((h F σ H e0 s r).mono fun v H1 ⟨d, F1, O1, e1, s1, r1, n, hd, b1, b2, W, T⟩ => ?_)
  subst hd
  cases r1
  exact ⟨n, rfl, b1, b2, lc_range_run (e0.trans e1) s1 (r.mono e1) T fun P H2 hP w => KV'.at e1 (lc_opened s1 hP w fun p acc O' hp w' => T.stop acc O' w' p hp)⟩
end
end DL

/-! DLF: rules: calls of built-ins, methods of texts and lists, f-strings. -/
namespace DL
open PySem PySem.Spec PyProof.Rows L2

/-! ### calls of built-ins -/
abbrev DC := List D → Opens → DK → Prop
def CallD (Γ : G) (X : Cx) (f : Value) (t : DC) : Prop :=
  ∀ (F : Fr) (O : Opens) (ds : List D) (Q : DK) (pins : List (Addr × Obj)) (s : Shared) (σ : L2.St) (H : Hp) (vs : List V) (us : List Value), Inv X pins σ H s → Vals vs us → Ext Γ.F0 F → Stt Γ.M.K F O H → Reps Γ.M.K F ds vs → t ds O Q →
    wpAny (model X.prog X.w) X.A (call f us) (EP X pins σ (KV' Γ F Q)) X.xe s
section
variable {Γ : G} {ρ : Env'} {O : Opens} {Z : EndsD} {Q : DK} {σ : L2.St} {H : Hp} {F : Fr} {x : Str}
theorem CallD.r {X : Cx} {f : Value} {t : DC} (h : CallD Γ X f t) : CallR X f (fun vs H Qv => ∃ F O ds Q, Ext Γ.F0 F ∧ Stt Γ.M.K F O H ∧ Reps Γ.M.K F ds vs ∧ t ds O Q ∧ ∀ v H', KV' Γ F Q v H' → Qv v H') := by
  intro pins s σ H vs us Qv I rv ⟨F, O, ds, Q, e0, S, rd, ht, m⟩
  exact thn (h F O ds Q pins s σ H vs us I rv e0 S rd ht) fun _ _ k => EP.mono m k
theorem args_run {es : List Expr} {t : DC} (e0 : Ext Γ.F0 F) (s : Stt Γ.M.K F O H) (r : EnvR Γ.M.K F ρ σ) (h : WA Γ es ρ O fun ds O1 => t ds O1 Q) :
    EvA Γ es σ H fun vs H1 => ∃ F1 O1 ds Q1, Ext Γ.F0 F1 ∧ Stt Γ.M.K F1 O1 H1 ∧ Reps Γ.M.K F1 ds vs ∧ t ds O1 Q1 ∧ ∀ v H', KV' Γ F1 Q1 v H' → KV' Γ F Q v H' :=
  (h F σ H e0 s r).mono fun vs H1 ⟨ds, F1, O1, e1, s1, r1, q1⟩ => ⟨F1, O1, ds, Q, e0.trans e1, s1, r1, q1, fun v H' k => KV'.at e1 k⟩
theorem we_blt {id : String} {t : DC} {p pos : Pos} {e : Expr} {es : List Expr} (hc : ∀ X, Γ.Has X → CallD Γ X (.builtin id) t) (hg : GlN Γ x) (hm : Γ.M.mg x = none) (hv : bootBuiltins x = some (.builtin id)) (h : WA Γ (e :: es) ρ O fun ds O1 => t ds O1 Q)
    (hn : x ≠ "__name__" := by decide) (hdb : (x == ("__debug__" : Str)) = false := by decide) (he : ∀ env, starEach (e :: es) env = (false, eval e env) :: starEach es env := by intro _; rfl) (hpl : ∀ env, (backTo pos (starEach es env)).any (·.1) = false := by intro _; rfl) : We Γ (.Call (.Name x p) (e :: es) [] pos) ρ O Q := fun F σ H e0 s r X hX pins st I =>
  (pe_callB (hc X hX).r (hX.gl hg) (by rw [← hX.mg]; exact hm) hv (EvA.pa hX _) hn hdb (he X.env) (hpl X.env)).run pins st σ H _ I (args_run e0 s r h)
theorem we_typ {id : String} {t : DC} {p pos : Pos} {e : Expr} {es : List Expr} (hc : ∀ X, Γ.Has X → CallD Γ X (.type id) t) (hg : GlN Γ x) (hm : Γ.M.mg x = none) (hv : bootBuiltins x = some (.type id)) (h : WA Γ (e :: es) ρ O fun ds O1 => t ds O1 Q)
    (hn : x ≠ "__name__" := by decide) (hdb : (x == ("__debug__" : Str)) = false := by decide) (he : ∀ env, starEach (e :: es) env = (false, eval e env) :: starEach es env := by intro _; rfl) (hpl : ∀ env, (backTo pos (starEach es env)).any (·.1) = false := by intro _; rfl) : We Γ (.Call (.Name x p) (e :: es) [] pos) ρ O Q := fun F σ H e0 s r X hX pins st I =>
  (pe_callTy (hc X hX).r (hX.gl hg) (by rw [← hX.mg]; exact hm) hv (EvA.pa hX _) hn hdb (he X.env) (hpl X.env)).run pins st σ H _ I (args_run e0 s r h)
theorem reps1 {K : PySem.W.Frag} {d : D} {vs : List V} (h : Reps K F [d] vs) : ∃ v, vs = [v] ∧ Rep K F d v := by
  obtain ⟨v, t, rfl, h1, h2⟩ := h
  cases (show t = [] from h2)
  exact ⟨v, rfl, h1⟩
theorem reps2 {K : PySem.W.Frag} {d e : D} {vs : List V} (h : Reps K F [d, e] vs) : ∃ v w, vs = [v, w] ∧ Rep K F d v ∧ Rep K F e w := by
  obtain ⟨v, t, rfl, h1, h2⟩ := h
  obtain ⟨w, rfl, h3⟩ := reps1 h2
  exact ⟨v, w, rfl, h1, h3⟩
/-- len -/
def LenQ : DC := fun ds O Q => match ds with
  | [.str z] => z.length ≤ sizeLine ∧ Q (.int z.length) O
  | [.tup xs] => Q (.int xs.length) O
  | [.lst xs] => Q (.int xs.length) O
  | [.rls xs] => Q (.int xs.length) O
  | [.raw (.ref a)] => ∃ xs, O a = some (.lst xs) ∧ Q (.int xs.length) O
  | _ => False
theorem len_ok {X : Cx} (hX : Γ.Has X) : CallD Γ X (.builtin "len") LenQ := by
  intro F O ds Q pins s σ H vs us I rv e0 S rd h
  have hK := hX.K
  unfold LenQ at h
  split at h
  · obtain ⟨v, rfl, r⟩ := reps1 rd
    cases r
    exact call_len pins s σ H _ _ _ I rv ⟨_, _, rfl, ⟨h.1, rfl⟩, kv S rep_int h.2⟩
  · obtain ⟨v, rfl, a, ys, rfl, h1, h2⟩ := reps1 rd
    exact call_len pins s σ H _ _ _ I rv ⟨_, _, rfl, .inr ⟨ys, S.ext.seqT (hK ▸ h1), rfl⟩, kv S rep_int (by rw [← h2.length]; exact h)⟩
  · obtain ⟨v, rfl, a, ys, rfl, h1, h2⟩ := reps1 rd
    exact call_len pins s σ H _ _ _ I rv ⟨_, _, rfl, .inl ⟨ys, SqL.of (S.ext _ _ h1), rfl⟩, kv S rep_int (by rw [← h2.length]; exact h)⟩
  · obtain ⟨v, rfl, a, ys, rfl, h1, h2⟩ := reps1 rd
    exact call_len pins s σ H _ _ _ I rv ⟨_, _, rfl, .inl ⟨ys, S.ext.seqL (hK ▸ h1), rfl⟩, kv S rep_int (by rw [← h2.length]; exact h)⟩
  · obtain ⟨v, rfl, r⟩ := reps1 rd
    cases r
    obtain ⟨xs, ho, q⟩ := h
    obtain ⟨ws, h1, h2⟩ := S.list ho
    exact call_len pins s σ H _ _ _ I rv ⟨_, _, rfl, .inl ⟨ws, SqL.of h1, rfl⟩, kv S rep_int (by rw [← h2.length]; exact q)⟩
  · exact h.elim
/-- the built-in types that are asked for -/
inductive Ty | non | bool | int | str | tuple | list | dict
  deriving DecidableEq
def Ty.name : Ty → String
  | .non => "NoneType" | .bool => "bool" | .int => "int" | .str => "str" | .tuple => "tuple" | .list => "list" | .dict => "dict"
def isi (a b : Ty) : Bool := decide (a = b) || (decide (a = .bool) && decide (b = .int))
theorem kit_tab (a b : Ty) : kitB a.name b.name = some (isi a b) := by
  cases a <;> cases b <;> decide +kernel
def tyD (O : Opens) : D → Option Ty
  | .non => some .non
  | .bl _ => some .bool
  | .int _ => some .int
  | .str _ => some .str
  | .tup _ => some .tuple
  | .lst _ => some .list
  | .rls _ => some .list
  | .dic _ _ => some .dict
  | .raw (.ref a) => (match O a with | some (.lst _) => some .list | some (.dic _ _) => some .dict | _ => none)
  | _ => none
theorem ty_ok {X : Cx} (hX : Γ.Has X) {d : D} {v : V} {t : Ty} (S : Stt Γ.M.K F O H) (r : Rep Γ.M.K F d v) (e : tyD O d = some t) : TyX X.K H v (.type t.name) := by
  have hK := hX.K
  cases d with
  | non => cases e; cases r; exact .base .non
  | bl b => cases e; cases r; exact .base (.bl b)
  | int b => cases e; cases r; exact .base (.int b)
  | str b => cases e; cases r; exact .base (.str b)
  | tup ds =>
    cases e
    obtain ⟨a, ys, rfl, h1, h2⟩ := r
    rcases h1 with (h1 | ⟨o, h1⟩) | ⟨o, its, n, h1, h3, _⟩
    · exact .base (.tup (S.ext _ _ h1))
    · exact .fTuple (S.ext _ _ h1)
    · exact .kTuple (hK ▸ h1) h3
  | lst ds =>
    cases e
    obtain ⟨a, ys, rfl, h1, h2⟩ := r
    exact .base (.lst (S.ext _ _ h1))
  | rls ds =>
    cases e
    obtain ⟨a, ys, rfl, h1, h2⟩ := r
    rcases h1 with (h1 | ⟨o, h1⟩) | ⟨o, its, n, h1, h3, _⟩
    · exact .base (.lst (S.ext _ _ h1))
    · exact .base (.frz (S.ext _ _ h1))
    · exact .kList (hK ▸ h1) h3
  | dic ks ds =>
    cases e
    obtain ⟨a, ys, rfl, h1, h2⟩ := r
    exact .base (.dK (S.ext _ _ h1))
  | raw x =>
    cases r
    cases v with
    | ref a =>
      have e : (match O a with | some (.lst _) => some Ty.list | some (.dic _ _) => some .dict | _ => none) = some t := e
      split at e
      · rename_i ds ho
        cases e
        obtain ⟨vs, h1, _⟩ := S.list ho
        exact .base (.lst h1)
      · rename_i ks ds ho
        cases e
        obtain ⟨_, ho', h1, vs, rfl, _⟩ := S.opn a _ ho
        exact .base (.dK h1)
      · cases e
    | _ => cases e
  | obj _ _ _ => cases e
  | exc _ _ _ => cases e
def tyd (T : Ty) : D := .raw (.ty T.name)
/-- isinstance(d, T), isinstance(d, (T1, T2, ..)) -/
def IsiQ : DC := fun ds O Q => match ds with
  | [d, .raw (.ty n)] => ∃ (a b : Ty), tyD O d = some a ∧ n = Ty.name b ∧ Q (.bl (isi a b)) O
  | [d, .tup ts] => ∃ (a : Ty) (bs : List Ty), tyD O d = some a ∧ ts = bs.map tyd ∧ Q (.bl (bs.any (isi a))) O
  | _ => False
theorem kit_any {K : PySem.W.Frag} (a : Ty) : ∀ bs : List Ty, PySem.W.kitAny K (.type a.name) (bs.map fun b => Value.type b.name) = some (bs.any (isi a))
  | [] => kitAny_nil
  | b :: bs => kitAny_cons (kit_ty (kit_tab a b)) (fun h => by rw [kit_any a bs, List.any_cons, h]; rfl) fun h => by rw [List.any_cons, h]; rfl
theorem cls_tys {K : PySem.W.Frag} : ∀ {bs : List Ty} {vs : List V}, Reps K F (bs.map tyd) vs → Paired ClsV vs (bs.map fun b => Value.type b.name)
  | [], vs, h => by cases (show vs = [] from h); exact .nil
  | b :: bs, vs, h => by
    obtain ⟨v, t, rfl, h1, h2⟩ := h
    cases (show v = .ty b.name from h1)
    exact .cons (.ty _) (cls_tys h2)
theorem isi_ok {X : Cx} (hX : Γ.Has X) : CallD Γ X (.builtin "isinstance") IsiQ := by
  intro F O ds Q pins s σ H vs us I rv e0 S rd h
  have hK := hX.K
  unfold IsiQ at h
  split at h
  · obtain ⟨v, w, rfl, r1, r2⟩ := reps2 rd
    cases r2
    obtain ⟨a, b, h1, rfl, q⟩ := h
    exact call_isi pins s σ H _ _ _ I rv ⟨v, _, _, _, _, rfl, .ty _, ty_ok hX S r1 h1, kit_ty (kit_tab a b), kv S rep_bl q⟩
  · obtain ⟨v, w, rfl, r1, a', ys, rfl, g1, g2⟩ := reps2 rd
    obtain ⟨a, bs, h1, rfl, q⟩ := h
    rcases g1 with (g1 | ⟨o, g1⟩) | ⟨o, its, n, g1, g3, g4, g5, g6⟩
    · exact call_isiT pins s σ H _ _ _ I rv ⟨v, a', ys, _, _, _, rfl, S.ext _ _ g1, cls_tys g2, ty_ok hX S r1 h1, kit_any a bs, kv S rep_bl q⟩
    · have ho : H a' = some (.frz o (.tup ys)) := S.ext _ _ g1
      obtain ⟨hq, hz, its, rr, p⟩ := I.hok a' _ ho
      obtain ⟨u1, u2, rfl, q1, q2⟩ := vals2 rv
      cases (show u2 = Value.ref a' from q2)
      obtain ⟨P, Zk, pk, hx⟩ := kit_of I q1 (ty_ok hX S r1 h1)
      obtain ⟨o', h1', h2', n, h3'⟩ := p
      have e3 := ClsV.all (cls_tys g2) rr
      subst e3
      obtain ⟨oc, od, dt, sl⟩ := o'
      simp only at h2' h3'
      subst h2' h3'
      exact PySem.W.kia_tup Zk I.kIn pk h1' (kit_any a bs) hx fun tk => ⟨.bl _, H, I.tok tk, rfl, kv S rep_bl q⟩
    · obtain ⟨u1, u2, rfl, q1, q2⟩ := vals2 rv
      cases (show u2 = Value.ref a' from q2)
      obtain ⟨P, Zk, pk, hx⟩ := kit_of I q1 (ty_ok hX S r1 h1)
      have e3 := ClsV.all (cls_tys g2) g6
      obtain ⟨oc, od, dt, sl⟩ := o
      simp only at g3 g4
      subst g3 g4
      have e4 : its = (bs.map fun b => Value.type b.name).toArray := by rw [← e3]
      subst e4
      have hl := I.kIn a' _ (show X.K.lookup a' = some _ from hK ▸ g1)
      exact PySem.W.kia_tup Zk I.kIn pk hl (kit_any a bs) hx fun tk => ⟨.bl _, H, I.tok tk, rfl, kv S rep_bl q⟩
  · exact h.elim
/-- abs, int, str, tuple, list -/
def AbsQ : DC := fun ds O Q => match ds with
  | [.int i] => Q (.int (if i < 0 then -i else i)) O
  | _ => False
theorem abs_ok {X : Cx} : CallD Γ X (.builtin "abs") AbsQ := by
  intro F O ds Q pins s σ H vs us I rv e0 S rd h
  unfold AbsQ at h
  split at h
  · obtain ⟨v, rfl, r⟩ := reps1 rd
    cases r
    exact call_abs pins s σ H _ _ _ I rv ⟨_, rfl, kv S rep_int h⟩
  · exact h.elim
def IntQ : DC := fun ds O Q => match ds with
  | [.int i] => Q (.int i) O
  | [.bl b] => Q (.int (if b then 1 else 0)) O
  | [.str z] => ∃ n, PySem.intText? z = some n ∧ z.length ≤ 640 ∧ Q (.int n) O
  | _ => False
theorem int_ok {X : Cx} : CallD Γ X (.type "int") IntQ := by
  intro F O ds Q pins s σ H vs us I rv e0 S rd h
  unfold IntQ at h
  split at h
  · obtain ⟨v, rfl, r⟩ := reps1 rd
    cases r
    exact call_int1 pins s σ H _ _ _ I rv (.inl ⟨_, rfl, kv S rep_int h⟩)
  · obtain ⟨v, rfl, r⟩ := reps1 rd
    cases r
    exact call_int1 pins s σ H _ _ _ I rv (.inr ⟨_, rfl, kv S rep_int h⟩)
  · obtain ⟨v, rfl, r⟩ := reps1 rd
    cases r
    obtain ⟨n, h1, h2, q⟩ := h
    exact call_int_str pins s σ H _ _ _ I rv ⟨_, n, rfl, h1, h2, kv S rep_int q⟩
  · exact h.elim
def StrQ : DC := fun ds O Q => match ds with
  | [.int i] => i.natAbs.log2 < 1920 ∧ Q (.str (toString i)) O
  | [.str z] => Q (.str z) O
  | _ => False
theorem str_ok {X : Cx} : CallD Γ X (.type "str") StrQ := by
  intro F O ds Q pins s σ H vs us I rv e0 S rd h
  unfold StrQ at h
  split at h
  · obtain ⟨v, rfl, r⟩ := reps1 rd
    cases r
    exact call_str_int pins s σ H _ _ _ I rv ⟨_, rfl, h.1, kv S rep_str h.2⟩
  · obtain ⟨v, rfl, r⟩ := reps1 rd
    cases r
    exact SkE.call_str_str pins s σ H _ _ _ I rv ⟨_, rfl, kv S rep_str h⟩
  · exact h.elim
def TupQ : DC := fun ds O Q => match ds with
  | [.tup xs] => Q (.tup xs) O
  | [.lst xs] => Q (.tup xs) O
  | [.rls xs] => Q (.tup xs) O
  | [.raw (.ref a)] => ∃ xs, O a = some (.lst xs) ∧ Q (.tup xs) O
  | _ => False
theorem tup_ok {X : Cx} (hX : Γ.Has X) : CallD Γ X (.type "tuple") TupQ := by
  intro F O ds Q pins s σ H vs us I rv e0 S rd h
  have hK := hX.K
  unfold TupQ at h
  split at h
  · obtain ⟨v, rfl, a, ys, rfl, h1, h2⟩ := reps1 rd
    exact call_tuple_of pins s σ H _ _ _ I rv ⟨a, ys, rfl, .inr ⟨S.ext.seqT (hK ▸ h1), kv S (rep_tup h1 h2) h⟩⟩
  · obtain ⟨v, rfl, a, ys, rfl, h1, h2⟩ := reps1 rd
    exact call_tuple_of pins s σ H _ _ _ I rv ⟨a, ys, rfl, .inl ⟨SqL.of (S.ext _ _ h1), fun l hl => kv_tup S hl h2 h⟩⟩
  · obtain ⟨v, rfl, a, ys, rfl, h1, h2⟩ := reps1 rd
    exact call_tuple_of pins s σ H _ _ _ I rv ⟨a, ys, rfl, .inl ⟨S.ext.seqL (hK ▸ h1), fun l hl => kv_tup S hl h2 h⟩⟩
  · obtain ⟨v, rfl, r⟩ := reps1 rd
    cases r
    obtain ⟨xs, ho, q⟩ := h
    obtain ⟨ws, h1, h2⟩ := S.list ho
    exact call_tuple_of pins s σ H _ _ _ I rv ⟨_, ws, rfl, .inl ⟨SqL.of h1, fun l hl => kv_tup S hl h2 q⟩⟩
  · exact h.elim
def LstQ : DC := fun ds O Q => match ds with
  | [.tup xs] => Q (.lst xs) O
  | [.lst xs] => Q (.lst xs) O
  | [.rls xs] => Q (.lst xs) O
  | [.raw (.ref a)] => ∃ xs, O a = some (.lst xs) ∧ Q (.lst xs) O
  | _ => False
theorem lst_ok {X : Cx} (hX : Γ.Has X) : CallD Γ X (.type "list") LstQ := by
  intro F O ds Q pins s σ H vs us I rv e0 S rd h
  have hK := hX.K
  unfold LstQ at h
  split at h
  · obtain ⟨v, rfl, a, ys, rfl, h1, h2⟩ := reps1 rd
    exact call_list_of pins s σ H _ _ _ I rv ⟨a, ys, rfl, .inr (S.ext.seqT (hK ▸ h1)), fun l hl => kv_lst S hl h2 h⟩
  · obtain ⟨v, rfl, a, ys, rfl, h1, h2⟩ := reps1 rd
    exact call_list_of pins s σ H _ _ _ I rv ⟨a, ys, rfl, .inl (SqL.of (S.ext _ _ h1)), fun l hl => kv_lst S hl h2 h⟩
  · obtain ⟨v, rfl, a, ys, rfl, h1, h2⟩ := reps1 rd
    exact call_list_of pins s σ H _ _ _ I rv ⟨a, ys, rfl, .inl (S.ext.seqL (hK ▸ h1)), fun l hl => kv_lst S hl h2 h⟩
  · obtain ⟨v, rfl, r⟩ := reps1 rd
    cases r
    obtain ⟨xs, ho, q⟩ := h
    obtain ⟨ws, h1, h2⟩ := S.list ho
    exact call_list_of pins s σ H _ _ _ I rv ⟨_, ws, rfl, .inl (SqL.of h1), fun l hl => kv_lst S hl h2 q⟩
  · exact h.elim
theorem reps_bl {K : PySem.W.Frag} : ∀ {bs : List Bool} {vs : List V}, Reps K F (bs.map D.bl) vs → vs = bs.map V.bl
  | [], vs, h => h
  | b :: bs, vs, h => by
    obtain ⟨v, t, rfl, h1, h2⟩ := h
    rw [reps_bl h2, show v = .bl b from h1]; rfl
theorem reps_int {K : PySem.W.Frag} : ∀ {bs : List Int} {vs : List V}, Reps K F (bs.map D.int) vs → vs = bs.map V.int
  | [], vs, h => h
  | b :: bs, vs, h => by
    obtain ⟨v, t, rfl, h1, h2⟩ := h
    rw [reps_int h2, show v = .int b from h1]; rfl
theorem reps_str {K : PySem.W.Frag} : ∀ {bs : List Str} {vs : List V}, Reps K F (bs.map D.str) vs → vs = bs.map V.str
  | [], vs, h => h
  | b :: bs, vs, h => by
    obtain ⟨v, t, rfl, h1, h2⟩ := h
    rw [reps_str h2, show v = .str b from h1]; rfl
/-- all, any of a list of bools -/
def AllQ : DC := fun ds O Q => ∃ bs : List Bool, ds = [.lst (bs.map D.bl)] ∧ Q (.bl (bs.all id)) O
def AnyQ : DC := fun ds O Q => ∃ bs : List Bool, ds = [.lst (bs.map D.bl)] ∧ Q (.bl (bs.any id)) O
theorem all_ok {X : Cx} (hX : Γ.Has X) (hh : Γ.hot = false) : CallD Γ X (.builtin "all") AllQ := by
  intro F O ds Q pins s σ H vs us I rv e0 S rd ⟨bs, e, q⟩
  subst e
  obtain ⟨v, rfl, a, ys, rfl, h1, h2⟩ := reps1 rd
  have e2 := reps_bl h2
  subst e2
  exact cr_all (hX.calm hh) pins s σ H _ _ _ I rv ⟨a, bs, rfl, SqL.of (S.ext _ _ h1), kv S rep_bl q⟩
theorem any_ok {X : Cx} (hX : Γ.Has X) (hh : Γ.hot = false) : CallD Γ X (.builtin "any") AnyQ := by
  intro F O ds Q pins s σ H vs us I rv e0 S rd ⟨bs, e, q⟩
  subst e
  obtain ⟨v, rfl, a, ys, rfl, h1, h2⟩ := reps1 rd
  have e2 := reps_bl h2
  subst e2
  exact cr_any (hX.calm hh) pins s σ H _ _ _ I rv ⟨a, bs, rfl, SqL.of (S.ext _ _ h1), kv S rep_bl q⟩
def SumQ : DC := fun ds O Q => ∃ ns : List Int, ds = [.lst (ns.map D.int)] ∧ Q (.int ns.sum) O
theorem sum_ok {X : Cx} (hX : Γ.Has X) (hh : Γ.hot = false) : CallD Γ X (.builtin "sum") SumQ := by
  intro F O ds Q pins s σ H vs us I rv e0 S rd ⟨bs, e, q⟩
  subst e
  obtain ⟨v, rfl, a, ys, rfl, h1, h2⟩ := reps1 rd
  have e2 := reps_int h2
  subst e2
  exact cr_sum (hX.calm hh) pins s σ H _ _ _ I rv ⟨a, bs, rfl, SqL.of (S.ext _ _ h1), kv S rep_int q⟩
def MaxQ : DC := fun ds O Q => match ds with
  | [.int i, .int j] => Q (.int (if j > i then j else i)) O
  | _ => False
def MinQ : DC := fun ds O Q => match ds with
  | [.int i, .int j] => Q (.int (if j < i then j else i)) O
  | _ => False
theorem max_ok {X : Cx} (hX : Γ.Has X) (hh : Γ.hot = false) : CallD Γ X (.builtin "max") MaxQ := by
  intro F O ds Q pins s σ H vs us I rv e0 S rd h
  unfold MaxQ at h
  split at h
  · obtain ⟨v, w, rfl, r1, r2⟩ := reps2 rd
    cases r1; cases r2
    exact call_max2 (hX.calm hh) pins s σ H _ _ _ I rv ⟨_, _, rfl, kv S rep_int h⟩
  · exact h.elim
theorem min_ok {X : Cx} (hX : Γ.Has X) (hh : Γ.hot = false) : CallD Γ X (.builtin "min") MinQ := by
  intro F O ds Q pins s σ H vs us I rv e0 S rd h
  unfold MinQ at h
  split at h
  · obtain ⟨v, w, rfl, r1, r2⟩ := reps2 rd
    cases r1; cases r2
    exact call_min2 (hX.calm hh) pins s σ H _ _ _ I rv ⟨_, _, rfl, kv S rep_int h⟩
  · exact h.elim

/-! ### methods -/
/-- a method of a text with one argument -/
theorem we_strm1 {id : String} {name : Str} {o e : Expr} {apos pos : Pos} {r : V → List V → Hp → VK → Prop} (slot : Slot "str" name id) (ty : typeOf (.builtin id) = pure (.type "method_descriptor")) (rule : ∀ X, Γ.Has X → MtR X id (r))
    (h : We Γ o ρ O fun x O1 => ∃ a, x = .str a ∧ We Γ e ρ O1 fun y O2 => ∀ F H v, Ext Γ.F0 F → Stt Γ.M.K F O2 H → Rep Γ.M.K F y v → r (.str a) [v] H (KV' Γ F Q))
    (hm : ∀ X, Γ.Has X → ∀ {x xs H} {Q Q' : VK}, (∀ v H, Q v H → Q' v H) → r x xs H Q → r x xs H Q')
    (hs : ∀ env, starEach [e] env = [(false, eval e env)] := by intro _; rfl) (hbase : ∀ env, attributeBase o name env (eval o env) = eval o env := by intro _; rfl) (hline : (apos.endLine == pos.line) = true := by rfl) : We Γ (.Call (.Attribute o name apos) [e] [] pos) ρ O Q := fun F σ H e0 s rr X hX pins st I => by
  refine (pe_m1 slot ty (rule X hX) (Ev.pe hX o) (Ev.pe hX e) (hs X.env) (hbase X.env) hline).run pins st σ H _ I ((h F σ H e0 s rr).mono fun v H1 ⟨d, F1, O1, e1, s1, r1, a, hd, q1⟩ => ?_)
  subst hd
  cases r1
  refine ⟨⟨a, rfl⟩, (q1 F1 σ H1 (e0.trans e1) s1 (rr.mono e1)).mono fun w H2 ⟨d2, F2, O2, e2, s2, r2, q2⟩ => ?_⟩
  exact hm X hX (fun v H k => KV'.at (e1.trans e2) k) (q2 F2 H2 w (e0.trans (e1.trans e2)) s2 r2)
/-- xs.append(e), the list open -/
theorem we_append {o e : Expr} {apos pos : Pos} (h : We Γ o ρ O fun x O1 => ∃ a ds, x = .raw (.ref a) ∧ O1 a = some (.lst ds) ∧ We Γ e ρ O1 fun y O2 => ∃ ds, O2 a = some (.lst ds) ∧ ds.length < sizeLine ∧ Q .non (O2.up a (.lst (ds ++ [y]))))
    (hs : ∀ env, starEach [e] env = (false, eval e env) :: starEach [] env := by intro _; rfl) (hbase : ∀ env, attributeBase o "append" env (eval o env) = eval o env := by intro _; rfl) (hline : (apos.endLine == pos.line) = true := by rfl)
    (hfew : ∀ env, ((backTo pos (starEach [e] env)).all (fun x => !x.1) && (backToKw pos (keywordEach [] env)).all (fun x => x.1.isSome) && decide ([e].length + ([] : List Keyword).length + (if ([] : List Keyword).isEmpty then 0 else 1) < 30)) = true := by intro _; rfl) :
    We Γ (.Call (.Attribute o "append" apos) [e] [] pos) ρ O Q := fun F σ H e0 s rr X hX pins st I => by
  refine (pe_bm PySem.F.plainAttrs_list PySem.F.slot_list_append PySem.F.type_list_append mt_append (Ev.pe hX o) (pa_cons (Ev.pe hX e) pa_nil (hs X.env)) (hbase X.env) (hfew X.env) hline (hs X.env)).run pins st σ H _ I ((h F σ H e0 s rr).mono fun v H1 ⟨d, F1, O1, e1, s1, r1, a, ds, hd, ho, q1⟩ => ?_)
  subst hd
  cases r1
  obtain ⟨vs, g1, g2⟩ := s1.list ho
  refine ⟨.inl ⟨rfl, vs, SqL.of g1⟩, (q1 F1 σ H1 (e0.trans e1) s1 (rr.mono e1)).mono fun w H2 ⟨d2, F2, O2, e2, s2, r2, ds2, ho2, hz, q2⟩ => ?_⟩
  obtain ⟨vs2, k1, k2⟩ := s2.list ho2
  exact ⟨a, vs2, w, rfl, rfl, k1, by rw [← k2.length]; exact hz, kv1 (e1.trans e2) (s2.change ho2 (u := .lst (ds2 ++ [d2])) ⟨_, rfl, k2.append (Reps.cons r2 Reps.nil)⟩) rep_non q2⟩
/-! ### f-strings -/
theorem we_fmt {e : Expr} {pos : Pos} (h : We Γ e ρ O fun d O1 => (∃ z : Str, d = .str z ∧ z.length ≤ sizeLine ∧ Q (.str z) O1) ∨ ∃ i : Int, d = .int i ∧ i.natAbs.log2 < 1920 ∧ Q (.str (toString i)) O1) : We Γ (.FormattedValue e (-1) none pos) ρ O Q := fun F σ H e0 s r X hX pins st I =>
  (pe_fmt (Ev.pe hX e)).run pins st σ H _ I ((h F σ H e0 s r).mono fun v H1 ⟨d, F1, O1, e1, s1, r1, q1⟩ => by
    rcases q1 with ⟨z, rfl, hz, q⟩ | ⟨i, rfl, hz, q⟩
    · cases r1; exact .inl ⟨z, rfl, hz, kv1 e1 s1 rep_str q⟩
    · cases r1; exact .inr ⟨i, rfl, hz, kv1 e1 s1 rep_str q⟩)
/-- the parts, one behind the other -/
def WJ (Γ : G) : List Expr → Str → Env' → Opens → DK → Prop
  | [], acc, _, O, Q => Q (.str acc) O
  | e :: es, acc, ρ, O, Q => We Γ e ρ O fun d O1 => ∃ z, d = .str z ∧ (acc ++ z).length ≤ sizeLine ∧ WJ Γ es (acc ++ z) ρ O1 Q
theorem pj_all {X : Cx} (hX : Γ.Has X) : ∀ es : List Expr, PJ X es (es.map (Ev Γ))
  | [] => .nil
  | e :: es => .cons (Ev.pe hX e) (pj_all hX es)
theorem tjs_run : ∀ (es : List Expr) (acc : Str) {F F1 : Fr} {O1 : Opens} {H1 : Hp}, Ext Γ.F0 F → Ext F F1 → Stt Γ.M.K F1 O1 H1 → EnvR Γ.M.K F1 ρ σ → WJ Γ es acc ρ O1 Q → tJs (es.map (Ev Γ)) acc σ H1 fun out H2 => KV' Γ F Q (.str out) H2
  | [], acc, F, F1, O1, H1, e0, e1, s, r, h => kv1 e1 s rep_str h
  | e :: es, acc, F, F1, O1, H1, e0, e1, s, r, h => (show We Γ e ρ O1 _ from h) F1 σ H1 (e0.trans e1) s r |>.mono fun v H2 ⟨d, F2, O2, e2, s2, r2, z, hd, hz, q⟩ => by
    subst hd
    cases r2
    exact ⟨z, rfl, hz, tjs_run es (acc ++ z) e0 (e1.trans e2) s2 (r.mono e2) q⟩
theorem we_joined {v1 v2 : Expr} {rest : List Expr} {pos : Pos} (h : WJ Γ (v1 :: v2 :: rest) Str.empty ρ O Q) : We Γ (.JoinedStr (v1 :: v2 :: rest) pos) ρ O Q := fun F σ H e0 s r X hX pins st I =>
  (pe_joined (pj_all hX _)).run pins st σ H _ I (tjs_run (v1 :: v2 :: rest) Str.empty e0 (Ext.refl F) s r h)
end
end DL

/-! DLG: the rules by names, small forms for the walk. -/
namespace DL
open PySem PySem.Spec PyProof.Rows L2

def slot (N : List Str) (x : Str) : Nat := N.findIdx (· == x)
/-- the built-in names that the module does not bind -/
structure Blt (M : Mo) : Prop where
  len : M.mg "len" = none
  isinstance : M.mg "isinstance" = none
  range : M.mg "range" = none
  all : M.mg "all" = none
  abs : M.mg "abs" = none
  int : M.mg "int" = none
  bool : M.mg "bool" = none
  str : M.mg "str" = none
  list : M.mg "list" = none
  tuple : M.mg "tuple" = none
  dict : M.mg "dict" = none
  sum : M.mg "sum" = none
  max : M.mg "max" = none
  min : M.mg "min" = none
  sorted : M.mg "sorted" = none
  set : M.mg "set" = none
section
variable {Γ : G} {ρ : Env'} {O : Opens} {Z : EndsD} {Q : DK} {x : Str} {pos p : Pos} {e : Expr} {es : List Expr}
theorem we_nm {d : D} (hd : ρ[slot Γ.N x]? = some (some d)) (hN : Γ.N[slot Γ.N x]? = some x) (hv : Vis Γ.sc x) (h : Q d O)
    (h1 : (x == ("__debug__" : Str)) = false := by decide) (h2 : (x == ("__classdict__" : Str)) = false := by decide) : We Γ (.Name x pos) ρ O Q := we_name hN hv hd h h1 h2
theorem ws_nm {pos' : Pos} (hN : Γ.N[slot Γ.N x]? = some x) (hl : Loc Γ.ss x) (h : We Γ e ρ O fun d O1 => Z.nx (ρ.set (slot Γ.N x) (some d)) O1) (hs : ∀ env, env.scope = Γ.sc → swapsWith e (some (.Name x pos')) pos.line env = pure false := by intro _ _; rfl) : WS Γ (.Assign [.Name x pos'] e pos) ρ O Z := ws_set hN hl h hs
theorem wg_nm {d : D} {Q : Env' → Opens → Prop} (hN : Γ.N[slot Γ.N x]? = some x) (hl : Loc Γ.ss x) (h : Q (ρ.set (slot Γ.N x) (some d)) O) : WG Γ (.Name x pos) d ρ O Q := wg_name hN hl h
theorem wgo_nm {own : List Nat} {d : D} {Q : Env' → Opens → Prop} (hN : Γ.N[slot Γ.N x]? = some x) (hl : Loc Γ.ss x) (hi : slot Γ.N x ∈ own) (h : Q (ρ.set (slot Γ.N x) (some d)) O) : WGo Γ own (.Name x pos) d ρ O Q := wgo_name hN hl hi h
theorem wo_none {Q : Option Int → Opens → Prop} (h : Q none O) : WO Γ none ρ O Q := h
theorem wo_some {Q : Option Int → Opens → Prop} (h : We Γ e ρ O fun d O1 => ∃ i, d = .int i ∧ Q (some i) O1) : WO Γ (some e) ρ O Q := h
theorem wi_nil {Q : Bool → Opens → Prop} (h : Q true O) : WI Γ [] ρ O Q := h
theorem wi_one {Q : Bool → Opens → Prop} (h : WT Γ e ρ O Q) : WI Γ [e] ρ O Q := h
theorem wj_nil {acc : Str} (h : Q (.str acc) O) : WJ Γ [] acc ρ O Q := h
theorem wj_cons {acc : Str} (h : We Γ e ρ O fun d O1 => ∃ z, d = .str z ∧ (acc ++ z).length ≤ sizeLine ∧ WJ Γ es (acc ++ z) ρ O1 Q) : WJ Γ (e :: es) acc ρ O Q := h
/-- a type's name as a value -/
theorem we_ty {n : String} {T : Ty} (hg : GlN Γ x) (hm : Γ.M.mg x = none) (hv : bootBuiltins x = some (.type n)) (h : Q (.raw (.ty n)) O) (hn : x ≠ "__name__" := by decide) (h1 : (x == ("__debug__" : Str)) = false := by decide) : We Γ (.Name x pos) ρ O Q := we_bltn (v := .ty n) hg hm hv rfl h hn h1
theorem we_tyInt (B : Blt Γ.M) (hg : GlN Γ "int") (h : Q (tyd .int) O) : We Γ (.Name "int" pos) ρ O Q := we_bltn hg B.int PySem.Pv.boot_int (v := .ty "int") rfl h
theorem we_tyBool (B : Blt Γ.M) (hg : GlN Γ "bool") (h : Q (tyd .bool) O) : We Γ (.Name "bool" pos) ρ O Q := we_bltn hg B.bool PySem.Pv.boot_bool (v := .ty "bool") rfl h
theorem we_tyStr (B : Blt Γ.M) (hg : GlN Γ "str") (h : Q (tyd .str) O) : We Γ (.Name "str" pos) ρ O Q := we_bltn hg B.str PySem.Pv.boot_str (v := .ty "str") rfl h
theorem we_tyList (B : Blt Γ.M) (hg : GlN Γ "list") (h : Q (tyd .list) O) : We Γ (.Name "list" pos) ρ O Q := we_bltn hg B.list PySem.Pv.boot_list (v := .ty "list") rfl h
theorem we_tyTuple (B : Blt Γ.M) (hg : GlN Γ "tuple") (h : Q (tyd .tuple) O) : We Γ (.Name "tuple" pos) ρ O Q := we_bltn hg B.tuple PySem.Pv.boot_tuple (v := .ty "tuple") rfl h
theorem we_tyDict (B : Blt Γ.M) (hg : GlN Γ "dict") (h : Q (tyd .dict) O) : We Γ (.Name "dict" pos) ρ O Q := we_bltn hg B.dict PySem.Pv.boot_dict (v := .ty "dict") rfl h
/-- isinstance(e, T) -/
theorem we_isi {a : Expr} (B : Blt Γ.M) (hg : GlN Γ "isinstance") (h : We Γ e ρ O fun d O1 => We Γ a ρ O1 fun c O2 => IsiQ [d, c] O2 Q)
    (h1 : ∀ env, starEach [e, a] env = (false, eval e env) :: starEach [a] env := by intro _; rfl) (h2 : ∀ env, starEach [a] env = (false, eval a env) :: starEach [] env := by intro _; rfl) (hpl : ∀ env, (backTo pos (starEach [a] env)).any (·.1) = false := by intro _; rfl) : We Γ (.Call (.Name "isinstance" p) [e, a] [] pos) ρ O Q :=
  we_blt (fun X hX => isi_ok hX) hg B.isinstance PyProof.Rows.boot_isinstance (wa_cons (h.imp fun _ _ q => wa_cons (q.imp fun _ _ q => wa_nil q) h2) h1) (he := h1) (hpl := hpl)
theorem one_arg {Qa : List D → Opens → Prop} (h : We Γ e ρ O fun d O1 => Qa [d] O1) (h1 : ∀ env, starEach [e] env = (false, eval e env) :: starEach [] env := by intro _; rfl) : WA Γ [e] ρ O Qa := wa_cons (h.imp fun _ _ q => wa_nil q) h1
theorem we_len (B : Blt Γ.M) (hg : GlN Γ "len") (h : We Γ e ρ O fun d O1 => LenQ [d] O1 Q) (h1 : ∀ env, starEach [e] env = (false, eval e env) :: starEach [] env := by intro _; rfl) : We Γ (.Call (.Name "len" p) [e] [] pos) ρ O Q :=
  we_blt (fun X hX => len_ok hX) hg B.len PySem.boot_len (one_arg h h1) (he := h1)
theorem we_all (B : Blt Γ.M) (hg : GlN Γ "all") (hh : Γ.hot = false) (h : We Γ e ρ O fun d O1 => AllQ [d] O1 Q) (h1 : ∀ env, starEach [e] env = (false, eval e env) :: starEach [] env := by intro _; rfl) : We Γ (.Call (.Name "all" p) [e] [] pos) ρ O Q :=
  we_blt (fun X hX => all_ok hX hh) hg B.all (by decide +kernel) (one_arg h h1) (he := h1)
theorem we_abs (B : Blt Γ.M) (hg : GlN Γ "abs") (h : We Γ e ρ O fun d O1 => AbsQ [d] O1 Q) (h1 : ∀ env, starEach [e] env = (false, eval e env) :: starEach [] env := by intro _; rfl) : We Γ (.Call (.Name "abs" p) [e] [] pos) ρ O Q :=
  we_blt (fun X hX => abs_ok) hg B.abs (by decide +kernel) (one_arg h h1) (he := h1)
theorem we_sum (B : Blt Γ.M) (hg : GlN Γ "sum") (hh : Γ.hot = false) (h : We Γ e ρ O fun d O1 => SumQ [d] O1 Q) (h1 : ∀ env, starEach [e] env = (false, eval e env) :: starEach [] env := by intro _; rfl) : We Γ (.Call (.Name "sum" p) [e] [] pos) ρ O Q :=
  we_blt (fun X hX => sum_ok hX hh) hg B.sum (by decide +kernel) (one_arg h h1) (he := h1)
theorem we_int_ (B : Blt Γ.M) (hg : GlN Γ "int") (h : We Γ e ρ O fun d O1 => IntQ [d] O1 Q) (h1 : ∀ env, starEach [e] env = (false, eval e env) :: starEach [] env := by intro _; rfl) : We Γ (.Call (.Name "int" p) [e] [] pos) ρ O Q :=
  we_typ (fun X hX => int_ok) hg B.int PySem.Pv.boot_int (one_arg h h1) (he := h1)
theorem we_str_ (B : Blt Γ.M) (hg : GlN Γ "str") (h : We Γ e ρ O fun d O1 => StrQ [d] O1 Q) (h1 : ∀ env, starEach [e] env = (false, eval e env) :: starEach [] env := by intro _; rfl) : We Γ (.Call (.Name "str" p) [e] [] pos) ρ O Q :=
  we_typ (fun X hX => str_ok) hg B.str PySem.Pv.boot_str (one_arg h h1) (he := h1)
theorem we_tuple_ (B : Blt Γ.M) (hg : GlN Γ "tuple") (h : We Γ e ρ O fun d O1 => TupQ [d] O1 Q) (h1 : ∀ env, starEach [e] env = (false, eval e env) :: starEach [] env := by intro _; rfl) : We Γ (.Call (.Name "tuple" p) [e] [] pos) ρ O Q :=
  we_typ (fun X hX => tup_ok hX) hg B.tuple PySem.Pv.boot_tuple (one_arg h h1) (he := h1)
theorem we_list_ (B : Blt Γ.M) (hg : GlN Γ "list") (h : We Γ e ρ O fun d O1 => LstQ [d] O1 Q) (h1 : ∀ env, starEach [e] env = (false, eval e env) :: starEach [] env := by intro _; rfl) : We Γ (.Call (.Name "list" p) [e] [] pos) ρ O Q :=
  we_typ (fun X hX => lst_ok hX) hg B.list PySem.Pv.boot_list (one_arg h h1) (he := h1)
theorem we_max {a : Expr} (B : Blt Γ.M) (hg : GlN Γ "max") (hh : Γ.hot = false) (h : We Γ e ρ O fun d O1 => We Γ a ρ O1 fun c O2 => MaxQ [d, c] O2 Q)
    (h1 : ∀ env, starEach [e, a] env = (false, eval e env) :: starEach [a] env := by intro _; rfl) (h2 : ∀ env, starEach [a] env = (false, eval a env) :: starEach [] env := by intro _; rfl) (hpl : ∀ env, (backTo pos (starEach [a] env)).any (·.1) = false := by intro _; rfl) : We Γ (.Call (.Name "max" p) [e, a] [] pos) ρ O Q :=
  we_blt (fun X hX => max_ok hX hh) hg B.max (by decide +kernel) (wa_cons (h.imp fun _ _ q => wa_cons (q.imp fun _ _ q => wa_nil q) h2) h1) (he := h1) (hpl := hpl)
theorem we_min {a : Expr} (B : Blt Γ.M) (hg : GlN Γ "min") (hh : Γ.hot = false) (h : We Γ e ρ O fun d O1 => We Γ a ρ O1 fun c O2 => MinQ [d, c] O2 Q)
    (h1 : ∀ env, starEach [e, a] env = (false, eval e env) :: starEach [a] env := by intro _; rfl) (h2 : ∀ env, starEach [a] env = (false, eval a env) :: starEach [] env := by intro _; rfl) (hpl : ∀ env, (backTo pos (starEach [a] env)).any (·.1) = false := by intro _; rfl) : We Γ (.Call (.Name "min" p) [e, a] [] pos) ρ O Q :=
  we_blt (fun X hX => min_ok hX hh) hg B.min (by decide +kernel) (wa_cons (h.imp fun _ _ q => wa_cons (q.imp fun _ _ q => wa_nil q) h2) h1) (he := h1) (hpl := hpl)
/-! ### small forms of what is asked of data -/
theorem ift {k : Bool} {A B : Prop} (h : k = true) (a : A) : if k = true then A else B := by rw [if_pos h]; exact a
theorem iff_ {k : Bool} {A B : Prop} (h : k = false) (b : B) : if k = true then A else B := by rw [h, if_neg Bool.false_ne_true]; exact b
theorem if2 {k : Bool} {A B : Prop} (a : k = true → A) (b : k = false → B) : if k = true then A else B := by
  cases k with
  | true => exact ift rfl (a rfl)
  | false => exact iff_ rfl (b rfl)
theorem q_bl {k : Bool} {P : Bool → Prop} (h : P k) : ∃ k', D.bl k = .bl k' ∧ P k' := ⟨k, rfl, h⟩
theorem q_addi {i j : Int} (h : Q (.int (i + j)) O) : BinQ .Add (.int i) (.int j) O Q := h
theorem q_subi {i j : Int} (h : Q (.int (i - j)) O) : BinQ .Sub (.int i) (.int j) O Q := h
theorem q_muli {i j : Int} (hc : CMulW i j) (h : Q (.int (i * j)) O) : BinQ .Mult (.int i) (.int j) O Q := ⟨hc, h⟩
theorem q_divi {i j : Int} (hc : CDivW i j) (h : Q (.int (i / j)) O) : BinQ .FloorDiv (.int i) (.int j) O Q := ⟨hc, h⟩
theorem q_modi {i j : Int} (hc : 0 < j) (h : Q (.int (i % j)) O) : BinQ .Mod (.int i) (.int j) O Q := ⟨hc, h⟩
theorem q_lti {i j : Int} (h : Q (.bl (decide (i < j))) O) : CmpQ .Lt (.int i) (.int j) O Q := h
theorem q_lei {i j : Int} (h : Q (.bl (decide (i ≤ j))) O) : CmpQ .LtE (.int i) (.int j) O Q := h
theorem q_gti {i j : Int} (h : Q (.bl (decide (j < i))) O) : CmpQ .Gt (.int i) (.int j) O Q := h
theorem q_gei {i j : Int} (h : Q (.bl (decide (j ≤ i))) O) : CmpQ .GtE (.int i) (.int j) O Q := h
theorem q_eqi {i j : Int} (h : Q (.bl (i == j)) O) : CmpQ .Eq (.int i) (.int j) O Q := ⟨_, _, rfl, rfl, rfl, rfl, h⟩
theorem q_nei {i j : Int} (h : Q (.bl (!(i == j))) O) : CmpQ .NotEq (.int i) (.int j) O Q := ⟨_, _, rfl, rfl, rfl, rfl, h⟩
theorem q_eqs {i j : Str} (h : Q (.bl (i == j)) O) : CmpQ .Eq (.str i) (.str j) O Q := h
theorem q_nes {i j : Str} (h : Q (.bl (!(i == j))) O) : CmpQ .NotEq (.str i) (.str j) O Q := h
theorem q_isi {d : D} {a b : Ty} (h1 : tyD O d = some a) (h : Q (.bl (isi a b)) O) : IsiQ [d, tyd b] O Q := ⟨a, b, h1, rfl, h⟩
theorem q_lent {xs : List D} (h : Q (.int xs.length) O) : LenQ [.tup xs] O Q := h
theorem q_lenl {xs : List D} (h : Q (.int xs.length) O) : LenQ [.lst xs] O Q := h
theorem q_ixt {xs : List D} {i : Int} {d : D} (h1 : atI xs i = some d) (h : Q d O) : IxQ (.tup xs) (.int i) O Q := ⟨d, h1, h⟩
theorem q_ixl {xs : List D} {i : Int} {d : D} (h1 : atI xs i = some d) (h : Q d O) : IxQ (.lst xs) (.int i) O Q := ⟨d, h1, h⟩
theorem q_trub {b : Bool} {Q : Bool → Opens → Prop} (h : Q b O) : TruQ (.bl b) O Q := h
theorem q_abs {i : Int} (h : Q (.int (if i < 0 then -i else i)) O) : AbsQ [.int i] O Q := h
end

/-! ### comprehensions that change nothing -/
section
variable {Γ : G} {ρ : Env'} {O : Opens} {Q : DK} {scope : Scope} {own : List Nat} {tg elt : Expr} {ifs : List Expr}
/-- each item kept by p gives f: what is open stays -/
theorem lc_pure {ds : List D} {Ql : List D → Opens → Prop} (p : D → Bool) (f : D → D) (hl : ds.length ≤ sizeLine)
    (ht : ∀ (F0 : Fr) x, x ∈ ds → WGo (blkG Γ scope F0) own tg x (wipeD ρ own) O fun ρ2 O2 => WI (blkG Γ scope F0) ifs ρ2 O2 fun b O3 => b = p x ∧ if b = true then We (blkG Γ scope F0) elt ρ2 O3 fun y O4 => y = f x ∧ O4 = O else O3 = O)
    (h : Ql ((ds.filter p).map f) O) : ∃ W, LcQ Γ scope own tg ifs elt ds.length (fun i => ds[i]?) ρ O Ql W := by
  refine ⟨fun i acc O' => acc = ((ds.take i).filter p).map f ∧ O' = O, ⟨rfl, rfl⟩, fun F0 i x acc O' hi hx ⟨e1, e2⟩ => ?_, fun acc O' ⟨e1, e2⟩ => ?_⟩
  · subst e2
    have hm : x ∈ ds := List.mem_of_getElem? hx
    have htk : ds.take (i + 1) = ds.take i ++ [x] := by
      rw [List.take_add_one, hx]; rfl
    have fin : ∀ ρ2 O2, (WI (blkG Γ scope F0) ifs ρ2 O2 fun b O3 => b = p x ∧ if b = true then We (blkG Γ scope F0) elt ρ2 O3 fun y O4 => y = f x ∧ O4 = O' else O3 = O') →
        WI (blkG Γ scope F0) ifs ρ2 O2 fun b O3 => if b = true then We (blkG Γ scope F0) elt ρ2 O3 fun y O4 => acc.length < sizeLine ∧ (acc ++ [y] = ((ds.take (i + 1)).filter p).map f ∧ O4 = O') else (acc = ((ds.take (i + 1)).filter p).map f ∧ O3 = O') := by
      intro ρ2 O2 hw
      have hlt : acc.length < sizeLine := by
        rw [e1, List.length_map]
        have h1 := List.length_filter_le p (ds.take i)
        rw [List.length_take] at h1
        omega
      have m : ∀ (b : Bool) O3, (b = p x ∧ if b = true then We (blkG Γ scope F0) elt ρ2 O3 fun y O4 => y = f x ∧ O4 = O' else O3 = O') → if b = true then We (blkG Γ scope F0) elt ρ2 O3 fun y O4 => acc.length < sizeLine ∧ (acc ++ [y] = ((ds.take (i + 1)).filter p).map f ∧ O4 = O') else (acc = ((ds.take (i + 1)).filter p).map f ∧ O3 = O') := by
        intro b O3 ⟨hb, hk⟩
        cases b with
        | true =>
          refine ift rfl ?_
          have hk : We (blkG Γ scope F0) elt ρ2 O3 fun y O4 => y = f x ∧ O4 = O' := by simpa using hk
          refine hk.imp fun y O4 ⟨ey, eo⟩ => ⟨hlt, ?_, eo⟩
          rw [htk, List.filter_append, List.map_append, ← e1, List.filter_cons, if_pos hb.symm, ey]; rfl
        | false =>
          refine iff_ rfl ⟨?_, by simpa using hk⟩
          rw [htk, List.filter_append, List.map_append, ← e1, List.filter_cons, if_neg (by rw [← hb]; decide)]; simp
      match ifs, hw with
      | [], hw => exact m true O2 hw
      | [c], hw => exact WT.imp (show WT _ c ρ2 O2 _ from hw) m
      | _ :: _ :: _, hw => exact hw.elim
    intro F σ H v e0 s r rv
    exact (ht F0 x hm F σ H v e0 s r rv).mono fun σ' H' ⟨w, k⟩ => ⟨w, KS.mono (Ext.refl F) (fun ρ2 O2 q => fin ρ2 O2 q) k⟩
  · subst e2 e1
    rw [List.take_length]; exact h
theorem lc_pureR {n : Nat} {Ql : List D → Opens → Prop} (p : Int → Bool) (f : Int → D) (hl : n ≤ sizeLine)
    (ht : ∀ (F0 : Fr) (i : Nat), i < n → WGo (blkG Γ scope F0) own tg (.int (i : Int)) (wipeD ρ own) O fun ρ2 O2 => WI (blkG Γ scope F0) ifs ρ2 O2 fun b O3 => b = p i ∧ if b = true then We (blkG Γ scope F0) elt ρ2 O3 fun y O4 => y = f i ∧ O4 = O else O3 = O)
    (h : Ql ((((List.range n).map fun i : Nat => (i : Int)).filter p).map f) O) : ∃ W, LcQ Γ scope own tg ifs elt n (fun i => some (.int (0 + (i : Int)))) ρ O Ql W := by
  have key := lc_pure (Γ := Γ) (ρ := ρ) (O := O) (scope := scope) (own := own) (tg := tg) (elt := elt) (ifs := ifs) (ds := (List.range n).map fun i : Nat => D.int (i : Int)) (Ql := Ql)
    (fun d => match d with | .int i => p i | _ => false) (fun d => match d with | .int i => f i | _ => .non) (by rw [List.length_map, List.length_range]; exact hl)
    (fun F0 x hx => by
      obtain ⟨i, hi, rfl⟩ := List.mem_map.mp hx
      exact ht F0 i (List.mem_range.mp hi)) (by
      have e1 : ∀ l : List Nat, ((l.map fun i : Nat => D.int (i : Int)).filter (fun d => match d with | .int i => p i | _ => false)).map (fun d => match d with | .int i => f i | _ => .non) = ((l.map fun i : Nat => (i : Int)).filter p).map f := by
        intro l
        induction l with
        | nil => rfl
        | cons a l ih =>
          rw [List.map_cons, List.map_cons, List.filter_cons, List.filter_cons]
          cases hp : p (a : Int) with
          | true => rw [if_pos (show (match D.int (a : Int) with | .int i => p i | _ => false) = true from hp), if_pos rfl, List.map_cons, List.map_cons, ih]
          | false => rw [if_neg (show ¬ (match D.int (a : Int) with | .int i => p i | _ => false) = true by show ¬ p (a : Int) = true; rw [hp]; decide), if_neg (by decide), ih]
      rw [e1]; exact h)
  obtain ⟨W, T⟩ := key
  refine ⟨W, ⟨T.start, fun F0 i x acc O' hi hx w => ?_, fun acc O' w => ?_⟩⟩
  · refine T.turn F0 i x acc O' (by rw [List.length_map, List.length_range]; exact hi) ?_ w
    rw [List.getElem?_map, List.getElem?_range hi]
    rw [Int.zero_add] at hx
    exact hx
  · rw [List.length_map, List.length_range] at T
    exact T.stop acc O' w
end
end DL
namespace DL
open PySem PySem.Spec PyProof.Rows L2
section
variable {Γ : G} {ρ : Env'} {O : Opens} {Q : DK} {x : Str} {pos : Pos}
theorem we_gstr {z : Str} {t : Tok} (hm : Γ.M.mg x = some (.str z t)) (hg : GlN Γ x) (h : Q (.str z) O) (h1 : (x == ("__debug__" : Str)) = false := by decide) : We Γ (.Name x pos) ρ O Q := we_glob (v := .str z) (d := .str z) hg hm ⟨t, rfl⟩ (fun _ => rfl) h h1
theorem we_gint {z : Int} {t : Tok} (hm : Γ.M.mg x = some (.int z t)) (hg : GlN Γ x) (h : Q (.int z) O) (h1 : (x == ("__debug__" : Str)) = false := by decide) : We Γ (.Name x pos) ρ O Q := we_glob (v := .int z) (d := .int z) hg hm ⟨t, rfl⟩ (fun _ => rfl) h h1
end
end DL

/-! DLX0: an own exception class called with keywords, at the library's level. -/
namespace DLX
open PySem PySem.Spec PySem.W PySem.Calls PyProof.Rows PySem.HandSPX
section
variable {Mo : Model} {Ar : Around} {Er : Value → Shared → Prop} {hp : Heap} {gs : Array GenState} {dr : Drawn} {tk : Nat} {os : OsState}
variable {nm qn : Str} {C N : Addr} {bs bm bmB : List Value} {hdct : Bool} {sn : List Str} {sub : List Value} {ab : Bool} {col : Option Bool} {dd : Option Addr} {k0 k1 k2 k3 k5 : Option Value} {B newId initId : String} {kw : List (Str × Value)}
theorem ck_new (F : ExcBaseFacts B newId initId bmB) (hT : ∀ Y : String, bm.contains (.type Y) = bmB.contains (.type Y)) {us : List Value} {Q : Unit → Shared → Prop} (hC : hp.get? C = some (excClassObj nm qn C N bs bm hdct sn sub ab col dd k0 k1 k2 k3 k5 newId)) (hq : Q () ⟨hp, gs, dr, tk, os⟩) :
    wpAny Mo Ar (checkBuiltinCall newId ⟨.ref C :: us, kw⟩) Q Er ⟨hp, gs, dr, tk, os⟩ := by
  have inB : (Value.ref C :: bm).contains (.type B) = true := by rw [List.contains_cons, hT, F.hasB, Bool.or_true]
  have h0 := F.noStar
  simp only [checkBuiltinCall, F.newKind, F.newSplit, F.newRow]
  repeat (first | refine wpAny_loadPart_at hC ?_ | (refine wpAny_isSubtype_exc hC ?_; rw [inB]) | refine wpAny_staticBase_exc hC ?_ | refine wpAny_madeBy_exc hC ?_ | simp only [bne_self_eq_false, Bool.false_eq_true, if_false] | wp_step)
  exact hq
end
section
variable {prog : Program} {w : World} {Ar : Around} {Er : Value → Shared → Prop} {R : Result → Shared → Prop} {hp : Heap} {gs : Array GenState} {dr : Drawn} {tk : Nat} {os : OsState}
variable {nm qn : Str} {C N : Addr} {bs bm bmB : List Value} {hdct : Bool} {sn : List Str} {sub : List Value} {ab : Bool} {col : Option Bool} {dd : Option Addr} {k0 k1 k2 k3 k5 : Option Value} {B newId initId : String} {kw : List (Str × Value)}
theorem mk_new (F : ExcBaseFacts B newId initId bmB) (hT : ∀ Y : String, bm.contains (.type Y) = bmB.contains (.type Y)) {us : List Value} (hC : hp.get? C = some (excClassObj nm qn C N bs bm hdct sn sub ab col dd k0 k1 k2 k3 k5 newId)) (hl : us.length ≤ sizeLine)
    (hq : R (.ok (.ret (.ref (hp.objs.size + 1)))) ⟨(hp.push (kdv_tup us)).push (excO C hp.objs.size), gs, dr, tk, os⟩) : codeAny (model prog w) Ar (.builtin newId ⟨.ref C :: us, kw⟩) R ⟨hp, gs, dr, tk, os⟩ := by
  have h0 := F.ends
  have inB : (Value.ref C :: bm).contains (.type B) = true := by rw [List.contains_cons, hT, F.hasB, Bool.or_true]
  have noA : (Value.ref C :: bm).contains (.type "AttributeError") = false := by rw [List.contains_cons, hT, F.noAttr]; rfl
  have noN : (Value.ref C :: bm).contains (.type "NameError") = false := by rw [List.contains_cons, hT, F.noName]; rfl
  refine codeAny_builtinAt F.entry ?_
  unfold Builtin.«BaseException.__new__»
  refine PySem.wpAt_bind ?_
  show PySem.wpAt _ _ _ (stack >>= _) _ _ _
  refine PySem.wpAt_bind (PySem.wpAt_stack fun p below => PySem.wpAt_of_wpAny ?_)
  wp_walk
  refine PySem.wpAt_of_wpAny ?_
  rw [F.owner]
  repeat (first | with_reducible refine wpAny_madeHere_exc F.canon hC ?_ | with_reducible refine wpAny_loadPart_at hC ?_ | (with_reducible refine wpAny_isSubtype_exc hC ?_; first | rw [inB] | rw [noA] | rw [noN]) | wp_step)
  show R _ _
  rw [Heap.size_push]
  exact hq
theorem ty_call (F : ExcBaseFacts B newId initId bmB) (hT : ∀ Y : String, bm.contains (.type Y) = bmB.contains (.type Y)) {us : List Value} {fI : Addr} {Q : Fin → Shared → Prop} (hC : hp.get? C = some (excClassObj nm qn C N bs bm hdct sn sub ab col dd k0 k1 k2 k3 k5 newId))
    (hi : Looks (model prog w) hp (typeLookup (.ref C) "__init__") (some (.ref fI))) (hb : ∀ self, Looks (model prog w) hp (bindSpecial (.ref fI) self) (.ref fI, [self])) (hl : us.length ≤ sizeLine)
    (hq : codeAny (model prog w) Ar (.call (.ref fI) ⟨.ref (hp.objs.size + 1) :: us, kw⟩) (fun r s' => match r with | .ok (.ret v) => v = .none ∧ Q (.done (.ret (.ref (hp.objs.size + 1)))) s' | .ok _ => False | .error e => Er e s') ⟨(hp.push (kdv_tup us)).push (excO C hp.objs.size), gs, dr, tk, os⟩) :
    wpAny (model prog w) Ar (Builtin.«type.__call__» ⟨.ref C :: us, kw⟩) Q Er ⟨hp, gs, dr, tk, os⟩ := by
  repeat (first | with_reducible refine wpAny_loadPart_at hC ?_ | with_reducible refine wpAny_madeBy_exc hC ?_ | wp_step)
  refine codeAny_call_builtin_code (Code.quiet_builtin _ F.quiet) (ck_new F hT hC ?_)
  refine mk_new F hT hC hl ?_
  show wpAny _ _ _ _ _ _
  have kp : ∀ b o, hp.get? b = some o → ((hp.push (kdv_tup us)).push (excO C hp.objs.size)).get? b = some o := fun b o e => Heap.get?_push_of_some _ (Heap.get?_push_of_some _ e)
  have hC1 := kp _ _ hC
  have got : ((hp.push (kdv_tup us)).push (excO C hp.objs.size)).get? (hp.objs.size + 1) = some (excO C hp.objs.size) := by heap_get
  have inC : (Value.ref C :: bm).contains (.ref C) = true := by simp
  have li := hi.keeps kp
  have lb := (hb (.ref (hp.objs.size + 1))).keeps kp
  unfold isInstance
  repeat (first | with_reducible refine wpAny_loadPart_at got ?_ | (with_reducible refine wpAny_isSubtype_exc hC1 ?_; rw [inC]) | wp_step)
  show wpAny _ _ (typeLookup (.ref C) _) _ _ _
  refine li.at ?_
  refine wpAny_holding (wpAny_bind (lb.at ?_))
  refine wpAny_bind (wpAny_call (codeAny_mono hq fun r s' z => ?_))
  rcases r with e | (v | _ | _ | _) <;> first | exact z | exact z.elim | skip
  obtain ⟨rfl, z⟩ := z
  first
    | exact wpAny_pure (wpAny_pure z)
    | (wp_walk; exact z)
theorem ccall (F : ExcBaseFacts B newId initId bmB) (hT : ∀ Y : String, bm.contains (.type Y) = bmB.contains (.type Y)) {us : List Value} {fI : Addr} (hC : hp.get? C = some (excClassObj nm qn C N bs bm hdct sn sub ab col dd k0 k1 k2 k3 k5 newId))
    (hi : Looks (model prog w) hp (typeLookup (.ref C) "__init__") (some (.ref fI))) (hb : ∀ self, Looks (model prog w) hp (bindSpecial (.ref fI) self) (.ref fI, [self])) (hl : us.length ≤ sizeLine)
    (hq : codeAny (model prog w) (Ar.under (.builtin "type.__call__" ⟨.ref C :: us, kw⟩)) (.call (.ref fI) ⟨.ref (hp.objs.size + 1) :: us, kw⟩) (InitBack (hp.objs.size + 1) R) ⟨(hp.push (kdv_tup us)).push (excO C hp.objs.size), gs, dr, tk, os⟩) :
    codeAny (model prog w) Ar (.call (.ref C) ⟨us, kw⟩) R ⟨hp, gs, dr, tk, os⟩ := by
  have f1 := tc_lookup
  have f2 := tc_bind (.ref C)
  have ty : (⟨hp, gs, dr, tk, os⟩ : Shared).TypeIs (.ref C) "type" := ⟨_, hC, rfl⟩
  refine codeAny_of_tree ?_
  show wpAny _ _ (callAny (.ref C) _) _ _ _
  repeat (any_goals (first | assumption | with_reducible refine wpAny_loadPart_at hC ?_ | wp_step))
  refine ⟨rfl, ?_⟩
  refine codeAny_call_builtin_at (Code.quiet_builtin _ (by decide +kernel)) entry_typeCall (wpAny_check_type_call_sub hC (ty_call F hT hC hi hb hl ?_))
  refine codeAny_mono hq fun r s' z => ?_
  rcases r with e | (v | _ | _ | _) <;> exact z
end
end DLX

/-! DLX1: try with named except clauses, one class or a tuple of classes each. -/
namespace DLX
open PySem PySem.Spec PyProof.Rows L2

/-- what leads a clause: its test asks the classes cs -/
def Asks (X : Cx) (t : Expr) (cs : List Value) : Prop :=
  ∀ (a : Addr) (pn : List (Addr × Obj)) (σ : L2.St) (H : Hp) (s : Shared) (cls : Value) (b : Bool) (Q : Bool → Shared → Prop) (E : Value → Shared → Prop), Inv (X.suite a pn) [] σ H s → PySem.W.Looks (model X.prog X.w) s.heap (typeOf (.ref a)) cls → PySem.W.exmAny X.K cls cs = some b →
    (∀ h', (∀ q o, s.heap.get? q = some o → h'.get? q = some o) → Q b { s with heap := h' }) → wpAny (model X.prog X.w) (X.A.mark (some (.ref a))) (eval t X.env) (fun c s1 => wpAny (model X.prog X.w) (X.A.mark (some (.ref a))) (excMatches (.ref a) c) Q E s1) E s
theorem one_name {X : Cx} {x : Str} {c : Value} {np : Pos} {a : Addr} {pn : List (Addr × Obj)} {σ : L2.St} {H : Hp} {s : Shared} {Q : Value → Shared → Prop} {E : Value → Shared → Prop} (hc : Names X x c) (I : Inv (X.suite a pn) [] σ H s) (q : Q c s) : wpAny (model X.prog X.w) (X.A.mark (some (.ref a))) (eval (.Name x np) X.env) Q E s := by
  obtain ⟨hg, hd, hm | ⟨hm, hv, hn⟩⟩ := hc
  · exact ld_glob (X := X.suite a pn) I hg hm q hd
  · exact ld_blt (X := X.suite a pn) I hg hm hv q hn hd
theorem any_one {K : PySem.W.Frag} {cls c : Value} {b : Bool} (h : PySem.W.exmAny K cls [c] = some b) : PySem.W.exmOne K cls c = some b := by
  obtain ⟨b1, d1, h1, h2, h3⟩ := PySem.W.exmAny_cons h
  have h2' : some false = some d1 := h2
  cases h2'
  rw [h1, h3, Bool.or_false]
theorem asks_name {X : Cx} {x : Str} {c : Value} {np : Pos} (hc : Names X x c) : Asks X (.Name x np) [c] := fun a pn σ H s cls b Q E I LT he q =>
  one_name hc I ((PySem.W.exm_one I.kIn LT (any_one he)).here (q s.heap fun _ _ z => z))
theorem asks_tup2 {X : Cx} {x y : Str} {c d : Value} {p1 p2 tp : Pos} {n : Nat} (hc : Names X x c) (hd : Names X y d) : Asks X (.Tuple [.Name x p1, .Name y p2] n tp) [c, d] := fun a pn σ H s cls b Q E I LT he q => by
  refine wpAny_Tuple (wpAny_items_cons (one_name hc I (wpAny_items_cons (one_name hd I (wpAny_items_nil ⟨by size_fits, ?_⟩)))))
  have kp : ∀ z o, s.heap.get? z = some o → (s.heap.push { cls := .type "tuple", data := .seq [c, d].toArray }).get? z = some o := fun _ _ z => Heap.get?_push_of_some _ z
  exact (PySem.W.exm_tup2 (I.kIn.keeps kp) (LT.keeps kp) (Heap.get?_push_size s.heap rfl) he).here (q _ kp)
theorem asks_tup3 {X : Cx} {x y u : Str} {c d e : Value} {p1 p2 p3 tp : Pos} {n : Nat} (hc : Names X x c) (hd : Names X y d) (hu : Names X u e) : Asks X (.Tuple [.Name x p1, .Name y p2, .Name u p3] n tp) [c, d, e] := fun a pn σ H s cls b Q E I LT he q => by
  refine wpAny_Tuple (wpAny_items_cons (one_name hc I (wpAny_items_cons (one_name hd I (wpAny_items_cons (one_name hu I (wpAny_items_nil ⟨by size_fits, ?_⟩)))))))
  have kp : ∀ z o, s.heap.get? z = some o → (s.heap.push { cls := .type "tuple", data := .seq [c, d, e].toArray }).get? z = some o := fun _ _ z => Heap.get?_push_of_some _ z
  exact (PySem.W.exm_tup3 (I.kIn.keeps kp) (LT.keeps kp) (Heap.get?_push_size s.heap rfl) he).here (q _ kp)
/-- the ends of a suite whose name goes -/
def endsN (i : Nat) (D : Ends) : Ends := { nx := fun σ H => D.nx (σ.set i none) H, rt := D.rt, bk := fun σ H => D.bk (σ.set i none) H, ct := fun σ H => D.ct (σ.set i none) H }
abbrev Hd := List Value × Nat × (Addr → Value → Option Addr → TS)
/-- what the clauses wish of an exception of the body -/
def wHds (K : PySem.W.Frag) (Wout : WX) (D : Ends) : List Hd → WX
  | [] => Wout
  | (cs, i, ts) :: r => fun cls d σ H => ∃ b, PySem.W.exmAny K cls cs = some b ∧ (b = true → ∀ a, H a = none → ts a cls d (endsN i D) (σ.set i (some (.ref a))) H) ∧ (b = false → wHds K Wout D r cls d σ H)
inductive HdA (X : Cx) : List ExceptHandler → List Hd → Prop
  | nil : HdA X [] []
  | cons {t : Expr} {n : Str} {cs : List Value} {i : Nat} {ts : Addr → Value → Option Addr → TS} {b0 : Stmt} {su : List Stmt} {p : Pos} {hs : List ExceptHandler} {l : List Hd} (ht : Asks X t cs) (hi : X.N[i]? = some n) (hl : X.env.kindOf n = some .local)
      (hsu : ∀ (a : Addr) (oe : Obj) (cls : Value) (d : Option Addr) (pn : List (Addr × Obj)), Zc cls d oe → (∃ vs, oe.data = .fields vs) → PSs (X.suite a ((a, oe) :: pn)) (b0 :: su) (ts a cls d)) (r : HdA X hs l) :
      HdA X (.ExceptHandler (some t) (some n) (b0 :: su) p :: hs) ((cs, i, ts) :: l)
theorem flying_grows {B h h' : Heap} {l : List Env} {e : Addr} {Z : Obj → Prop} (f : HandSPX.FlyingZ B l e Z h) (k : ∀ b o, h.get? b = some o → h'.get? b = some o) : HandSPX.FlyingZ B l e Z h' := by
  obtain ⟨f1, f2, f3, oe, vs, T, oT, ts, g1, g2, g3, g4, g5, g6, g7, g8, g9⟩ := f
  exact ⟨fun b o z => k b o (f1 b o z), f2, Heap.FunFrames.of_keeps (fun b o z _ => ⟨o, k b o z, rfl⟩) f3, oe, vs, T, oT, ts, k _ _ g1, g2, g3, g4, g5, g6, k _ _ g7, g8, g9⟩
section
variable {X : Cx} {body : List Stmt} {h0 : ExceptHandler} {hs : List ExceptHandler} {l : List Hd} {pos : Pos} {tb : WX → TS} {Wout : WX}
theorem ps_tryA (hst : X.stack = X.env :: X.outer) (hf : X.env.frame = some X.env.locals) (hN : X.N.Nodup) (tk : Takes X Wout)
    (hb : ∀ (W : WX) (pn : List (Addr × Obj)) (xe : Value → Shared → Prop), Takes (X.tr pn xe) W → PassesOwn (model X.prog X.w) X.A X.env xe → PSs (X.tr pn xe) body (tb W))
    (hh : HdA X (h0 :: hs) l) : PS X (.Try body (h0 :: hs) [] [] pos) (fun D σ H => tb (wHds X.K Wout D l) D σ H) := by
  refine ⟨fun pins s σ H D I h => ?_⟩
  have ok := I.ok
  have hfr : X.A.frames = some (X.env :: X.outer) := by rw [ok.frames, hst]
  refine wpAny_Try_except (wpAny_mono ((hb (wHds X.K Wout D l) (X.pn ++ pins) (fun e s₁ => wpAny (model X.prog X.w) X.A (noteFrame e X.env) (fun _ s₂ => wpAny (model X.prog X.w) X.A (setFlight e none) (fun _ s₃ => wpAny (model X.prog X.w) X.A (handleBy e X.env (h0 :: hs)) (SP X pins D) X.xe s₃) X.xe s₂) X.xe s₁)
    (fun u s' xx => ?_) PassesOwn.looking).run [] s σ H D (I.toTry _) h) (fun f s1 hsp => ?_) (fun e s1 he => he))
  · obtain ⟨a, B, sI, pins', σ', H', cls, d, rfl, J', nb, up, sky, na, os, ag, w⟩ := xx
    have J : Inv X pins σ' H' sI := J'.ofTry ok
    have sky2 : Sky B (X.env :: X.outer) a (Zc cls d) X.env.locals s'.heap := by rw [← hst]; exact sky
    show wpAny (model X.prog X.w) X.A (noteFrame (.ref a) X.env) _ _ _
    refine Sky.land Zc.steady hfr hf sky2 fun h3 fl3 up3 => ?_
    have outFr : ∀ {h : Heap} {o : Obj} {vs : Array Value}, h.FunFrames B (X.env :: X.outer) → h.get? a = some o → o.data = .fields vs → a ∉ frs (X.env :: X.outer) := fun {h o vs} ff e dd hm => by
      obtain ⟨_, o', e', hnf⟩ := ff.mem hm
      rw [e] at e'
      exact hnf vs (by rw [← Option.some.inj e']; exact dd)
    obtain ⟨oe3, vs3, he3, hz3, hd3⟩ := fl3.there
    have nfr := outFr fl3.2.2.1 he3 hd3
    have nL : a ≠ X.env.locals := fun z => nfr (List.mem_filterMap.mpr ⟨X.env, List.mem_cons_self, by rw [hf, z]⟩)
    have nF : a ∉ X.fs := fun hm => by
      obtain ⟨e, he, q⟩ := List.mem_filterMap.mp hm
      exact nfr (List.mem_filterMap.mpr ⟨e, List.mem_cons_of_mem _ he, q⟩)
    have go : ∀ {hs' : List ExceptHandler} {l' : List Hd}, HdA X hs' l' → wHds X.K Wout D l' cls d σ' H' → ∀ h5, HandSPX.FlyingZ B (X.env :: X.outer) a (Zc cls d) h5 → sI.heap.UpToSlots h5 →
        wpAny (model X.prog X.w) X.A (handleBy (.ref a) X.env hs') (SP X pins D) X.xe { s' with heap := h5 } := by
      intro hs' l' hk
      induction hk with
      | nil =>
        intro w h5 fl up5
        refine wpAny_handleBy_nil ?_
        obtain ⟨k1, k2, k3, oe, vs, T, oT, ts', he, hz, hd, h1, hr⟩ := id fl
        unfold PySem.passOn
        refine wpAny_bind (wpAny_field he hd h1 ?_)
        rw [if_neg (show ¬ ((Value.ref T == Value.none) = true) from by simp)]
        have fin : wpAny (model X.prog X.w) X.A (setFlight (.ref a) X.env.frame) (fun _ s4 => wpAny (model X.prog X.w) X.A (throw (.ref a) : Sem Flow) (SP X pins D) X.xe s4) X.xe { s' with heap := h5 } := by
          rw [hf]
          exact HandSPX.setFlight_upZ fl fun h4 held upp => wpAny_throw (tk _ _ ⟨a, B, sI, pins, σ', H', cls, d, rfl, J, nb, up5.trans upp, .inr (.inr (by rw [hst]; exact held)), na, os, ag, w⟩)
        first
          | exact wpAny_bind (wpAny_pure (wpAny_bind fin))
          | exact wpAny_bind fin
      | @cons t n cs i ts b0 su p hs2 l2 ht hi hl hsu r ih =>
        intro w h5 fl up5
        obtain ⟨b, hb1, yes, no⟩ := w
        obtain ⟨oe5, vs5, he5, hz5, hd5⟩ := fl.there
        have J5 : Inv X pins σ' H' { s' with heap := h5 } := J.landed nb fl.1 up5 os ag
        have S5 := J5.suite he5 hd5 na nL nF
        refine wpAny_handleBy_cons (codeAny_handlers_test ?_) (by intro q; cases q)
        refine ht a _ σ' H' _ cls b _ _ S5 (fun A Q E s k q => wpAny_typeOf_ref (k _ _ he5) (by rw [hz5.1]; exact q)) hb1 fun h6 k6 => ?_
        have fl6 := flying_grows fl k6
        have up6 : sI.heap.UpToSlots h6 := up5.trans (Heap.UpToSlots.of_keeps k6)
        cases b with
        | true =>
          refine codeAny_handlers_suite_as (HandSPX.lands_againZ fl6 fun h4 fl4 up4 => ?_)
          have J4 : Inv X pins σ' H' { s' with heap := h4 } := J.landed nb fl4.1 (up6.trans up4) os ag
          obtain ⟨oe4, vs4, he4, hz4, hd4⟩ := fl4.there
          have S4 := J4.suite he4 hd4 na nL nF
          refine store_ok (X := X.suite a ((a, oe4) :: (X.pn ++ pins))) (v := .ref a) S4 hN hi (.inl hl) rfl (fun s5 S5 => ?_) (.inr hl)
          refine wpAny_mono ((hsu a oe4 cls d (X.pn ++ pins) hz4 ⟨_, hd4⟩).run [] s5 _ H' _ S5 (yes rfl a na)) (fun f s6 hsp => ?_) (fun _ _ z => False.elim z)
          have fin : ∀ {σ6 : L2.St} {H6 : Hp} {Q : Shared → Prop}, Inv (X.suite a ((a, oe4) :: (X.pn ++ pins))) [] σ6 H6 s6 → (∀ s7, Inv X pins (σ6.set i none) H6 s7 → Q s7) → wpAny (model X.prog X.w) X.A (do bindName X.env n .none; unbindBehindTheSuite X.env n p) (fun _ s7 => Q s7) X.xe s6 :=
            fun {σ6 H6 Q} S6 hq => gone_ok (S6.unsuite ok) hN hi hl hq
          cases f with
          | next => obtain ⟨σ6, H6, S6, q6⟩ := hsp; exact fin S6 fun s7 J7 => ⟨_, _, J7, q6⟩
          | brk => obtain ⟨σ6, H6, S6, q6⟩ := hsp; exact fin S6 fun s7 J7 => ⟨_, _, J7, q6⟩
          | cont => obtain ⟨σ6, H6, S6, q6⟩ := hsp; exact fin S6 fun s7 J7 => ⟨_, _, J7, q6⟩
          | ret u => obtain ⟨v6, σ6, H6, S6, r6, q6⟩ := hsp; exact fin S6 fun s7 J7 => ⟨_, _, _, J7, r6, q6⟩
        | false => exact ih (no rfl) h6 fl6 up6
    exact go hh w h3 fl3 (up.trans up3)
  · cases f with
    | next => obtain ⟨σ', H', J', q⟩ := hsp; exact wpAny_execs_nil ⟨σ', H', J'.ofTry ok, q⟩
    | brk => obtain ⟨σ', H', J', q⟩ := hsp; exact ⟨σ', H', J'.ofTry ok, q⟩
    | cont => obtain ⟨σ', H', J', q⟩ := hsp; exact ⟨σ', H', J'.ofTry ok, q⟩
    | ret u => obtain ⟨v, σ', H', J', r, q⟩ := hsp; exact ⟨v, σ', H', J'.ofTry ok, r, q⟩
end
end DLX

/-! DLX2: own exceptions as values: made, asked, read; E.__init__(self, ..) of an own class E over ValueError. -/
namespace DLX
open PySem PySem.Spec PyProof.Rows L2
section
variable {X : Cx} {o e : Expr} {es : List Expr} {to te : TE} {ta : TA} {x f : Str} {p p1 p2 pos : Pos}
/-- E.__init__(self, ..), E an own class whose __init__ is ValueError's -/
theorem pe_upI {E : Addr} {mc : Value} {pl : Sem Bool} (hg : Gl X x) (hm : X.mg x = some (.ref E)) (r : ClX.CRead X.K E mc) (v : PySem.W.findCls X.K (.ref E) mc "__init__" = some (.val (.builtin "ValueError.__init__"))) (ha : PA X (e :: es) ta)
    (hd : (x == ("__debug__" : Str)) = false := by decide)
    (hc : eval (.Call (.Attribute (.Name x p1) "__init__" p2) (e :: es) [] pos) X.env = (do
      let ov ← eval (.Name x p1) X.env
      standAt p2.atName
      let (g, first) ← holding [ov] (getMethod ov "__init__" pl)
      callWith pos g first (backTo pos (starEach (e :: es) X.env)) (backToKw pos (keywordEach [] X.env))) := by rfl)
    (he : starEach (e :: es) X.env = (false, eval e X.env) :: starEach es X.env := by rfl) (hpl : (backTo pos (starEach es X.env)).any (·.1) = false := by rfl) :
    PE X (.Call (.Attribute (.Name x p1) "__init__" p2) (e :: es) [] pos) (tVeI X.K ta) := by
  refine ⟨fun pins s σ H Q I h => ?_⟩
  refine PySem.W.methodCall_KW (ld_glob I hg hm ?_ hd) hc
  refine PySem.W.method_cls I.kIn r.ga (PySem.W.cls_value I.kIn r.rd v rfl ?_)
  show wpAny _ _ (callWith pos (Value.builtin "ValueError.__init__") [] (backTo pos (starEach (e :: es) X.env)) []) _ _ _
  refine PyProof.Rows.callWith_method1 (thn (ha.run pos pins _ σ H _ (I.tok _) h) fun us s1 ⟨vs, H1, I1, r1, a, C, ws, ev, hl, T, ea, q⟩ => ?_) he hpl
  subst ev
  cases r1 with
  | @cons _ u0 _ ur ra rw' =>
    cases (show u0 = Value.ref a from ra)
    exact oinit_ok T I1 ea (by rw [← Paired.length rw', sizeLine_eq]; omega) fun s' J => ⟨.non, H1, J, rfl, q⟩
/-- what C(..) as a value wishes of C's own __init__ -/
def wMk (C : Addr) (sp : Sp) (vs : List V) (H1 : Hp) (Q : VK) : Prop := vs.length ≤ 1000 ∧ ∀ a, H1 a = none → sp (.ref a :: vs) (upd H1 a (exo a C none)) (fun v H2 => v = .non ∧ Q (.ref a) H2) (fun _ _ _ => False)
theorem run_mk {CX : CXT} {pins : List (Addr × Obj)} {σ : L2.St} {H1 : Hp} {Q : VK} {C fI : Addr} {k : Nat} {fd : FuncData} {ps : List Str} {sp : Sp} {us al : List Value} {vs : List V} {kw : List (Str × Value)} {s1 : Shared} (T : OexC X.K C) (iC : PySem.W.findIn X.K (.ref C) "__init__" = some (some (.ref fI))) (tI : PySem.W.typeIn X.K (.ref fI) = some (.type "function"))
    (F1 : FnOk X.prog X.w X.K X.mg X.base CX k fI fd ps sp) (hr : Room (k + 1) X.A) (hx : Passes CX X (fun _ _ _ => False)) (I1 : Inv X pins σ H1 s1) (r1 : Vals vs al) (hus : us.length ≤ sizeLine)
    (hb : ∀ self, X.K.In s1.heap → (self :: al).length = ps.length → bindArgs fd ⟨self :: us, kw⟩ = pure (ps.zip (self :: al))) (h : wMk C sp vs H1 Q) : wpAny (model X.prog X.w) X.A (call (.ref C) us kw) (EP X pins σ Q) X.xe s1 := by
  obtain ⟨hz, q1⟩ := h
  obtain ⟨nm, q, N, bs, bm, sn, sub, ab, col, dd, k0, k1, k2, k3, k5, hC, hbm⟩ := T.cls
  have kIn1 := I1.kIn
  obtain ⟨hp, g, dr, tk, os⟩ := s1
  have hsz : hp.objs.size ≤ hp.objs.size + 1 := Nat.le_succ _
  have hq := q1 (hp.objs.size + 1) (I1.hok.fresh hsz)
  have kk : ∀ b o, hp.get? b = some o → ((hp.push (PySem.W.kdv_tup us)).push (PySem.HandSPX.excO C hp.objs.size)).get? b = some o := fun b o e => Heap.get?_push_of_some _ (Heap.get?_push_of_some _ e)
  have got : ((hp.push (PySem.W.kdv_tup us)).push (PySem.HandSPX.excO C hp.objs.size)).get? (hp.objs.size + 1) = some (PySem.HandSPX.excO C hp.objs.size) := by heap_get
  have I2 : Inv X pins σ (upd H1 (hp.objs.size + 1) (exo (hp.objs.size + 1) C none)) ⟨(hp.push (PySem.W.kdv_tup us)).push (PySem.HandSPX.excO C hp.objs.size), g, dr, tk, os⟩ := I1.laid (t' := tk) kk hsz (exo_ok got)
  have r2 : Vals (V.ref (hp.objs.size + 1) :: vs) (Value.ref (hp.objs.size + 1) :: al) := .cons rfl r1
  have hl : (Value.ref (hp.objs.size + 1) :: al).length = ps.length := by
    rw [← r2.length]
    exact F1.len _ _ _ _ hq
  refine wpAny_call (ccall F.excBase_ValueError (fun Y => PySem.HandSPX.refsVE_contains Y bm hbm) (kIn1 _ _ hC) (PySem.W.looks_findIn kIn1 iC) (fun self => PySem.W.bind_fn kIn1 self tI) hus
    (codeAny_mono (F1.run _ X.stack _ _ ⟨Value.ref (hp.objs.size + 1) :: us, kw⟩ (Value.ref (hp.objs.size + 1) :: al) _ _ (fun _ _ _ => False) (hr.make C us kw) (I2.env0.make C us kw) (.of_eq (hb _ kIn1 hl)) r2 hq) fun r s' hq2 => ?_))
  cases r with
  | error er => exact hx pins σ _ _ er s' I2 hq2
  | ok fl =>
    cases fl with
    | ret u =>
      obtain ⟨v, H2, J, rv, ev, q2⟩ := I2.after hq2
      subst ev
      exact ⟨rv, ⟨.ref (hp.objs.size + 1), H2, J, rfl, q2⟩⟩
    | next => exact False.elim hq2
    | brk => exact False.elim hq2
    | cont => exact False.elim hq2
/-- C(e, ..) as a value -/
theorem pe_mkV {CX : CXT} {C fI : Addr} {k : Nat} {fd : FuncData} {ps : List Str} {sp : Sp} (T : OexC X.K C) (iC : PySem.W.findIn X.K (.ref C) "__init__" = some (some (.ref fI))) (tI : PySem.W.typeIn X.K (.ref fI) = some (.type "function"))
    (F1 : FnOk X.prog X.w X.K X.mg X.base CX k fI fd ps sp) (hr : Room (k + 1) X.A) (hx : Passes CX X (fun _ _ _ => False)) (hb : ∀ us : List Value, us.length = ps.length → bindArgs fd ⟨us, []⟩ = pure (ps.zip us)) (hg : Gl X x) (hm : X.mg x = some (.ref C)) (ha : PA X (e :: es) ta)
    (hd : (x == ("__debug__" : Str)) = false := by decide) (he : starEach (e :: es) X.env = (false, eval e X.env) :: starEach es X.env := by rfl) (hpl : (backTo pos (starEach es X.env)).any (·.1) = false := by rfl) :
    PE X (.Call (.Name x p) (e :: es) [] pos) (fun σ H Q => ta σ H fun vs H1 => wMk C sp vs H1 Q) := by
  refine ⟨fun pins s σ H Q I h => ?_⟩
  refine wpAny_Call_Name_kw (ld_glob I hg hm ?_ hd)
  refine PySem.W.callWith_K (h₀ := X.base) I.ok.mod.kin T.kC (thn (ha.run pos pins s σ H _ I h) fun us s1 ⟨vs, H1, I1, r1, q1⟩ => ⟨I1.kIn, ?_⟩) he hpl
  have hl : us.length ≤ sizeLine := by
    have h1 := q1.1
    rw [← Paired.length r1, sizeLine_eq]
    omega
  exact run_mk T iC tI F1 hr hx I1 r1 hl (fun self _ hl => hb _ hl) q1
/-- C(n = e), one keyword -/
theorem pe_mkK {CX : CXT} {C fI : Addr} {k : Nat} {fd : FuncData} {ps : List Str} {sp : Sp} {kws : List Keyword} {ks : List Str} {tk : TA} (T : OexC X.K C) (iC : PySem.W.findIn X.K (.ref C) "__init__" = some (some (.ref fI))) (tI : PySem.W.typeIn X.K (.ref fI) = some (.type "function"))
    (F1 : FnOk X.prog X.w X.K X.mg X.base CX k fI fd ps sp) (hr : Room (k + 1) X.A) (hx : Passes CX X (fun _ _ _ => False)) (hb : ∀ self (us : List Value), (self :: us).length = ps.length → bindArgs fd ⟨[self], ks.zip us⟩ = pure (ps.zip (self :: us))) (hg : Gl X x) (hm : X.mg x = some (.ref C)) (ha : PK X kws tk)
    (hall : (backToKw pos (keywordEach kws X.env)).all (·.1.isSome) = true := by rfl) (hks : (backToKw pos (keywordEach kws X.env)).filterMap (·.1) = ks := by rfl) (hd : (x == ("__debug__" : Str)) = false := by decide)
    (hpl : ((backTo pos (starEach [] X.env)).any (·.1) || (backToKw pos (keywordEach kws X.env)).any (·.1.isNone)) = false := by rfl) :
    PE X (.Call (.Name x p) [] kws pos) (fun σ H Q => tk σ H fun vs H1 => wMk C sp vs H1 Q) := by
  refine ⟨fun pins s σ H Q I h => ?_⟩
  refine wpAny_Call_Name_kw (ld_glob I hg hm ?_ hd)
  refine PySem.W.callWith_KW0 (h₀ := X.base) I.ok.mod.kin T.kC hall ?_ hpl
  refine thn (ha.run pos pins s σ H _ I h) fun us s1 ⟨vs, H1, I1, r1, q1⟩ => ⟨I1.kIn, ?_⟩
  rw [hks]
  exact run_mk (us := []) T iC tI F1 hr hx I1 r1 (Nat.zero_le _) (fun self _ hl => hb self us hl) q1
/-- an exception held: its record -/
theorem exo_inst {pins : List (Addr × Obj)} {σ : L2.St} {H : Hp} {s : Shared} {a C d : Addr} {fs : List (Str × V)} (I : Inv X pins σ H s) (e1 : H a = some (exo a C (some d))) (e2 : H d = some (exd d fs)) :
    ∃ (ox od : Obj) (mA : Str → Option Value), PySem.W.InstAt s.heap a ox C (some od) ∧ (∀ n, PySem.W.lookIn n od = some (mA n)) ∧ ∀ g, RelO (fs.lookup g) (mA g) := by
  obtain ⟨t1, ho⟩ := exo_at I.hok e1
  obtain ⟨mA, hns, rel⟩ := exd_at I.hok e2
  obtain ⟨od, ho2, hl⟩ := lookIn_ns hns
  exact ⟨_, od, mA, ⟨ho, rfl, rfl, ho2⟩, hl, rel⟩
/-- e.n, e such an exception -/
theorem pe_xv {n : Str} (he : PE X e te) (hb : attributeBase e n X.env (eval e X.env) = eval e X.env := by rfl) : PE X (.Attribute e n pos) (fun σ H Q => te σ H fun y H1 => ∃ (a C d : Addr) (fs : List (Str × V)) (v : V), y = .ref a ∧ XfC X.K C ∧ PySem.W.findIn X.K (.ref C) n = some none ∧
    H1 a = some (exo a C (some d)) ∧ H1 d = some (exd d fs) ∧ fs.lookup n = some v ∧ Q v H1) := by
  refine ⟨fun pins s σ H Q I h => ?_⟩
  refine attr_of hb (thn (he.run pins s σ H _ I h) fun u s1 ⟨y, H1, I1, ry, a, C, d, fs, v, ey, T, hno, e1, e2, l, q⟩ => ?_)
  subst ey
  cases (show u = Value.ref a from ry)
  obtain ⟨ox, od, mA, J, hl, rel⟩ := exo_inst I1 e1 e2
  obtain ⟨w, hw, rw'⟩ := RelO.some_of (v := v) (o := mA n) (by rw [← l]; exact rel n)
  exact HandSPX.exc_get I1.kIn J T.ga T.gg T.exC (PySem.W.findObj_own T.hdC hno rfl (by rw [hl, hw])) (handed_of rw') ⟨v, H1, I1.tok _, rw', q⟩
/-- isinstance(e, c), e such an exception -/
theorem ask_xv {pins : List (Addr × Obj)} {σ : L2.St} {H : Hp} {s : Shared} {a C : Addr} {c cv : Value} {b : Bool} {ox : Obj} {od : Option Obj} {Q : VK} (E : ExcC X.K C) (I : Inv X pins σ H s) (J : PySem.W.InstAt s.heap a ox C od) (ec : c = cv) (e : PySem.W.kitOne X.K (.ref C) cv = some b) (q : Q (.bl b) H) :
    wpAny (model X.prog X.w) X.A (call (.builtin "isinstance") [.ref a, c]) (EP X pins σ Q) X.xe s := by
  subst ec
  obtain ⟨cd, hcd, _⟩ := PySem.W.any_some E.hd
  exact PySem.W.kia_one (PySem.W.kitx_exc (by rw [hcd]; rfl) E.hg E.hk E.hs E.ha E.hn E.ht E.hm) I.kIn J e (fun z => nomatch z) fun tk => ⟨.bl b, H, I.kept (t' := tk) fun _ _ z => z, rfl, q⟩
end
end DLX

/-! DLX3: the rules over data: own exceptions made, raised, caught; what is open is shut. -/
namespace DL
open PySem PySem.Spec PyProof.Rows L2 DLX

/-! ### an open thing is shut: it stands as it is -/
def Opens.drop (O : Opens) (p : Addr) : Opens := fun b => if b = p then Option.none else O b
theorem Opens.drop_same {O : Opens} {p : Addr} : O.drop p p = Option.none := if_pos rfl
theorem Opens.drop_ne {O : Opens} {p b : Addr} (h : b ≠ p) : O.drop p b = O b := if_neg h
theorem Opens.drop_up {O : Opens} {p : Addr} {u : OO} (h : O p = Option.none) : (O.up p u).drop p = O := by
  funext b
  by_cases e : b = p
  · rw [e, Opens.drop_same, h]
  · rw [Opens.drop_ne e, Opens.up_ne e]
theorem ext_add {F : Fr} {p : Addr} {o : HO} (h : F.z p = none) : Ext F (F.add p o) := Ext.new h
section
variable {K : PySem.W.Frag} {F : Fr} {H : Hp} {O : Opens} {p : Addr} {o : HO} {u : OO}
theorem Stt.shut (S : Stt K F O H) (h : O p = some u) (ho : H p = some o) : Stt K (F.add p o) (O.drop p) H := by
  have hz := (S.opn p u h).1
  refine ⟨fun a w q => ?_, fun a w q => ?_, fun a w q => ?_⟩
  · have q : upd F.z p o a = some w := q
    by_cases e : a = p
    · rw [e, upd_same] at q
      rw [e, ho]; exact q
    · rw [upd_ne e] at q
      exact S.ext a w q
  · by_cases e : a = p
    · rw [e, Opens.drop_same] at q; cases q
    · rw [Opens.drop_ne e] at q
      obtain ⟨h1, w2, h2, h3⟩ := S.opn a w q
      exact ⟨by show upd F.z p o a = none; rw [upd_ne e]; exact h1, w2, h2, h3.mono (ext_add hz)⟩
  · obtain ⟨h1, h2, h3⟩ := S.rst a w q
    have e : a ≠ p := fun z => by rw [z, h] at h2; cases h2
    exact ⟨by show upd F.z p o a = none; rw [upd_ne e]; exact h1, by rw [Opens.drop_ne e]; exact h2, h3⟩
/-- all that H holds besides is left alone -/
def restOf (F : Fr) (O : Opens) (H : Hp) : Hp := fun b => if F.z b = none ∧ O b = none then H b else none
theorem Stt.pinAll (S : Stt K F O H) : Stt K ⟨F.z, restOf F O H⟩ O H := by
  refine ⟨S.ext, fun a w q => ?_, fun a w q => ?_⟩
  · obtain ⟨h1, w2, h2, h3⟩ := S.opn a w q
    exact ⟨h1, w2, h2, RepO.monoZ (F := F) (F' := ⟨F.z, restOf F O H⟩) (fun _ _ z => z) h3⟩
  · have q : (if F.z a = none ∧ O a = none then H a else none) = some w := q
    split at q
    · rename_i c; exact ⟨c.1, c.2, q⟩
    · cases q
theorem restOf_has (S : Stt K F O H) {a : Addr} {w : HO} (q : F.r a = some w) : restOf F O H a = some w := by
  obtain ⟨h1, h2, h3⟩ := S.rst a w q
  show (if F.z a = none ∧ O a = none then H a else none) = some w
  rw [if_pos ⟨h1, h2⟩]; exact h3
/-- .. and after a call with all left alone -/
theorem Stt.unpinAll {F' : Fr} {O' : Opens} {H' : Hp} (S : Stt K F O H) (S' : Stt K F' O' H') (e : Ext ⟨F.z, restOf F O H⟩ F') : Stt K ⟨F'.z, F.r⟩ O' H' ∧ Ext F ⟨F'.z, F.r⟩ := by
  refine ⟨⟨S'.ext, fun a w q => ?_, fun a w q => ?_⟩, ⟨e.1, rfl⟩⟩
  · obtain ⟨h1, w2, h2, h3⟩ := S'.opn a w q
    exact ⟨h1, w2, h2, RepO.monoZ (F := F') (F' := ⟨F'.z, F.r⟩) (fun _ _ z => z) h3⟩
  · exact S'.rst a w (by rw [e.2]; exact restOf_has S q)
/-- what is newly open was not there -/
theorem Stt.wasNew {F' : Fr} {O' : Opens} {H' : Hp} (S : Stt K F O H) (S' : Stt K F' O' H') (e : Ext ⟨F.z, restOf F O H⟩ F') {d : Addr} {w : OO} (h1 : O d = none) (h2 : O' d = some w) : H d = none := by
  cases q : H d with
  | none => rfl
  | some v =>
    have hz : F.z d = none := by
      cases y : F.z d with
      | none => rfl
      | some t => have z := e.1 d t y; rw [(S'.opn d w h2).1] at z; cases z
    have r : F'.r d = some v := by
      rw [e.2]
      show (if F.z d = none ∧ O d = none then H d else none) = some v
      rw [if_pos ⟨hz, h1⟩]; exact q
    have z := (S'.rst d v r).2.1
    rw [h2] at z; cases z
theorem Reps.onlyZ {r : Hp} {ds : List D} {vs : List V} (h : Reps K F ds vs) : Reps K ⟨F.z, r⟩ ds vs := Reps.monoZ (F := F) (F' := ⟨F.z, r⟩) (fun _ _ z => z) _ _ h
theorem Rep.onlyZ {r : Hp} {d : D} {v : V} (h : Rep K F d v) : Rep K ⟨F.z, r⟩ d v := Rep.monoZ (F := F) (F' := ⟨F.z, r⟩) (fun _ _ z => z) _ _ h
end
section
variable {Γ : G} {ρ : Env'} {O : Opens} {Z : EndsD} {Q : DK} {x f : Str} {e : Expr} {p pos pos2 : Pos}
/-- an open list that goes out as it stands -/
theorem we_shut (h : We Γ e ρ O fun d O1 => ∃ p ds, d = .raw (.ref p) ∧ O1 p = some (.lst ds) ∧ Q (.lst ds) (O1.drop p)) : We Γ e ρ O Q := fun F σ H e0 s r => (h F σ H e0 s r).mono fun v H1 ⟨d, F1, O1, e1, s1, r1, p, ds, hd, ho, q⟩ => by
  subst hd
  cases r1
  obtain ⟨h1, w, h2, vs, rfl, h3⟩ := s1.opn p _ ho
  exact ⟨.lst ds, F1.add p (.lst vs), O1.drop p, e1.trans (ext_add h1), s1.shut ho h2, rep_lst upd_same (h3.mono (ext_add h1)), q⟩
/-- an open list that a slot holds is shut -/
theorem wss_shut {st : List Stmt} {i : Nat} {p : Addr} {ds : List D} (hi : ρ[i]? = some (some (.raw (.ref p)))) (ho : O p = some (.lst ds)) (h : WSs Γ st (ρ.set i (some (.lst ds))) (O.drop p) Z) : WSs Γ st ρ O Z := fun F σ H e0 s r => by
  obtain ⟨h1, w, h2, vs, rfl, h3⟩ := s.opn p _ ho
  have ex := ext_add (o := .lst vs) h1
  obtain ⟨v, g1, g2⟩ := r.get i _ hi
  cases g2
  have rr : EnvR Γ.M.K (F.add p (.lst vs)) (ρ.set i (some (.lst ds))) σ := by
    refine ⟨by rw [List.length_set]; exact r.len, fun j d q => ?_⟩
    by_cases hj : j = i
    · subst hj
      have hl : j < ρ.length := (List.getElem?_eq_some_iff.mp hi).1
      rw [List.getElem?_set_self hl] at q
      cases q
      exact ⟨_, g1, rep_lst upd_same (h3.mono ex)⟩
    · rw [List.getElem?_set_ne (Ne.symm hj)] at q
      exact (r.mono ex).get j d q
  exact KE'.mono ex (h (F.add p (.lst vs)) σ H (e0.trans ex) (s.shut ho h2) rr)
end

/-! ### own exceptions -/
/-- an __init__(self, f) that says E.__init__(self, ..); self.f = f -/
def spIni (K : PySem.W.Frag) (f : Str) : SpD := fun ds O Q _ => ∃ (a C : Addr) (x : D), ds = [.raw (.ref a), x] ∧ O a = some (.exo a C none) ∧ OexC K C ∧ PySem.W.findIn K (.ref C) f = some none ∧ ∀ d, O d = none → d ≠ a → Q .non ((O.up d (.exd d [f] [x])).up a (.exo a C (some d)))
/-- the class x at C, its objects with the field f -/
structure XCls (M : Mo) (x : Str) (C : Addr) (f : Str) (k : Nat) : Prop where
  g : M.mg x = some (.ref C)
  T : OexC M.K C
  no : PySem.W.findIn M.K (.ref C) f = some none
  rd : XfC M.K C
  is : ExcC M.K C
  ini : ∃ (fI : Addr) (fd : FuncData), PySem.W.findIn M.K (.ref C) "__init__" = some (some (.ref fI)) ∧ PySem.W.typeIn M.K (.ref fI) = some (.type "function") ∧ FnOk M.P M.w M.K M.mg M.base (L2.CX M.P M.w) k fI fd ["self", f] (lift M.K (spIni M.K f)) ∧
    (∀ us : List Value, us.length = 2 → bindArgs fd ⟨us, []⟩ = pure ([("self" : Str), f].zip us)) ∧ ∀ self (us : List Value), (self :: us).length = 2 → bindArgs fd ⟨[self], [f].zip us⟩ = pure ([("self" : Str), f].zip (self :: us))
theorem no_pass {X : Cx} {P : Program} {w : World} : Passes (L2.CX P w) X (fun _ _ _ => False) := fun _ _ _ _ _ _ _ ⟨_, _, _, _, _, _, _, _, _, _, _, _, h⟩ => h.elim
section
variable {Γ : G} {ρ : Env'} {O : Opens} {Z : EndsD} {Q : DK} {x f : Str} {e : Expr} {p pos pos2 : Pos} {C : Addr} {k : Nat}
/-- the state behind such an __init__ -/
def IniQ (O1 : Opens) (a C : Addr) (f : Str) (d : D) : DK := fun r O' => r = .non ∧ ∃ dd, O1 dd = none ∧ dd ≠ a ∧ O' = ((O1.up a (.exo a C none)).up dd (.exd dd [f] [d])).up a (.exo a C (some dd))
theorem ini_lift {K : PySem.W.Frag} {F1 : Fr} {O1 : Opens} {H1 : Hp} {a : Addr} {d : D} {v : V} {Qv : VK} (T : OexC K C) (no : PySem.W.findIn K (.ref C) f = some none) (s1 : Stt K F1 O1 H1) (ha : H1 a = none) (r : Rep K F1 d v)
    (h : ∀ (F' : Fr) (O' : Opens) (H' : Hp) (dd : Addr), Ext F1 ⟨F'.z, F1.r⟩ → Stt K ⟨F'.z, F1.r⟩ O' H' → O1 dd = none → dd ≠ a → H1 dd = none → O' = ((O1.up a (.exo a C none)).up dd (.exd dd [f] [d])).up a (.exo a C (some dd)) → Qv .non H') :
    lift K (spIni K f) [.ref a, v] (upd H1 a (exo a C none)) Qv (fun _ _ _ => False) := by
  have hO := s1.closed ha
  have S2 : Stt K F1 (O1.up a (.exo a C none)) (upd H1 a (exo a C none)) := s1.open_ ha rfl
  refine ⟨[.raw (.ref a), d], ⟨F1.z, restOf F1 (O1.up a (.exo a C none)) (upd H1 a (exo a C none))⟩, O1.up a (.exo a C none), IniQ O1 a C f d, fun _ _ => False, Reps.cons rep_raw (Reps.cons r.onlyZ Reps.nil), S2.pinAll, ?_, ?_, fun _ _ _ _ _ _ _ _ _ h => h.elim⟩
  · refine ⟨a, C, d, rfl, Opens.up_same, T, no, fun dd h1 h2 => ⟨rfl, dd, ?_, h2, rfl⟩⟩
    rw [Opens.up_ne h2] at h1
    exact h1
  · intro d' v' F' O' H' ee S' r' ⟨hd, dd, h1, h2, hO'⟩
    subst hd
    cases r'
    obtain ⟨S3, e3⟩ := S2.unpinAll S' ee
    have hn : (upd H1 a (exo a C none)) dd = none := S2.wasNew S' ee (w := .exd dd [f] [d]) (by rw [Opens.up_ne h2]; exact h1) (by rw [hO', Opens.up_ne h2, Opens.up_same])
    rw [upd_ne h2] at hn
    exact h F' O' H' dd e3 S3 h1 h2 hn hO'
theorem exc_value {K : PySem.W.Frag} {F1 : Fr} {O1 O' : Opens} {H1 H' : Hp} {a dd : Addr} {d : D} (S : Stt K F1 O' H') (ha : O1 a = none) (h1 : O1 dd = none) (h2 : dd ≠ a) (e : O' = ((O1.up a (.exo a C none)).up dd (.exd dd [f] [d])).up a (.exo a C (some dd))) :
    ∃ F2, Ext F1 F2 ∧ Stt K F2 O1 H' ∧ Rep K F2 (.exc C [f] [d]) (.ref a) := by
  have ea : O' a = some (.exo a C (some dd)) := by rw [e, Opens.up_same]
  have ed : O' dd = some (.exd dd [f] [d]) := by rw [e, Opens.up_ne h2, Opens.up_same]
  obtain ⟨za, oa, ga, ra⟩ := S.opn a _ ea
  have ra : oa = exo a C (some dd) := ra
  subst ra
  have S1 := S.shut ea ga
  have ed1 : O'.drop a dd = some (.exd dd [f] [d]) := by rw [Opens.drop_ne h2]; exact ed
  obtain ⟨zd, od, gd, vs, rd, hl, rr⟩ := S1.opn dd _ ed1
  subst rd
  have S2 := S1.shut ed1 gd
  have x1 : Ext F1 (F1.add a (exo a C (some dd))) := ext_add za
  have x2 := ext_add (o := exd dd ([f].zip vs)) zd
  have eO : (O'.drop a).drop dd = O1 := by
    funext b
    by_cases hb : b = dd
    · rw [hb, Opens.drop_same, h1]
    · rw [Opens.drop_ne hb]
      by_cases hc : b = a
      · rw [hc, Opens.drop_same, ha]
      · rw [Opens.drop_ne hc, e, Opens.up_ne hc, Opens.up_ne hb, Opens.up_ne hc]
  rw [eO] at S2
  refine ⟨_, x1.trans x2, S2, a, dd, vs, rfl, ?_, upd_same, rfl, rr.mono x2⟩
  exact x2.1 a _ upd_same
theorem mk_run {X : Cx} (hX : Γ.Has X) {F F1 : Fr} {O1 : Opens} {H1 : Hp} {d : D} {v : V} (hc : XCls Γ.M x C f k) (e1 : Ext F F1) (s1 : Stt Γ.M.K F1 O1 H1) (r1 : Rep Γ.M.K F1 d v) (q : Q (.exc C [f] [d]) O1) : wMk C (lift X.K (spIni X.K f)) [v] H1 (KV' Γ F Q) := by
  refine ⟨by show 1 ≤ 1000; omega, fun a ha => ?_⟩
  rw [← hX.K]
  refine ini_lift hc.T hc.no s1 ha r1 fun F' O' H' dd e3 S3 h1 h2 hn hO => ⟨rfl, ?_⟩
  obtain ⟨F2, x2, S2, rr⟩ := exc_value (H1 := H1) S3 (s1.closed ha) h1 h2 hO
  exact ⟨.exc C [f] [d], F2, O1, e1.trans (e3.trans x2), S2, rr, q⟩
theorem XCls.at {X : Cx} (hX : Γ.Has X) (hc : XCls Γ.M x C f k) : XCls ⟨X.prog, X.w, X.K, X.mg, X.base⟩ x C f k := hX.M ▸ hc
/-- C(e) -/
theorem we_mkx (hc : XCls Γ.M x C f k) (hk : k + 1 ≤ Γ.k) (hg : GlN Γ x) (hh : Γ.hot = false) (h : We Γ e ρ O fun d O1 => Q (.exc C [f] [d]) O1) (hd : (x == ("__debug__" : Str)) = false := by decide) (h1 : ∀ env, starEach [e] env = (false, eval e env) :: starEach [] env := by intro _; rfl) : We Γ (.Call (.Name x p) [e] [] pos) ρ O Q := fun F σ H e0 s r X hX pins st I => by
  have hc' := hc.at hX
  obtain ⟨fI, fd, i1, i2, i3, i4, i5⟩ := hc'.ini
  refine (pe_mkV hc'.T i1 i2 i3 ((hX.room hh).mono hk) no_pass i4 (hX.gl hg) hc'.g (pa_cons (Ev.pe hX e) pa_nil (h1 X.env)) hd (h1 X.env)).run pins st σ H _ I ((h F σ H e0 s r).mono fun v H1 ⟨d, F1, O1, e1, s1, r1, q⟩ => ?_)
  exact mk_run hX hc e1 s1 r1 q
/-- C(f = e) -/
theorem we_mkxK {kp : Pos} (hc : XCls Γ.M x C f k) (hk : k + 1 ≤ Γ.k) (hg : GlN Γ x) (hh : Γ.hot = false) (h : We Γ e ρ O fun d O1 => Q (.exc C [f] [d]) O1) (hd : (x == ("__debug__" : Str)) = false := by decide)
    (hall : ∀ env, (backToKw pos (keywordEach [⟨some f, e, kp⟩] env)).all (·.1.isSome) = true := by intro _; rfl) (hks : ∀ env, (backToKw pos (keywordEach [⟨some f, e, kp⟩] env)).filterMap (·.1) = [f] := by intro _; rfl)
    (hpl : ∀ env, ((backTo pos (starEach [] env)).any (·.1) || (backToKw pos (keywordEach [⟨some f, e, kp⟩] env)).any (·.1.isNone)) = false := by intro _; rfl) : We Γ (.Call (.Name x p) [] [⟨some f, e, kp⟩] pos) ρ O Q := fun F σ H e0 s r X hX pins st I => by
  have hc' := hc.at hX
  obtain ⟨fI, fd, i1, i2, i3, i4, i5⟩ := hc'.ini
  refine (pe_mkK (ks := [f]) hc'.T i1 i2 i3 ((hX.room hh).mono hk) no_pass i5 (hX.gl hg) hc'.g (pk_cons (Ev.pe hX e) pk_nil) (hall X.env) (hks X.env) hd (hpl X.env)).run pins st σ H _ I ((h F σ H e0 s r).mono fun v H1 ⟨d, F1, O1, e1, s1, r1, q⟩ => ?_)
  exact mk_run hX hc e1 s1 r1 q
/-- raise C(e) -/
theorem ws_raise (hc : XCls Γ.M x C f k) (hk : k + 1 ≤ Γ.k) (hg : GlN Γ x) (hh : Γ.hot = false) (h : We Γ e ρ O fun d O1 => Γ.E ⟨C, [f], [d]⟩ ρ O1) (hd : (x == ("__debug__" : Str)) = false := by decide) (h1 : ∀ env, starEach [e] env = (false, eval e env) :: starEach [] env := by intro _; rfl) : WS Γ (.Raise (some (.Call (.Name x p) [e] [] pos)) none pos2) ρ O Z := fun F σ H e0 s r X hX pins st I => by
  have hc' := hc.at hX
  obtain ⟨fI, fd, i1, i2, i3, i4, i5⟩ := hc'.ini
  refine (ps_raise (hX.calm hh) hX.takes (pmk_oex hc'.T i1 i2 i3 ((hX.room hh).mono hk) (.all i4) .nil no_pass (hX.gl hg) hc'.g (pa_cons (Ev.pe hX e) pa_nil (h1 X.env)) hd (h1 X.env))).run pins st σ H _ I ((h F σ H e0 s r).mono fun v H1 ⟨d, F1, O1, e1, s1, r1, q⟩ => ?_)
  refine ⟨by show 1 ≤ 1000; omega, fun a ha => ?_⟩
  rw [← hX.K]
  refine ini_lift hc.T hc.no s1 ha r1 fun F' O' H' dd e3 S3 h1 h2 hn hO => ⟨rfl, dd, ?_⟩
  have ea : O' a = some (.exo a C (some dd)) := by rw [hO, Opens.up_same]
  have ed : O' dd = some (.exd dd [f] [d]) := by rw [hO, Opens.up_ne h2, Opens.up_same]
  obtain ⟨za, oa, ga, ra⟩ := S3.opn a _ ea
  have ra : oa = exo a C (some dd) := ra
  subst ra
  obtain ⟨zd, od, gd, vs, rd, hl, rr⟩ := S3.opn dd _ ed
  subst rd
  have oa1 := s1.closed ha
  refine ⟨[f].zip vs, ga, gd, hn, ?_⟩
  have xx : Ext ⟨F'.z, F1.r⟩ (Fr.add ⟨F'.z, F1.r⟩ dd (.xd ([f].zip vs))) := ext_add zd
  refine ⟨⟨C, [f], [d]⟩, ρ, Fr.add ⟨F'.z, F1.r⟩ dd (.xd ([f].zip vs)), O1, (e0.trans e1).trans (e3.trans xx), ?_, (r.mono e1).mono (e3.trans xx), ⟨rfl, rfl, .inr ⟨dd, vs, rfl, upd_same, rr.mono xx⟩⟩, q⟩
  refine ⟨fun b w q => ?_, fun b w q => ?_, fun b w q => ?_⟩
  · have q : upd F'.z dd (.xd ([f].zip vs)) b = some w := q
    by_cases hb : b = dd
    · rw [hb, upd_same] at q ⊢; exact q
    · rw [upd_ne hb] at q ⊢
      have hba : b ≠ a := fun z => by rw [z, show F'.z a = none from za] at q; cases q
      rw [del_ne hba]
      exact S3.ext b w q
  · have hba : b ≠ a := fun z => by rw [z, oa1] at q; cases q
    have hbd : b ≠ dd := fun z => by rw [z, h1] at q; cases q
    obtain ⟨g1, w2, g2, g3⟩ := S3.opn b w (by rw [hO, Opens.up_ne hba, Opens.up_ne hbd, Opens.up_ne hba]; exact q)
    exact ⟨by show upd F'.z dd _ b = none; rw [upd_ne hbd]; exact g1, w2, by rw [upd_ne hbd, del_ne hba]; exact g2, g3.mono xx⟩
  · obtain ⟨g1, g2, g3⟩ := S3.rst b w q
    have hba : b ≠ a := fun z => by rw [z, ea] at g2; cases g2
    have hbd : b ≠ dd := fun z => by rw [z, ed] at g2; cases g2
    exact ⟨by show upd F'.z dd _ b = none; rw [upd_ne hbd]; exact g1, by
      rw [hO, Opens.up_ne hba, Opens.up_ne hbd, Opens.up_ne hba] at g2; exact g2, by rw [upd_ne hbd, del_ne hba]; exact g3⟩
end
end DL

/-! DLX4: the rules over data: try .. except, fields of exceptions, isinstance of them. -/
namespace DL
open PySem PySem.Spec PyProof.Rows L2 DLX

/-- where an except suite runs: the exception x at a, its dict at da -/
def suiteG (Γ : G) (F0 : Fr) (a : Addr) (x : XD) (da : Option Addr) : G := { Γ with hot := true, F0 := F0, E := fun _ _ _ => False, pin := fun b cls d => b = a ∧ cls = .ref x.cls ∧ d = da }
/-- where a try's body runs -/
def tryG (Γ : G) (F0 : Fr) (E : XD → Env' → Opens → Prop) : G := { Γ with F0 := F0, E := E, pin := fun _ _ _ => False }
theorem suiteG_has {Γ : G} {X : Cx} {F0 : Fr} {a : Addr} {x : XD} {da : Option Addr} {oe : Obj} {pn : List (Addr × Obj)} (hX : Γ.Has X) (hz : Zc (.ref x.cls) da oe) (hf : ∃ vs, oe.data = .fields vs) : (suiteG Γ F0 a x da).Has (X.suite a ((a, oe) :: pn)) where
  M := hX.M
  N := hX.N
  nd := hX.nd
  sc := hX.sc
  calm := fun h => absurd (show true = false from h) (by decide)
  room := fun h => absurd (show true = false from h) (by decide)
  units := hX.units
  fn := hX.fn
  takes := fun u s' ⟨_, _, _, _, _, _, _, _, _, _, _, _, _, _, _, _, w⟩ => by
    obtain ⟨_, _, _, _, _, _, _, _, q⟩ := w
    exact q.elim
  passes := PassesOwn.never
  stk := hX.stk
  pin := fun b cls d ⟨h1, h2, h3⟩ => by
    subst h1 h2 h3
    exact ⟨oe, hz, hf, List.mem_cons_self⟩
theorem tryG_has {Γ : G} {X : Cx} {F0 : Fr} {E : XD → Env' → Opens → Prop} {pn : List (Addr × Obj)} {xe : Value → Shared → Prop} (hX : Γ.Has X) (tk : Takes (X.tr pn xe) (tryG Γ F0 E).W) (ps : PassesOwn (model X.prog X.w) X.A X.env xe) : (tryG Γ F0 E).Has (X.tr pn xe) where
  M := hX.M
  N := hX.N
  nd := hX.nd
  sc := hX.sc
  calm := hX.calm
  room := hX.room
  units := hX.units
  fn := hX.fn
  takes := tk
  passes := ps
  stk := hX.stk
  pin := fun _ _ _ h => h.elim
/-- one clause: its classes, the slot of its name, its suite -/
abbrev HdD := List Value × Nat × List Stmt
inductive HdsD (Γ : G) : List ExceptHandler → List HdD → Prop
  | nil : HdsD Γ [] []
  | cons {t : Expr} {n : Str} {cs : List Value} {i : Nat} {b0 : Stmt} {su : List Stmt} {p : Pos} {hs : List ExceptHandler} {l : List HdD} (ht : ∀ X, Γ.Has X → Asks X t cs) (hi : Γ.N[i]? = some n) (hl : Γ.sc.names.lookup n = some .local) (r : HdsD Γ hs l) : HdsD Γ (.ExceptHandler (some t) (some n) (b0 :: su) p :: hs) ((cs, i, b0 :: su) :: l)
/-- what the clauses wish of an exception of the body -/
def EHs (Γ : G) (Z : EndsD) : List HdD → XD → Env' → Opens → Prop
  | [] => Γ.E
  | (cs, i, su) :: r => fun x ρ O => ∃ b, PySem.W.exmAny Γ.M.K (.ref x.cls) cs = some b ∧ (b = true → ∀ F0 a da, Ext Γ.F0 F0 → RepX Γ.M.K F0 x (.ref x.cls) da → WSs (suiteG Γ F0 a x da) su (ρ.set i (some (.raw (.ref a)))) O { nx := fun ρ' O' => Z.nx (ρ'.set i none) O', rt := Z.rt, bk := fun ρ' O' => Z.bk (ρ'.set i none) O', ct := fun ρ' O' => Z.ct (ρ'.set i none) O' }) ∧ (b = false → EHs Γ Z r x ρ O)
section
variable {Γ : G} {ρ : Env'} {O : Opens} {Z : EndsD} {Q : DK} {x : Str} {e : Expr} {p pos : Pos}
/-- the reading of a suite at the level below -/
def tSu (X : Cx) (su : List Stmt) : Addr → Value → Option Addr → TS := fun a cls d D σ H => ∃ Γ' : G, (∀ (oe : Obj) (pn : List (Addr × Obj)), Zc cls d oe → (∃ vs, oe.data = .fields vs) → Γ'.Has (X.suite a ((a, oe) :: pn))) ∧ EvSs Γ' su D σ H
theorem hds_a {X : Cx} (hX : Γ.Has X) : ∀ {hs : List ExceptHandler} {l : List HdD}, HdsD Γ hs l → HdA X hs (l.map fun (h : HdD) => (h.1, h.2.1, tSu X h.2.2))
  | _, _, .nil => .nil
  | _, _, .cons ht hi hl r => .cons (ht X hX) (by rw [hX.N]; exact hi) (by show X.env.scope.names.lookup _ = _; rw [hX.sc]; exact hl)
      (fun a oe cls d pn hz hf => ⟨fun pins s σ H D I ⟨Γ', g, q⟩ => (EvSs.pss (g oe pn hz hf) _).run pins s σ H D I q⟩) (hds_a hX r)
theorem ehs_w {X : Cx} (hX : Γ.Has X) {F F' : Fr} {σ : L2.St} {H : Hp} {xd : XD} {ρ' : Env'} {O' : Opens} {cls : Value} {d : Option Addr} (e0 : Ext Γ.F0 F) (e1 : Ext F F') (s : Stt Γ.M.K F' O' H) (r : EnvR Γ.M.K F' ρ' σ) (rx : RepX Γ.M.K F' xd cls d) :
    ∀ {l : List HdD}, EHs Γ Z l xd ρ' O' → wHds X.K Γ.W (KE' Γ F Z) (l.map fun (h : HdD) => (h.1, h.2.1, tSu X h.2.2)) cls d σ H
  | [], h => ⟨xd, ρ', F', O', e0.trans e1, s, r, rx, h⟩
  | (cs, i, su) :: l, ⟨b, h1, h2, h3⟩ => by
    have rx0 := rx
    obtain ⟨ec, rx2⟩ := rx
    subst ec
    refine ⟨b, by rw [← hX.K]; exact h1, fun hb a ha => ?_, fun hb => ehs_w hX e0 e1 s r rx0 (h3 hb)⟩
    have wr := h2 hb F' a d (e0.trans e1) rx0
    refine ⟨suiteG Γ F' a xd d, fun oe pn hz hf => suiteG_has hX hz hf, ?_⟩
    refine (wr F' (σ.set i (some (.ref a))) H (Ext.refl F') s (r.set i rep_raw)).mono (fun σ2 H2 ⟨ρ2, F2, O2, e2, s2, r2, q2⟩ => ?_) (fun v H2 ⟨d2, F2, O2, e2, s2, r2, q2⟩ => ⟨d2, F2, O2, e1.trans e2, s2, r2, q2⟩) (fun σ2 H2 ⟨ρ2, F2, O2, e2, s2, r2, q2⟩ => ?_) fun σ2 H2 ⟨ρ2, F2, O2, e2, s2, r2, q2⟩ => ?_
    · exact ⟨ρ2.set i none, F2, O2, e1.trans e2, s2, r2.forget i none, q2⟩
    · exact ⟨ρ2.set i none, F2, O2, e1.trans e2, s2, r2.forget i none, q2⟩
    · exact ⟨ρ2.set i none, F2, O2, e1.trans e2, s2, r2.forget i none, q2⟩
theorem ws_try {body : List Stmt} {h0 : ExceptHandler} {hs : List ExceptHandler} {l : List HdD} (ht : Γ.top = true) (hh : HdsD Γ (h0 :: hs) l) (h : ∀ F, Ext Γ.F0 F → WSs (tryG Γ F (EHs Γ Z l)) body ρ O Z) : WS Γ (.Try body (h0 :: hs) [] [] pos) ρ O Z := fun F σ H e0 s r X hX pins st I => by
  obtain ⟨k1, k2⟩ := hX.stk ht
  refine (ps_tryA (tb := fun W D σ H => (∀ cls d σ H, (tryG Γ F (EHs Γ Z l)).W cls d σ H → W cls d σ H) ∧ EvSs (tryG Γ F (EHs Γ Z l)) body D σ H) k1 k2 (by rw [hX.N]; exact hX.nd) hX.takes (fun W pn xe tk po => ⟨fun pins s σ H D I ⟨m, q⟩ => ?_⟩) (hds_a hX hh)).run pins st σ H _ I ?_
  · exact (EvSs.pss (tryG_has hX (tk.imp m) po) body).run pins s σ H D I q
  · refine ⟨fun cls d σ' H' ⟨xd, ρ', F', O', e1, s', r', rx, q⟩ => ehs_w hX e0 e1 s' r' rx q, ?_⟩
    exact (h F e0 F σ H (Ext.refl F) s r).mono (fun _ _ q => q) (fun _ _ q => q) (fun _ _ q => q) fun _ _ q => q
/-! ### fields of exceptions, isinstance of them -/
theorem zip_lookup {n : Str} : ∀ {ns : List Str} {ds : List D} {vs : List V} {K : PySem.W.Frag} {F : Fr} {d : D}, (ns.zip ds).lookup n = some d → Reps K F ds vs → ∃ v, (ns.zip vs).lookup n = some v ∧ Rep K F d v
  | [], _, _, _, _, _, h, _ => by cases h
  | _ :: _, [], _, _, _, _, h, _ => by cases h
  | m :: ns, x :: ds, vs, K, F, d, h, r => by
    obtain ⟨v, t, rfl, h1, h2⟩ := r
    by_cases e : n = m
    · subst e
      rw [List.zip_cons_cons, List.lookup_cons] at h
      rw [List.zip_cons_cons, List.lookup_cons]
      simp only [beq_self_eq_true] at h ⊢
      cases h
      exact ⟨v, rfl, h1⟩
    · have e' : (n == m) = false := by simpa using e
      rw [List.zip_cons_cons, List.lookup_cons] at h
      rw [List.zip_cons_cons, List.lookup_cons]
      simp only [e'] at h ⊢
      exact zip_lookup h h2
/-- e.n, e an exception held -/
theorem we_xv {n : Str} (h : We Γ e ρ O fun y O1 => ∃ C ns ds d, y = .exc C ns ds ∧ XfC Γ.M.K C ∧ PySem.W.findIn Γ.M.K (.ref C) n = some none ∧ (ns.zip ds).lookup n = some d ∧ Q d O1) (hb : ∀ env, attributeBase e n env (eval e env) = eval e env := by intro _; rfl) : We Γ (.Attribute e n pos) ρ O Q := fun F σ H e0 s r X hX pins st I => by
  refine (pe_xv (Ev.pe hX e) (hb X.env)).run pins st σ H _ I ((h F σ H e0 s r).mono fun v H1 ⟨y, F1, O1, e1, s1, r1, C, ns, ds, d, hy, T, no, hl, q⟩ => ?_)
  subst hy
  obtain ⟨a, dd, vs, rfl, h1, h2, h3, h4⟩ := r1
  obtain ⟨w, g1, g2⟩ := zip_lookup hl h4
  exact ⟨a, C, dd, ns.zip vs, w, rfl, hX.K ▸ T, hX.K ▸ no, s1.ext _ _ h1, s1.ext _ _ h2, g1, kv1 e1 s1 g2 q⟩
/-- e.n, e the exception that the suite holds -/
theorem we_xp {n : Str} (h : We Γ e ρ O fun y O1 => ∃ (a C : Addr) (ns : List Str) (ds : List D) (da : Addr) (d : D), y = .raw (.ref a) ∧ Γ.pin a (.ref C) (some da) ∧ (∃ vs, Γ.F0.z da = some (.xd (ns.zip vs)) ∧ Reps Γ.M.K Γ.F0 ds vs) ∧ XfC Γ.M.K C ∧ PySem.W.findIn Γ.M.K (.ref C) n = some none ∧ (ns.zip ds).lookup n = some d ∧ Q d O1) (hb : ∀ env, attributeBase e n env (eval e env) = eval e env := by intro _; rfl) : We Γ (.Attribute e n pos) ρ O Q := fun F σ H e0 s r X hX pins st I => by
  refine attr_of (hb X.env) (thn ((Ev.pe hX e).run pins st σ H _ I (h F σ H e0 s r)) fun u s1 ⟨v, H1, I1, rv, y, F1, O1, e1, S1, r1, a, C, ns, ds, da, d, hy, hp, ⟨vs, z1, z2⟩, T, no, hl, q⟩ => ?_)
  subst hy
  cases r1
  cases (show u = Value.ref a from rv)
  obtain ⟨oe, hz, ⟨us, hf⟩, hm⟩ := hX.pin a _ _ hp
  obtain ⟨ha, _⟩ := I1.pin (a, oe) (List.mem_append_left _ hm)
  have e01 := e0.trans e1
  have hx : ObjOk X.prog X.w H1 s1.heap da (.xd (ns.zip vs)) := I1.hok da _ (S1.ext _ _ (e01.1 _ _ z1))
  obtain ⟨mA, hns, hr⟩ := hx
  obtain ⟨od, ho, hl2⟩ := lookIn_ns hns
  obtain ⟨w, g1, g2⟩ := zip_lookup hl z2
  obtain ⟨t, ht, rt⟩ := RelO.some_of (v := w) (o := mA n) (by rw [← g1]; exact hr n)
  have J : PySem.W.InstAt s1.heap a oe C (some od) := ⟨ha, hz.1, by unfold PySem.W.notCls; rw [hf], by rw [hz.2]; exact ho⟩
  have T' := hX.K ▸ T
  have no' := hX.K ▸ no
  exact HandSPX.exc_get I1.kIn J T'.ga T'.gg T'.exC (PySem.W.findObj_own T'.hdC no' rfl (by rw [hl2, ht])) (handed_of rt) ⟨w, H1, I1.tok _, rt, kv1 e1 S1 (g2.mono e01) q⟩
/-- a class as a value: what isinstance is asked -/
def clsV : D → Option Value
  | .raw (.ref C) => some (.ref C)
  | .raw (.ty n) => some (.type n)
  | _ => none
theorem clsV_ok {K : PySem.W.Frag} {F : Fr} {d : D} {v : V} {u cv : Value} (h : clsV d = some cv) (r : Rep K F d v) (rv : RelV v u) : u = cv := by
  cases d with
  | raw x =>
    cases r
    cases v with
    | ref a => cases h; exact rv
    | ty n => cases h; exact rv
    | _ => cases h
  | _ => cases h
/-- isinstance(e, c), e an exception held or caught -/
def IsXQ (Γ : G) : DC := fun ds O Q => match ds with
  | [.exc C ns es, c] => ∃ cv b, clsV c = some cv ∧ ExcC Γ.M.K C ∧ PySem.W.kitOne Γ.M.K (.ref C) cv = some b ∧ Q (.bl b) O
  | [.raw (.ref a), c] => ∃ C da cv b, Γ.pin a (.ref C) (some da) ∧ (∃ (ns : List Str) (vs : List V), Γ.F0.z da = some (.xd (ns.zip vs))) ∧ clsV c = some cv ∧ ExcC Γ.M.K C ∧ PySem.W.kitOne Γ.M.K (.ref C) cv = some b ∧ Q (.bl b) O
  | _ => False
theorem isx_ok {X : Cx} (hX : Γ.Has X) : CallD Γ X (.builtin "isinstance") (IsXQ Γ) := by
  intro F O ds Q pins s σ H vs us I rv e0 S rd h
  unfold IsXQ at h
  split at h
  · rename_i C ns es c
    obtain ⟨cv, b, h1, E, h2, q⟩ := h
    obtain ⟨v, w, rfl, r1, r2⟩ := reps2 rd
    obtain ⟨a, dd, ws, rfl, g1, g2, _, _⟩ := r1
    obtain ⟨u1, u2, rfl, q1, q2⟩ := vals2 rv
    cases (show u1 = Value.ref a from q1)
    obtain ⟨ox, od, mA, J, _, _⟩ := exo_inst I (S.ext _ _ g1) (S.ext _ _ g2)
    exact ask_xv (hX.K ▸ E) I J (clsV_ok h1 r2 q2) (hX.K ▸ h2) (kv S rep_bl q)
  · rename_i a c
    obtain ⟨C, da, cv, b, hp, ⟨ns, ws, z1⟩, h1, E, h2, q⟩ := h
    obtain ⟨v, w, rfl, r1, r2⟩ := reps2 rd
    cases r1
    obtain ⟨u1, u2, rfl, q1, q2⟩ := vals2 rv
    cases (show u1 = Value.ref a from q1)
    obtain ⟨oe, hz, ⟨fv, hf⟩, hm⟩ := hX.pin a _ _ hp
    obtain ⟨ha, _⟩ := I.pin (a, oe) (List.mem_append_left _ hm)
    have hx : ObjOk X.prog X.w H s.heap da (.xd (ns.zip ws)) := I.hok da _ (S.ext _ _ (e0.1 _ _ z1))
    obtain ⟨mA, hns, hr⟩ := hx
    obtain ⟨od, ho, hl2⟩ := lookIn_ns hns
    have J : PySem.W.InstAt s.heap a oe C (some od) := ⟨ha, hz.1, by unfold PySem.W.notCls; rw [hf], by rw [hz.2]; exact ho⟩
    exact ask_xv (hX.K ▸ E) I J (clsV_ok h1 r2 q2) (hX.K ▸ h2) (kv S rep_bl q)
  · exact h.elim
theorem we_isx {a : Expr} (B : Blt Γ.M) (hg : GlN Γ "isinstance") (h : We Γ e ρ O fun d O1 => We Γ a ρ O1 fun c O2 => IsXQ Γ [d, c] O2 Q)
    (h1 : ∀ env, starEach [e, a] env = (false, eval e env) :: starEach [a] env := by intro _; rfl) (h2 : ∀ env, starEach [a] env = (false, eval a env) :: starEach [] env := by intro _; rfl) (hpl : ∀ env, (backTo pos (starEach [a] env)).any (·.1) = false := by intro _; rfl) : We Γ (.Call (.Name "isinstance" p) [e, a] [] pos) ρ O Q :=
  we_blt (fun X hX => isx_ok hX) hg B.isinstance PyProof.Rows.boot_isinstance (wa_cons (h.imp fun _ _ q => wa_cons (q.imp fun _ _ q => wa_nil q) h2) h1) (he := h1) (hpl := hpl)
/-- an own class by its name -/
theorem we_cls {C : Addr} (hg : GlN Γ x) (hm : Γ.M.mg x = some (.ref C)) (h : Q (.raw (.ref C)) O) (h1 : (x == ("__debug__" : Str)) = false := by decide) : We Γ (.Name x pos) ρ O Q := we_glob (v := .ref C) (d := .raw (.ref C)) hg hm rfl (fun _ => rfl) h h1
end
end DL

/-! DLH: one way to walk whatever is walked: for, comprehensions (as values, stored in a name). -/
namespace DL
open PySem PySem.Spec PyProof.Rows L2

/-- J gives n items, the i-th being it i, while what is frozen in F1 stands -/
def ItOk (K : PySem.W.Frag) (F1 : Fr) (J : It) (n : Nat) (it : Nat → Option D) : Prop := ∃ (G : Hp → Prop) (Y : Nat → Hp → V → Hp → Prop), Walk J n G Y ∧ (∀ F2 O2 H2, (∀ a o, F1.z a = some o → F2.z a = some o) → Stt K F2 O2 H2 → G H2) ∧
  ∀ F2 O2 H2 i x H', (∀ a o, F1.z a = some o → F2.z a = some o) → Stt K F2 O2 H2 → i < n → Y i H2 x H' → ∃ F3 d, Ext F2 F3 ∧ Stt K F3 O2 H' ∧ it i = some d ∧ Rep K F3 d x
/-- the walk of iter, before its target: what R says of the number and the items -/
def PiD (Γ : G) (tg iter : Expr) (ρ : Env') (O : Opens) (R : Nat → (Nat → Option D) → Opens → Prop) : Prop := ∀ X, Γ.Has X → ∃ wi : TI, PI X tg iter wi ∧ ∀ F σ H (Rv : It → Hp → Prop), Ext Γ.F0 F → Stt Γ.M.K F O H → EnvR Γ.M.K F ρ σ →
  (∀ F1 O1 H1 J n it, Ext F F1 → Stt Γ.M.K F1 O1 H1 → ItOk Γ.M.K F1 J n it → R n it O1 → Rv J H1) → wi σ H Rv
section
variable {Γ : G} {ρ : Env'} {O : Opens} {Z : EndsD} {Q : DK} {tg iter : Expr} {R : Nat → (Nat → Option D) → Opens → Prop}
theorem PiD.imp {R' : Nat → (Nat → Option D) → Opens → Prop} (h : PiD Γ tg iter ρ O R) (m : ∀ n it O1, R n it O1 → R' n it O1) : PiD Γ tg iter ρ O R' := fun X hX => by
  obtain ⟨wi, h1, h2⟩ := h X hX
  exact ⟨wi, h1, fun F σ H Rv e0 s r k => h2 F σ H Rv e0 s r fun F1 O1 H1 J n it e1 s1 io q => k F1 O1 H1 J n it e1 s1 io (m _ _ _ q)⟩
theorem itok_list {K : PySem.W.Frag} {F1 : Fr} {a : Addr} {ds : List D} {vs : List V} (h1 : SqL K F1.z a vs) (h2 : Reps K F1 ds vs) : ItOk K F1 (Itl K a) ds.length fun i => ds[i]? := by
  refine ⟨_, _, h2.length ▸ walk_list (K := K) (a := a) (xs := vs), fun F2 O2 H2 e s => s.ext.seqL (seq_l e h1), fun F2 O2 H2 i x H' e s hi ⟨y1, y2⟩ => ?_⟩
  subst y1
  obtain ⟨d, g1, g2⟩ := h2.back y2
  exact ⟨F2, d, Ext.refl F2, s, g1, Rep.monoZ e d x g2⟩
theorem itok_tup {K : PySem.W.Frag} {F1 : Fr} {a : Addr} {ds : List D} {vs : List V} (h1 : SqT K F1.z a vs) (h2 : Reps K F1 ds vs) : ItOk K F1 (Itt K a) ds.length fun i => ds[i]? := by
  refine ⟨_, _, h2.length ▸ walk_tup (K := K) (a := a) (xs := vs), fun F2 O2 H2 e s => s.ext.seqT (seq_t e h1), fun F2 O2 H2 i x H' e s hi ⟨y1, y2⟩ => ?_⟩
  subst y1
  obtain ⟨d, g1, g2⟩ := h2.back y2
  exact ⟨F2, d, Ext.refl F2, s, g1, Rep.monoZ e d x g2⟩
/-- a list, a tuple: what comes is frozen -/
theorem pi_ls (h : We Γ iter ρ O fun d O1 => ∃ ds, (d = .lst ds ∨ d = .rls ds) ∧ R ds.length (fun i => ds[i]?) O1) : PiD Γ tg iter ρ O R := fun X hX => by
  refine ⟨_, pi_list (Ev.pe hX iter), fun F σ H Rv e0 s r k => (h F σ H e0 s r).mono fun v H1 ⟨d, F1, O1, e1, s1, r1, ds, hd, q⟩ => ?_⟩
  have hl : ∃ a vs, v = .ref a ∧ SqL Γ.M.K F1.z a vs ∧ Reps Γ.M.K F1 ds vs := by
    rcases hd with rfl | rfl
    · obtain ⟨a, vs, e, g1, g2⟩ := r1
      exact ⟨a, vs, e, SqL.of g1, g2⟩
    · exact r1
  obtain ⟨a, vs, rfl, g1, g2⟩ := hl
  refine ⟨a, rfl, ⟨vs, s1.ext.seqL (hX.K ▸ g1)⟩, ?_⟩
  rw [← hX.K]
  exact k F1 O1 H1 _ _ _ e1 s1 (itok_list g1 g2) q
theorem pi_tp (h : We Γ iter ρ O fun d O1 => ∃ ds, d = .tup ds ∧ R ds.length (fun i => ds[i]?) O1) : PiD Γ tg iter ρ O R := fun X hX => by
  refine ⟨_, pi_tup (Ev.pe hX iter), fun F σ H Rv e0 s r k => (h F σ H e0 s r).mono fun v H1 ⟨d, F1, O1, e1, s1, r1, ds, hd, q⟩ => ?_⟩
  subst hd
  obtain ⟨a, vs, rfl, g1, g2⟩ := r1
  refine ⟨a, rfl, ⟨vs, s1.ext.seqT (hX.K ▸ g1)⟩, ?_⟩
  rw [← hX.K]
  exact k F1 O1 H1 _ _ _ e1 s1 (itok_tup g1 g2) q
/-- a text's signs; a range -/
def signsD (z : Str) : List D := z.cps.toList.map fun c => .str ⟨#[c]⟩
def rangeD (n : Nat) : List D := (List.range n).map fun i : Nat => .int (i : Int)
def rangeD2 (lo : Int) (n : Nat) : List D := (List.range n).map fun i : Nat => .int (lo + (i : Int))
theorem signs_at {z : Str} {i c : Nat} (h : z.cps[i]? = some c) : (signsD z)[i]? = some (.str ⟨#[c]⟩) := by
  unfold signsD
  rw [List.getElem?_map, Array.getElem?_toList, h]; rfl
theorem signs_len {z : Str} : (signsD z).length = z.cps.size := by unfold signsD; rw [List.length_map, Array.length_toList]
theorem range_at {n i : Nat} (h : i < n) : (rangeD n)[i]? = some (.int (i : Int)) := by
  unfold rangeD
  rw [List.getElem?_map, List.getElem?_range h]; rfl
theorem range_len {n : Nat} : (rangeD n).length = n := by unfold rangeD; rw [List.length_map, List.length_range]
theorem range_at2 {lo : Int} {n i : Nat} (h : i < n) : (rangeD2 lo n)[i]? = some (.int (lo + (i : Int))) := by
  unfold rangeD2
  rw [List.getElem?_map, List.getElem?_range h]; rfl
theorem range_len2 {lo : Int} {n : Nat} : (rangeD2 lo n).length = n := by unfold rangeD2; rw [List.length_map, List.length_range]
theorem pi_st (h : We Γ iter ρ O fun d O1 => ∃ z : Str, d = .str z ∧ R (signsD z).length (fun i => (signsD z)[i]?) O1) : PiD Γ tg iter ρ O R := fun X hX => by
  refine ⟨_, pi_str (Ev.pe hX iter), fun F σ H Rv e0 s r k => (h F σ H e0 s r).mono fun v H1 ⟨d, F1, O1, e1, s1, r1, z, hd, q⟩ => ?_⟩
  subst hd
  cases r1
  refine ⟨z, rfl, k F1 O1 H1 _ _ _ e1 s1 ⟨_, _, (signs_len (z := z)).symm ▸ walk_str (z := z), fun _ _ _ _ _ => True.intro, fun F2 O2 H2 i x H' e s hi ⟨y1, c, y2, y3⟩ => ?_⟩ q⟩
  subst y1 y3
  exact ⟨F2, .str ⟨#[c]⟩, Ext.refl F2, s, signs_at y2, rfl⟩
theorem itok_range {K : PySem.W.Frag} {F1 : Fr} {lo : Int} {n : Nat} {ds : List D} (hl : ds.length = n) (ha : ∀ i, i < n → ds[i]? = some (.int (lo + (i : Int)))) : ItOk K F1 (Itr lo n) ds.length fun i => ds[i]? := by
  rw [hl]
  exact ⟨_, _, walk_range, fun _ _ _ _ _ => True.intro, fun F2 O2 H2 i x H' e s hi ⟨y1, y2⟩ => by
    subst y1 y2
    exact ⟨F2, .int (lo + i), Ext.refl F2, s, ha i hi, rfl⟩⟩
theorem pi_rg {a : Expr} {p p2 : Pos} (B : Blt Γ.M) (hg : GlN Γ "range") (h : We Γ a ρ O fun d O1 => ∃ n : Int, d = .int n ∧ -(2 ^ 62) ≤ n ∧ n < 2 ^ 62 ∧ R (rangeD n.toNat).length (fun i => (rangeD n.toNat)[i]?) O1) (h1 : ∀ env, starEach [a] env = [(false, eval a env)] := by intro _; rfl) : PiD Γ tg (.Call (.Name "range" p) [a] [] p2) ρ O R := fun X hX => by
  refine ⟨_, pi_range1 (hX.gl hg) (by rw [← hX.mg]; exact B.range) (pa_cons (Ev.pe hX a) pa_nil (h1 X.env)) (h1 X.env), fun F σ H Rv e0 s r k => (h F σ H e0 s r).mono fun v H1 ⟨d, F1, O1, e1, s1, r1, n, hd, b1, b2, q⟩ => ?_⟩
  subst hd
  cases r1
  exact ⟨n, rfl, b1, b2, k F1 O1 H1 _ _ _ e1 s1 (itok_range range_len fun i hi => by rw [range_at hi, Int.zero_add]) q⟩
theorem pi_rg2 {a b : Expr} {p p2 : Pos} (B : Blt Γ.M) (hg : GlN Γ "range") (h : We Γ a ρ O fun d O1 => We Γ b ρ O1 fun c O2 => ∃ lo hi : Int, d = .int lo ∧ c = .int hi ∧ -(2 ^ 62) ≤ lo ∧ lo < 2 ^ 62 ∧ -(2 ^ 62) ≤ hi ∧ hi < 2 ^ 62 ∧ R (rangeD2 lo (hi - lo).toNat).length (fun i => (rangeD2 lo (hi - lo).toNat)[i]?) O2)
    (h1 : ∀ env, starEach [a, b] env = [(false, eval a env), (false, eval b env)] := by intro _; rfl) (h2 : ∀ env, starEach [b] env = [(false, eval b env)] := by intro _; rfl) : PiD Γ tg (.Call (.Name "range" p) [a, b] [] p2) ρ O R := fun X hX => by
  have s1 : ∀ env, starEach [a, b] env = (false, eval a env) :: starEach [b] env := fun env => by rw [h1, h2]
  refine ⟨_, pi_range2 (hX.gl hg) (by rw [← hX.mg]; exact B.range) (pa_cons (Ev.pe hX a) (pa_cons (Ev.pe hX b) pa_nil (h2 X.env)) (s1 X.env)) (h1 X.env) (h2 X.env), fun F σ H Rv e0 s r k => ?_⟩
  refine (h F σ H e0 s r).mono fun v H1 ⟨d, F1, O1, e1, s1, r1, q1⟩ => (q1 F1 σ H1 (e0.trans e1) s1 (r.mono e1)).mono fun w H2 ⟨c, F2, O2, e2, s2, r2, lo, hi, hd, hc, b1, b2, b3, b4, q⟩ => ?_
  subst hd hc
  cases r1; cases r2
  exact ⟨lo, hi, rfl, ⟨b1, b2, b3, b4⟩, k F2 O2 H2 _ _ _ (e1.trans e2) s2 (itok_range range_len2 fun i hi => range_at2 hi) q⟩
/-! ### for -/
theorem ws_forI {body : List Stmt} {pos : Pos} (hh : Γ.hot = false) (h : PiD Γ tg iter ρ O fun n it O1 => ∃ W, ForQ Γ tg body Z n it ρ O1 W) (hs : ∀ env x, foldedSetIterable iter env x = pure x := by intro _ _; rfl) : WS Γ (.For tg iter body [] pos) ρ O Z := fun F σ H e0 s r X hX pins st I => by
  obtain ⟨wi, h1, h2⟩ := h X hX
  refine (ps_for hX.passes (hX.calm hh) h1 (EvG.pg hX tg) (EvSs.pss hX body) (hs X.env)).run pins st σ H _ I (h2 F σ H _ e0 s r fun F1 O1 H1 J n it e1 s1 ⟨G, Y, w, g1, g2⟩ ⟨W, T⟩ => ?_)
  refine for_it w (D := KE' Γ F Z) (fun i σ' H' => KS Γ F1 (W i) σ' H') (ks (Ext.refl F1) s1 (r.mono e1) T.start) (fun i σ' H' _ ⟨ρ', F', O', e2, s2, r2, _⟩ => g1 F' O' H' e2.1 s2) (fun i v σ' H' H2 hi ⟨ρ', F', O', e2, s2, r2, w2⟩ y => ?_) (fun σ' H' ⟨ρ', F', O', e2, s2, r2, w2⟩ => ks (e1.trans e2) s2 r2 (T.stop _ _ w2))
  obtain ⟨F3, d, e3, s3, hd, rd⟩ := g2 F' O' H' i v H2 e2.1 s2 hi y
  exact (for_turn T (F := F1) (e0.trans e1) hi hd (e2.trans e3) s3 (r2.mono e3) w2 rd).mono fun σ3 H3 q => q.mono (fun _ _ q => q) (fun _ _ q => KV'.mono e1 (fun _ _ q => q) q) (fun _ _ q => KS.mono e1 (fun _ _ q => q) q) (fun _ _ q => q)
/-! ### comprehensions -/
/-- how a comprehension ends: its list at P -/
def LcEnd (K : PySem.W.Frag) (F : Fr) (Ql : List D → Opens → Prop) (P : Addr) (H2 : Hp) : Prop := ∃ F' O' acc vs, Ext F F' ∧ F'.z P = none ∧ F'.r P = none ∧ O' P = none ∧ H2 P = some (.lst vs) ∧ Stt K F' O' H2 ∧ Reps K F' acc vs ∧ Ql acc O'
theorem LcEnd.of {F1 : Fr} {H1 H2 : Hp} {O1 : Opens} {P : Addr} {W : List D → Opens → Prop} {Ql : List D → Opens → Prop} (s : Stt Γ.M.K F1 O1 H1) (hp : H1 P = none) (h : LcS Γ.M.K F1 P W H2) (m : ∀ acc O', W acc O' → Ql acc O') : LcEnd Γ.M.K F1 Ql P H2 := by
  obtain ⟨F', O', acc, vs, e, g1, g2, g3, s', r, w⟩ := lc_end s hp h
  refine ⟨F', O', acc, vs, e, g1, ?_, g2, g3, s', r, m _ _ w⟩
  rw [e.2]
  cases q : F1.r P with
  | none => rfl
  | some u =>
    obtain ⟨_, _, h3⟩ := s.rst P u q
    rw [h3] at hp; cases hp
theorem LcEnd.frozen {F : Fr} {P : Addr} {H2 : Hp} {Ql : List D → Opens → Prop} (h : LcEnd Γ.M.K F Ql P H2) (m : ∀ acc O', Ql acc O' → Q (.lst acc) O') : KV' Γ F Q (.ref P) H2 := by
  obtain ⟨F', O', acc, vs, e, g1, g0, g2, g3, s', r, w⟩ := h
  refine ⟨.lst acc, F'.add P (.lst vs), O', e.trans (Ext.new g1), ⟨fun a u q => ?_, fun a u q => ?_, fun a u q => ?_⟩, rep_lst upd_same (r.mono (Ext.new g1)), m _ _ w⟩
  · have q : upd F'.z P (.lst vs) a = some u := q
    by_cases ha : a = P
    · rw [ha, upd_same] at q; cases q; rw [ha]; exact g3
    · rw [upd_ne ha] at q; exact s'.ext a u q
  · have ne : a ≠ P := fun z => by rw [z, g2] at q; cases q
    obtain ⟨h1, ho, h2, h3⟩ := s'.opn a u q
    exact ⟨by show upd F'.z P _ a = none; rw [upd_ne ne]; exact h1, ho, h2, h3.mono (Ext.new g1)⟩
  · have q : F'.r a = some u := q
    have ne : a ≠ P := fun z => by rw [z, g0] at q; cases q
    obtain ⟨h1, h2, h3⟩ := s'.rst a u q
    exact ⟨by show upd F'.z P _ a = none; rw [upd_ne ne]; exact h1, h2, h3⟩
theorem LcEnd.opened {F : Fr} {P : Addr} {H2 : Hp} {Ql : List D → Opens → Prop} (h : LcEnd Γ.M.K F Ql P H2) (m : ∀ p acc O', O' p = none → Ql acc O' → Q (.raw (.ref p)) (O'.up p (.lst acc))) : KV' Γ F Q (.ref P) H2 := by
  obtain ⟨F', O', acc, vs, e, g1, g0, g2, g3, s', r, w⟩ := h
  refine ⟨.raw (.ref P), F', O'.up P (.lst acc), e, ⟨s'.ext, fun a u q => ?_, fun a u q => ?_⟩, rep_raw, m P acc O' g2 w⟩
  · by_cases ha : a = P
    · rw [ha, Opens.up_same] at q; cases q
      rw [ha]
      exact ⟨g1, _, g3, vs, rfl, r⟩
    · rw [Opens.up_ne ha] at q
      exact s'.opn a u q
  · have ne : a ≠ P := fun z => by rw [z, g0] at q; cases q
    obtain ⟨h1, h2, h3⟩ := s'.rst a u q
    exact ⟨h1, by rw [Opens.up_ne ne]; exact h2, h3⟩
variable {scope : Scope} {own : List (Str × Nat)} {elt : Expr} {ifs : List Expr}
/-- the comprehension run: from the walk to its end -/
theorem lc_runI {X : Cx} (hX : Γ.Has X) {wi : TI} {F : Fr} {σ : L2.St} {H : Hp} {Qv : VK} {Ql : List D → Opens → Prop} (e0 : Ext Γ.F0 F) (s : Stt Γ.M.K F O H) (r : EnvR Γ.M.K F ρ σ)
    (hw : ∀ (Rv : It → Hp → Prop), (∀ F1 O1 H1 J n it, Ext F F1 → Stt Γ.M.K F1 O1 H1 → ItOk Γ.M.K F1 J n it → (∃ W, LcQ Γ scope (own.map (·.2)) tg ifs elt n it ρ O1 Ql W) → Rv J H1) → wi σ H Rv)
    (hq : ∀ P H2, LcEnd Γ.M.K F Ql P H2 → Qv (.ref P) H2) : tLc wi (BG Γ scope tg) (BI Γ scope ifs) (BE Γ scope elt) (own.map (·.2)) σ H Qv := by
  refine hw _ fun F1 O1 H1 J n it e1 s1 ⟨G, Y, w, g1, g2⟩ ⟨W, T⟩ => fun P hP => ?_
  refine lc_it w (D := P) (fun i H' => LcS Γ.M.K F1 P (W i) H') (lc_start s1 hP T.start) (fun i H' _ ⟨F', O', acc, us, e2, s2, _⟩ => g1 ⟨F'.z, upd F1.r P (.lst us)⟩ O' H' e2.1 s2) (fun i v H' H2 hi ⟨F', O', acc, us, e2, s2, ra, w2⟩ y => ?_) (fun H' w => hq P H' ?_)
  · obtain ⟨F3, d, e3, s3, hd, rd⟩ := g2 ⟨F'.z, upd F1.r P (.lst us)⟩ O' H' i v H2 e2.1 s2 hi y
    have er : F3.r = upd F1.r P (.lst us) := e3.2
    have s3' : Stt Γ.M.K ⟨F3.z, upd F1.r P (.lst us)⟩ O' H2 := by
      have : (⟨F3.z, upd F1.r P (.lst us)⟩ : Fr) = F3 := by rw [← er]
      rw [this]; exact s3
    have e13 : Ext F1 ⟨F3.z, F1.r⟩ := ⟨fun a o q => e3.1 a o (e2.1 a o q), rfl⟩
    exact lc_turn (F1 := F1) (F2 := ⟨F3.z, F1.r⟩) T hi hd (r.mono e1) e13 s3' (Reps.monoZ (F := F') (F' := ⟨F3.z, F1.r⟩) e3.1 _ _ ra) w2 (rep_z (F := F3) rfl rd)
  · obtain ⟨F', O', acc, vs, k1, k2, k3, k4, k5, k6, k7, k8⟩ := LcEnd.of s1 hP w T.stop
    exact ⟨F', O', acc, vs, e1.trans k1, k2, k3, k4, k5, k6, k7, k8⟩
theorem we_lcI {pos : Pos} {Ql : List D → Opens → Prop} (hh : Γ.hot = false) (ok : blkC Γ.N Γ.sc scope own = true) (h : PiD Γ tg iter ρ O fun n it O1 => ∃ W, LcQ Γ scope (own.map (·.2)) tg ifs elt n it ρ O1 Ql W) (hq : ∀ F P H2, LcEnd Γ.M.K F Ql P H2 → KV' Γ F Q (.ref P) H2)
    (hs : ∀ env x, foldedSetIterable iter env x = pure x := by intro _ _; rfl) : We Γ (.ListComp elt [⟨tg, iter, ifs, 0⟩] scope pos) ρ O Q := fun F σ H e0 s r X hX pins sh I => by
  obtain ⟨wi, h1, h2⟩ := h X hX
  exact (pe_lc (own := own) (hX.calm hh) (by rw [hX.N]; exact hX.nd) h1 (by rw [hX.N, hX.sc]; exact blkOk_by ok) (fun s H C cl fp => bg_pg hX tg) (fun s H C cl fp => bi_pt hX ifs) (fun s H C cl fp => be_pe hX elt) (hs X.env)).run pins sh σ H _ I
    (lc_runI hX e0 s r (fun Rv k => h2 F σ H Rv e0 s r k) fun P H2 le => hq F P H2 le)
/-- [..] frozen at its end -/
theorem we_lcf {pos : Pos} (hh : Γ.hot = false) (ok : blkC Γ.N Γ.sc scope own = true) (h : PiD Γ tg iter ρ O fun n it O1 => ∃ W, LcQ Γ scope (own.map (·.2)) tg ifs elt n it ρ O1 (LcF Q) W) (hs : ∀ env x, foldedSetIterable iter env x = pure x := by intro _ _; rfl) : We Γ (.ListComp elt [⟨tg, iter, ifs, 0⟩] scope pos) ρ O Q :=
  we_lcI hh ok h (fun F P H2 le => le.frozen fun _ _ q => q) hs
/-- .. left open -/
theorem we_lco {pos : Pos} (hh : Γ.hot = false) (ok : blkC Γ.N Γ.sc scope own = true) (h : PiD Γ tg iter ρ O fun n it O1 => ∃ W, LcQ Γ scope (own.map (·.2)) tg ifs elt n it ρ O1 (LcO Q) W) (hs : ∀ env x, foldedSetIterable iter env x = pure x := by intro _ _; rfl) : We Γ (.ListComp elt [⟨tg, iter, ifs, 0⟩] scope pos) ρ O Q :=
  we_lcI hh ok h (fun F P H2 le => le.opened fun p acc O' hp q => q p hp) hs
/-- y = [..], y a local of a def -/
theorem ws_lcI {y : Str} {py pos spos : Pos} {Ql : List D → Opens → Prop} (hh : Γ.hot = false) (hk : Γ.sc.kind = .function) (hN : Γ.N[slot Γ.N y]? = some y) (hy : Γ.sc.names.lookup y = some .local) (hl : (py.line == pos.line) = true) (ha : (scope.names.any fun (n, k) => n == y && (k == .local || k == .cell)) = false)
    (ok : blkC Γ.N Γ.sc scope own = true) (h : PiD Γ tg iter ρ O fun n it O1 => ∃ W, LcQ Γ scope (own.map (·.2)) tg ifs elt n it ρ O1 Ql W) (hq : ∀ F P H2, LcEnd Γ.M.K F Ql P H2 → KV' Γ F (fun d O' => Z.nx (ρ.set (slot Γ.N y) (some d)) O') (.ref P) H2)
    (hs : ∀ env x, foldedSetIterable iter env x = pure x := by intro _ _; rfl) : WS Γ (.Assign [.Name y py] (.ListComp elt [⟨tg, iter, ifs, 0⟩] scope pos) spos) ρ O Z := fun F σ H e0 s r X hX pins sh I => by
  obtain ⟨wi, h1, h2⟩ := h X hX
  have hy' : X.env.scope.names.lookup y = some .local := by rw [hX.sc]; exact hy
  refine (ps_setLc (i := slot Γ.N y) (own := own) (hX.calm hh) (by rw [hX.N]; exact hX.nd) (by rw [hX.N]; exact hN) hy' (sw_true (by rw [hX.sc]; exact hk) hy' hl ha) h1 (by rw [hX.N, hX.sc]; exact blkOk_by ok) (fun s H C cl fp => bg_pg hX tg) (fun s H C cl fp => bi_pt hX ifs) (fun s H C cl fp => be_pe hX elt) (hs X.env)).run pins sh σ H _ I ?_
  refine lc_runI hX e0 s r (fun Rv k => h2 F σ H Rv e0 s r k) fun P H2 le => ?_
  obtain ⟨d, F', O', e1, s1, r1, q⟩ := hq F P H2 le
  exact ks e1 s1 ((r.mono e1).set _ r1) q
theorem ws_lcf {y : Str} {py pos spos : Pos} (hh : Γ.hot = false) (hk : Γ.sc.kind = .function) (hN : Γ.N[slot Γ.N y]? = some y) (hy : Γ.sc.names.lookup y = some .local) (hl : (py.line == pos.line) = true) (ha : (scope.names.any fun (n, k) => n == y && (k == .local || k == .cell)) = false)
    (ok : blkC Γ.N Γ.sc scope own = true) (h : PiD Γ tg iter ρ O fun n it O1 => ∃ W, LcQ Γ scope (own.map (·.2)) tg ifs elt n it ρ O1 (LcF fun d O' => Z.nx (ρ.set (slot Γ.N y) (some d)) O') W) (hs : ∀ env x, foldedSetIterable iter env x = pure x := by intro _ _; rfl) : WS Γ (.Assign [.Name y py] (.ListComp elt [⟨tg, iter, ifs, 0⟩] scope pos) spos) ρ O Z :=
  ws_lcI hh hk hN hy hl ha ok h (fun F P H2 le => le.frozen fun _ _ q => q) hs
theorem ws_lco {y : Str} {py pos spos : Pos} (hh : Γ.hot = false) (hk : Γ.sc.kind = .function) (hN : Γ.N[slot Γ.N y]? = some y) (hy : Γ.sc.names.lookup y = some .local) (hl : (py.line == pos.line) = true) (ha : (scope.names.any fun (n, k) => n == y && (k == .local || k == .cell)) = false)
    (ok : blkC Γ.N Γ.sc scope own = true) (h : PiD Γ tg iter ρ O fun n it O1 => ∃ W, LcQ Γ scope (own.map (·.2)) tg ifs elt n it ρ O1 (LcO fun d O' => Z.nx (ρ.set (slot Γ.N y) (some d)) O') W) (hs : ∀ env x, foldedSetIterable iter env x = pure x := by intro _ _; rfl) : WS Γ (.Assign [.Name y py] (.ListComp elt [⟨tg, iter, ifs, 0⟩] scope pos) spos) ρ O Z :=
  ws_lcI hh hk hN hy hl ha ok h (fun F P H2 le => le.opened fun p acc O' hp q => q p hp) hs
end
end DL

/-! DLI: comprehensions with the slots found, methods of texts, differences of truth values. -/
namespace DL
open PySem PySem.Spec PyProof.Rows L2

/-- a comprehension's own slots -/
def ownS (N : List Str) (scope : Scope) : List (Str × Nat) := scope.names.filterMap fun y => match y.2 with
  | .local => if N.contains y.1 then some (y.1, slot N y.1) else none
  | .cell => if N.contains y.1 then some (y.1, slot N y.1) else none
  | _ => none
abbrev ownN (N : List Str) (scope : Scope) : List Nat := (ownS N scope).map (·.2)
section
variable {Γ : G} {ρ : Env'} {O : Opens} {Z : EndsD} {Q : DK} {tg iter elt : Expr} {ifs : List Expr} {scope : Scope} {pos : Pos}
theorem we_lc (hh : Γ.hot = false) (ok : blkC Γ.N Γ.sc scope (ownS Γ.N scope) = true) (h : PiD Γ tg iter ρ O fun n it O1 => ∃ W, LcQ Γ scope (ownN Γ.N scope) tg ifs elt n it ρ O1 (LcF Q) W) (hs : ∀ env x, foldedSetIterable iter env x = pure x := by intro _ _; rfl) : We Γ (.ListComp elt [⟨tg, iter, ifs, 0⟩] scope pos) ρ O Q := we_lcf hh ok h hs
theorem we_lcOpen (hh : Γ.hot = false) (ok : blkC Γ.N Γ.sc scope (ownS Γ.N scope) = true) (h : PiD Γ tg iter ρ O fun n it O1 => ∃ W, LcQ Γ scope (ownN Γ.N scope) tg ifs elt n it ρ O1 (LcO Q) W) (hs : ∀ env x, foldedSetIterable iter env x = pure x := by intro _ _; rfl) : We Γ (.ListComp elt [⟨tg, iter, ifs, 0⟩] scope pos) ρ O Q := we_lco hh ok h hs
theorem ws_lc {y : Str} {py spos : Pos} (hh : Γ.hot = false) (hk : Γ.sc.kind = .function) (hN : Γ.N[slot Γ.N y]? = some y) (hy : Γ.sc.names.lookup y = some .local) (hl : (py.line == pos.line) = true) (ha : (scope.names.any fun (n, k) => n == y && (k == .local || k == .cell)) = false)
    (ok : blkC Γ.N Γ.sc scope (ownS Γ.N scope) = true) (h : PiD Γ tg iter ρ O fun n it O1 => ∃ W, LcQ Γ scope (ownN Γ.N scope) tg ifs elt n it ρ O1 (LcF fun d O' => Z.nx (ρ.set (slot Γ.N y) (some d)) O') W) (hs : ∀ env x, foldedSetIterable iter env x = pure x := by intro _ _; rfl) : WS Γ (.Assign [.Name y py] (.ListComp elt [⟨tg, iter, ifs, 0⟩] scope pos) spos) ρ O Z :=
  ws_lcf hh hk hN hy hl ha ok h hs
theorem ws_lcOpen {y : Str} {py spos : Pos} (hh : Γ.hot = false) (hk : Γ.sc.kind = .function) (hN : Γ.N[slot Γ.N y]? = some y) (hy : Γ.sc.names.lookup y = some .local) (hl : (py.line == pos.line) = true) (ha : (scope.names.any fun (n, k) => n == y && (k == .local || k == .cell)) = false)
    (ok : blkC Γ.N Γ.sc scope (ownS Γ.N scope) = true) (h : PiD Γ tg iter ρ O fun n it O1 => ∃ W, LcQ Γ scope (ownN Γ.N scope) tg ifs elt n it ρ O1 (LcO fun d O' => Z.nx (ρ.set (slot Γ.N y) (some d)) O') W) (hs : ∀ env x, foldedSetIterable iter env x = pure x := by intro _ _; rfl) : WS Γ (.Assign [.Name y py] (.ListComp elt [⟨tg, iter, ifs, 0⟩] scope pos) spos) ρ O Z :=
  ws_lco hh hk hN hy hl ha ok h hs

theorem wgo_nb {x : Str} {d : D} {own : List Nat} {Q : Env' → Opens → Prop} (hN : Γ.N[slot Γ.N x]? = some x) (hl : Loc Γ.ss x) (hi : own.contains (slot Γ.N x) = true) (h : Q (ρ.set (slot Γ.N x) (some d)) O) : WGo Γ own (.Name x pos) d ρ O Q := wgo_name hN hl (by simpa using hi) h
/-! ### methods of texts -/
variable {o e : Expr} {apos : Pos}
theorem we_split (h : We Γ o ρ O fun x O1 => ∃ a, x = .str a ∧ We Γ e ρ O1 fun y O2 => ∃ b : Str, y = .str b ∧ (b.length == 0) = false ∧ a.length + 2 ≤ sizeLine ∧ Q (.lst ((Txt.split a b).map D.str)) O2)
    (hs : ∀ env, starEach [e] env = [(false, eval e env)] := by intro _; rfl) (hb : ∀ env, attributeBase o "split" env (eval o env) = eval o env := by intro _; rfl) (hl : (apos.endLine == pos.line) = true := by rfl) : We Γ (.Call (.Attribute o "split" apos) [e] [] pos) ρ O Q := by
  refine we_strm1 (r := fun x xs H Q => ∃ a b, x = .str a ∧ xs = [.str b] ∧ (b.length == 0) = false ∧ a.length + 2 ≤ sizeLine ∧ rNewStrs (Txt.split a b) H Q) F.slot_str_split F.type_str_split (fun X hX => mt_split) (h.imp fun x O1 ⟨a, hx, q⟩ => ⟨a, hx, q.imp fun y O2 ⟨b, hy, h1, h2, q2⟩ F H v e0 s r => ?_⟩) (fun X hX x xs H Q Q' m ⟨a, b, h1, h2, h3, h4, h5⟩ => ⟨a, b, h1, h2, h3, h4, fun p hp => m _ _ (h5 p hp)⟩) hs hb hl
  subst hy
  cases r
  refine ⟨a, b, rfl, rfl, h1, h2, fun p hp => kv_lst s hp ?_ q2⟩
  have : ∀ l : List Str, Reps Γ.M.K F (l.map D.str) (l.map V.str) := by
    intro l
    induction l with
    | nil => exact rfl
    | cons z l ih => exact Reps.cons rep_str ih
  exact this _
theorem we_startswith (h : We Γ o ρ O fun x O1 => ∃ a, x = .str a ∧ We Γ e ρ O1 fun y O2 => ∃ b : Str, y = .str b ∧ Q (.bl (Txt.startswith a b)) O2)
    (hs : ∀ env, starEach [e] env = [(false, eval e env)] := by intro _; rfl) (hb : ∀ env, attributeBase o "startswith" env (eval o env) = eval o env := by intro _; rfl) (hl : (apos.endLine == pos.line) = true := by rfl) : We Γ (.Call (.Attribute o "startswith" apos) [e] [] pos) ρ O Q := by
  refine we_strm1 (r := fun x xs H Q => ∃ a b, x = .str a ∧ xs = [.str b] ∧ Q (.bl (Txt.startswith a b)) H) F.slot_str_startswith F.type_str_startswith (fun X hX => mt_startswith) (h.imp fun x O1 ⟨a, hx, q⟩ => ⟨a, hx, q.imp fun y O2 ⟨b, hy, q2⟩ F H v e0 s r => ?_⟩) (fun X hX x xs H Q Q' m ⟨a, b, h1, h2, h3⟩ => ⟨a, b, h1, h2, m _ _ h3⟩) hs hb hl
  subst hy
  cases r
  exact ⟨a, b, rfl, rfl, kv s rep_bl q2⟩
theorem we_partition (h : We Γ o ρ O fun x O1 => ∃ a, x = .str a ∧ We Γ e ρ O1 fun y O2 => ∃ b : Str, y = .str b ∧ (b.length == 0) = false ∧ a.length ≤ sizeLine ∧ Q (.tup [.str (Txt.partition a b).1, .str (Txt.partition a b).2.1, .str (Txt.partition a b).2.2]) O2)
    (hs : ∀ env, starEach [e] env = [(false, eval e env)] := by intro _; rfl) (hb : ∀ env, attributeBase o "partition" env (eval o env) = eval o env := by intro _; rfl) (hl : (apos.endLine == pos.line) = true := by rfl) : We Γ (.Call (.Attribute o "partition" apos) [e] [] pos) ρ O Q := by
  refine we_strm1 (r := fun x xs H Q => ∃ a b, x = .str a ∧ xs = [.str b] ∧ (b.length == 0) = false ∧ a.length ≤ sizeLine ∧ ∀ p, H p = none → Q (.ref p) (upd H p (.tup [.str (Txt.partition a b).1, .str (Txt.partition a b).2.1, .str (Txt.partition a b).2.2]))) F.slot_str_partition F.type_str_partition (fun X hX => mt_partition) (h.imp fun x O1 ⟨a, hx, q⟩ => ⟨a, hx, q.imp fun y O2 ⟨b, hy, h1, h2, q2⟩ F H v e0 s r => ?_⟩) (fun X hX x xs H Q Q' m ⟨a, b, h1, h2, h3, h4, h5⟩ => ⟨a, b, h1, h2, h3, h4, fun p hp => m _ _ (h5 p hp)⟩) hs hb hl
  subst hy
  cases r
  exact ⟨a, b, rfl, rfl, h1, h2, fun p hp => kv_tup s hp (Reps.cons rep_str (Reps.cons rep_str (Reps.cons rep_str Reps.nil))) q2⟩
theorem we_join (h : We Γ o ρ O fun x O1 => ∃ a, x = .str a ∧ We Γ e ρ O1 fun y O2 => ∃ ys : List Str, (y = .lst (ys.map D.str) ∨ y = .tup (ys.map D.str)) ∧ (ys.map (·.length)).sum + ys.length * a.length ≤ 16777216 ∧ Q (.str (Txt.join a ys)) O2)
    (hs : ∀ env, starEach [e] env = [(false, eval e env)] := by intro _; rfl) (hb : ∀ env, attributeBase o "join" env (eval o env) = eval o env := by intro _; rfl) (hl : (apos.endLine == pos.line) = true := by rfl) : We Γ (.Call (.Attribute o "join" apos) [e] [] pos) ρ O Q := by
  refine we_strm1 (r := fun x xs H Q => ∃ a p, ∃ ys : List Str, x = .str a ∧ xs = [.ref p] ∧ (SqL Γ.M.K H p (ys.map V.str) ∨ SqT Γ.M.K H p (ys.map V.str)) ∧ (ys.map (·.length)).sum + ys.length * a.length ≤ 16777216 ∧ Q (.str (Txt.join a ys)) H) F.slot_str_join F.type_str_join (fun X hX => hX.K ▸ mt_join) (h.imp fun x O1 ⟨a, hx, q⟩ => ⟨a, hx, q.imp fun y O2 ⟨ys, hy, h2, q2⟩ F H v e0 s r => ?_⟩) (fun X hX x xs H Q Q' m ⟨a, p, ys, h1, h2, h3, h4, h5⟩ => ⟨a, p, ys, h1, h2, h3, h4, m _ _ h5⟩) hs hb hl
  rcases hy with rfl | rfl
  · obtain ⟨p, vs, rfl, g1, g2⟩ := r
    have e := reps_str g2
    subst e
    exact ⟨a, p, ys, rfl, rfl, .inl (SqL.of (s.ext _ _ g1)), h2, kv s rep_str q2⟩
  · obtain ⟨p, vs, rfl, g1, g2⟩ := r
    have e := reps_str g2
    subst e
    exact ⟨a, p, ys, rfl, rfl, .inr (s.ext.seqT g1), h2, kv s rep_str q2⟩
end
end DL

/-! DLJ: comprehensions over a list of things told by a function: map, filter; loops with a state told. -/
namespace DL
open PySem PySem.Spec PyProof.Rows L2
section
variable {Γ : G} {ρ : Env'} {O : Opens} {Q : DK} {scope : Scope} {own : List Nat} {tg elt c : Expr} {α : Type}
/-- what is open may change from turn to turn: inv tells of it -/
theorem lc_stateA (xs : List α) (g : α → D) (inv : Nat → List D → Opens → Prop) {Ql : List D → Opens → Prop} (hl : xs.length ≤ sizeLine) (h0 : inv 0 [] O) (ha : ∀ i acc O', i ≤ xs.length → inv i acc O' → acc.length ≤ i)
    (ht : ∀ (F0 : Fr) (i : Nat) (x : α) (acc : List D) (O' : Opens), i < xs.length → xs[i]? = some x → inv i acc O' → WGo (blkG Γ scope F0) own tg (g x) (wipeD ρ own) O' fun ρ2 O2 => We (blkG Γ scope F0) elt ρ2 O2 fun y O3 => inv (i + 1) (acc ++ [y]) O3)
    (h : ∀ acc O', inv xs.length acc O' → Ql acc O') : ∃ W, LcQ Γ scope own tg [] elt (xs.map g).length (fun i => (xs.map g)[i]?) ρ O Ql W := by
  refine ⟨inv, h0, fun F0 i d acc O' hi hd w => ?_, fun acc O' w => h acc O' (by rw [List.length_map] at w; exact w)⟩
  rw [List.length_map] at hi
  rw [List.getElem?_map] at hd
  obtain ⟨x, hx, rfl⟩ := Option.map_eq_some_iff.mp hd
  intro F σ H v e0 s r rv
  refine (ht F0 i x acc O' hi hx w F σ H v e0 s r rv).mono fun σ' H' ⟨w1, k⟩ => ⟨w1, KS.mono (Ext.refl F) (fun ρ2 O2 q => ?_) k⟩
  refine wi_nil (ift rfl ?_)
  exact q.imp fun y O4 z => ⟨Nat.lt_of_le_of_lt (ha i acc O' (Nat.le_of_lt hi) w) (Nat.lt_of_lt_of_le hi hl), z⟩
/-- [elt for tg in xs], each gives f x -/
theorem lc_mapA (xs : List α) (g : α → D) (f : α → D) {Ql : List D → Opens → Prop} (hl : xs.length ≤ sizeLine) (ht : ∀ (F0 : Fr) (x : α), x ∈ xs → WGo (blkG Γ scope F0) own tg (g x) (wipeD ρ own) O fun ρ2 O2 => We (blkG Γ scope F0) elt ρ2 O2 fun y O3 => y = f x ∧ O3 = O)
    (h : Ql (xs.map f) O) : ∃ W, LcQ Γ scope own tg [] elt (xs.map g).length (fun i => (xs.map g)[i]?) ρ O Ql W := by
  refine lc_stateA xs g (fun i acc O' => acc = (xs.take i).map f ∧ O' = O) hl ⟨rfl, rfl⟩ (fun i acc O' hi w => ?_) (fun F0 i x acc O' hi hx w => ?_) fun acc O' w => ?_
  · rw [w.1, List.length_map, List.length_take]; exact Nat.min_le_left _ _
  · obtain ⟨w1, w2⟩ := w
    subst w2
    have hm := ht F0 x (List.mem_of_getElem? hx)
    intro F σ H v e0 s r rv
    refine (hm F σ H v e0 s r rv).mono fun σ' H' ⟨w3, k⟩ => ⟨w3, KS.mono (Ext.refl F) (fun ρ2 O2 q => q.imp fun y O4 z => ⟨?_, z.2⟩) k⟩
    rw [z.1, w1, List.take_add_one, hx, List.map_append]; rfl
  · obtain ⟨w1, w2⟩ := w
    subst w2
    rw [w1, List.take_length]; exact h
/-- [elt for tg in xs if c] -/
theorem lc_filA (xs : List α) (g : α → D) (p : α → Bool) (f : α → D) {Ql : List D → Opens → Prop} (hl : xs.length ≤ sizeLine)
    (ht : ∀ (F0 : Fr) (x : α), x ∈ xs → WGo (blkG Γ scope F0) own tg (g x) (wipeD ρ own) O fun ρ2 O2 => WT (blkG Γ scope F0) c ρ2 O2 fun b O3 => b = p x ∧ O3 = O ∧ (p x = true → We (blkG Γ scope F0) elt ρ2 O fun y O4 => y = f x ∧ O4 = O))
    (h : Ql ((xs.filter p).map f) O) : ∃ W, LcQ Γ scope own tg [c] elt (xs.map g).length (fun i => (xs.map g)[i]?) ρ O Ql W := by
  refine ⟨fun i acc O' => acc = ((xs.take i).filter p).map f ∧ O' = O, ⟨rfl, rfl⟩, fun F0 i d acc O' hi hd w => ?_, fun acc O' w => ?_⟩
  · obtain ⟨w1, w2⟩ := w
    subst w2
    rw [List.length_map] at hi
    rw [List.getElem?_map] at hd
    obtain ⟨x, hx, rfl⟩ := Option.map_eq_some_iff.mp hd
    have hm := ht F0 x (List.mem_of_getElem? hx)
    have tk : xs.take (i + 1) = xs.take i ++ [x] := by rw [List.take_add_one, hx]; rfl
    have small : acc.length < sizeLine := by
      rw [w1, List.length_map]
      have a1 := List.length_filter_le p (xs.take i)
      rw [List.length_take] at a1
      omega
    intro F σ H v e0 s r rv
    refine (hm F σ H v e0 s r rv).mono fun σ' H' ⟨w3, k⟩ => ⟨w3, KS.mono (Ext.refl F) (fun ρ2 O2 q => ?_) k⟩
    refine WT.imp (show WT _ c ρ2 O2 _ from q) fun b O3 ⟨hb, hO, hw⟩ => ?_
    subst hO
    cases b with
    | true =>
      rw [if_pos rfl]
      refine (hw hb.symm).imp fun y O4 z => ⟨small, ?_, z.2⟩
      rw [tk, List.filter_append, List.map_append, ← w1, List.filter_cons, if_pos hb.symm, z.1]; rfl
    | false =>
      rw [if_neg Bool.false_ne_true]
      refine ⟨?_, rfl⟩
      rw [tk, List.filter_append, List.map_append, ← w1, List.filter_cons, if_neg (by rw [← hb]; decide)]; simp
  · obtain ⟨w1, w2⟩ := w
    subst w2
    rw [List.length_map] at w1
    rw [w1, List.take_length]; exact h
/-- over things as they are -/
theorem lc_mapD (xs : List D) (f : D → D) {Ql : List D → Opens → Prop} (hl : xs.length ≤ sizeLine) (ht : ∀ (F0 : Fr) (x : D), x ∈ xs → WGo (blkG Γ scope F0) own tg x (wipeD ρ own) O fun ρ2 O2 => We (blkG Γ scope F0) elt ρ2 O2 fun y O3 => y = f x ∧ O3 = O)
    (h : Ql (xs.map f) O) : ∃ W, LcQ Γ scope own tg [] elt xs.length (fun i => xs[i]?) ρ O Ql W := by
  have k := lc_mapA (Γ := Γ) (ρ := ρ) (scope := scope) (own := own) (tg := tg) (elt := elt) (Ql := Ql) xs id f hl ht h
  rw [List.map_id] at k
  exact k
theorem lc_filD (xs : List D) (p : D → Bool) (f : D → D) {Ql : List D → Opens → Prop} (hl : xs.length ≤ sizeLine)
    (ht : ∀ (F0 : Fr) (x : D), x ∈ xs → WGo (blkG Γ scope F0) own tg x (wipeD ρ own) O fun ρ2 O2 => WT (blkG Γ scope F0) c ρ2 O2 fun b O3 => b = p x ∧ O3 = O ∧ (p x = true → We (blkG Γ scope F0) elt ρ2 O fun y O4 => y = f x ∧ O4 = O))
    (h : Ql ((xs.filter p).map f) O) : ∃ W, LcQ Γ scope own tg [c] elt xs.length (fun i => xs[i]?) ρ O Ql W := by
  have k := lc_filA (Γ := Γ) (ρ := ρ) (scope := scope) (own := own) (tg := tg) (elt := elt) (c := c) (Ql := Ql) xs id p f hl ht h
  rw [List.map_id] at k
  exact k
end
/-! ### for with a state told by slots -/
section
variable {Γ : G} {ρ : Env'} {O : Opens} {Z : EndsD} {tg : Expr} {body : List Stmt} {α : Type}
theorem for_stateA (xs : List α) (g : α → D) (inv : Nat → Env' → Opens → Prop) (h0 : inv 0 ρ O)
    (ht : ∀ (i : Nat) (x : α) (ρ' : Env') (O' : Opens), i < xs.length → xs[i]? = some x → inv i ρ' O' → WG Γ tg (g x) ρ' O' fun ρ2 O2 => WSs Γ body ρ2 O2 { Z with nx := inv (i + 1), ct := inv (i + 1), bk := Z.nx })
    (h : ∀ ρ' O', inv xs.length ρ' O' → Z.nx ρ' O') : ∃ W, ForQ Γ tg body Z (xs.map g).length (fun i => (xs.map g)[i]?) ρ O W := by
  refine ⟨inv, h0, fun i d ρ' O' hi hd w => ?_, fun ρ' O' w => h ρ' O' (by rw [List.length_map] at w; exact w)⟩
  rw [List.length_map] at hi
  rw [List.getElem?_map] at hd
  obtain ⟨x, hx, rfl⟩ := Option.map_eq_some_iff.mp hd
  exact ht i x ρ' O' hi hx w
theorem for_stateD (xs : List D) (inv : Nat → Env' → Opens → Prop) (h0 : inv 0 ρ O)
    (ht : ∀ (i : Nat) (x : D) (ρ' : Env') (O' : Opens), i < xs.length → xs[i]? = some x → inv i ρ' O' → WG Γ tg x ρ' O' fun ρ2 O2 => WSs Γ body ρ2 O2 { Z with nx := inv (i + 1), ct := inv (i + 1), bk := Z.nx })
    (h : ∀ ρ' O', inv xs.length ρ' O' → Z.nx ρ' O') : ∃ W, ForQ Γ tg body Z xs.length (fun i => xs[i]?) ρ O W := by
  have k := for_stateA (Γ := Γ) (Z := Z) (tg := tg) (body := body) xs id inv h0 ht h
  rw [List.map_id] at k
  exact k
end
end DL

/-! DLK: one step of a walk over data. -/
namespace DL
open PySem PySem.Spec PyProof.Rows L2
section
variable {Γ : G} {ρ : Env'} {O : Opens} {Z : EndsD} {Q : DK} {x y : Str} {a b : Expr}
/-- x, y = a, b -/
theorem ws_pr {px py pt pos : Pos} {kt k2 pt2} (hh : Γ.hot = false) (hi : Γ.N[slot Γ.N x]? = some x) (hj : Γ.N[slot Γ.N y]? = some y) (hij : (slot Γ.N x == slot Γ.N y) = false) (hx : Γ.sc.names.lookup x = some .local) (hy : Γ.sc.names.lookup y = some .local)
    (h : We Γ a ρ O fun u O1 => We Γ b ρ O1 fun v O2 => Z.nx ((ρ.set (slot Γ.N x) (some u)).set (slot Γ.N y) (some v)) O2) (hw : ∀ env, env.scope = Γ.sc → swappedStores [.Tuple [.Name x px, .Name y py] kt pt] (.Tuple [a, b] k2 pt2) env = pure (some [x, y]))
    (hs : ∀ env, env.scope = Γ.sc → swapsWithSole [.Tuple [.Name x px, .Name y py] kt pt] (.Tuple [a, b] k2 pt2) pos.line env = pure false := by intro _ _; rfl)
    (h1 : ∀ env, starEach [a, b] env = (false, eval a env) :: starEach [b] env := by intro _; rfl) (h2 : ∀ env, starEach [b] env = (false, eval b env) :: starEach [] env := by intro _; rfl) : WS Γ (.Assign [.Tuple [.Name x px, .Name y py] kt pt] (.Tuple [a, b] k2 pt2) pos) ρ O Z :=
  ws_par hh hi hj (by simpa using hij) hx hy h hw hs h1 h2
theorem q_lens {z : Str} (hz : z.length ≤ sizeLine) (h : Q (.int z.length) O) : LenQ [.str z] O Q := ⟨hz, h⟩
theorem q_ixs {z : Str} {i : Int} {c : Nat} (hz : z.length ≤ sizeLine) (h1 : atI z.cps.toList i = some c) (h : Q (.str ⟨#[c]⟩) O) : IxQ (.str z) (.int i) O Q := ⟨hz, c, h1, h⟩
theorem q_insg {z : Str} {c : Nat} (h : Q (.bl (decide (c ∈ z.cps.toList))) O) : CmpQ .In (.str ⟨#[c]⟩) (.str z) O Q := ⟨c, rfl, h⟩
theorem q_nisg {z : Str} {c : Nat} (h : Q (.bl (!decide (c ∈ z.cps.toList))) O) : CmpQ .NotIn (.str ⟨#[c]⟩) (.str z) O Q := ⟨c, rfl, h⟩
theorem q_isn {d : D} (h0 : ∀ v, d ≠ .raw v) (h : Q (.bl (isNon d)) O) : CmpQ .Is d .non O Q := by
  cases d with
  | raw v => exact absurd rfl (h0 v)
  | _ => exact h
theorem q_nisn {d : D} (h0 : ∀ v, d ≠ .raw v) (h : Q (.bl (!isNon d)) O) : CmpQ .IsNot d .non O Q := by
  cases d with
  | raw v => exact absurd rfl (h0 v)
  | _ => exact h
theorem at_nat {α : Type} {xs : List α} {j : Int} {i : Nat} {a : α} (e : j = (i : Int)) (h : xs[i]? = some a) : atI xs j = some a := by
  subst e
  unfold atI
  refine Option.bind_eq_some_iff.mpr ⟨i, ?_, h⟩
  have hl := (List.getElem?_eq_some_iff.mp h).1
  unfold ixN
  simp [hl]
theorem q_lcf {acc : List D} (h : Q (.lst acc) O) : LcF Q acc O := h
theorem q_tupl {xs : List D} (h : Q (.tup xs) O) : TupQ [.lst xs] O Q := h
theorem q_tupt {xs : List D} (h : Q (.tup xs) O) : TupQ [.tup xs] O Q := h
theorem q_lstl {xs : List D} (h : Q (.lst xs) O) : LstQ [.lst xs] O Q := h
theorem q_lstt {xs : List D} (h : Q (.lst xs) O) : LstQ [.tup xs] O Q := h
theorem q_inl {x : D} {xs : List D} (h1 : flatD x = true) (h2 : xs.all flatD = true) (h : Q (.bl (inD x xs)) O) : CmpQ .In x (.lst xs) O Q := ⟨h1, h2, h⟩
theorem q_int {x : D} {xs : List D} (h1 : flatD x = true) (h2 : xs.all flatD = true) (h : Q (.bl (inD x xs)) O) : CmpQ .In x (.tup xs) O Q := ⟨h1, h2, h⟩
theorem q_fmti {i : Int} (h1 : i.natAbs.log2 < 1920) (h : Q (.str (Str.ofString (toString i))) O) : (∃ z : Str, D.int i = .str z ∧ z.length ≤ sizeLine ∧ Q (.str z) O) ∨ ∃ j : Int, D.int i = .int j ∧ j.natAbs.log2 < 1920 ∧ Q (.str (Str.ofString (toString j))) O := .inr ⟨i, rfl, h1, h⟩
theorem q_stri {i : Int} (h1 : i.natAbs.log2 < 1920) (h : Q (.str (Str.ofString (toString i))) O) : StrQ [.int i] O Q := ⟨h1, h⟩
theorem q_sls {z : Str} {lo hi : Option Int} (hz : z.length ≤ sizeLine) (h : Q (.str (cutS z lo hi)) O) : SlQ (.str z) lo hi O Q := ⟨hz, h⟩
theorem q_slt {xs : List D} {lo hi : Option Int} (h : Q (.tup (cutD xs lo hi)) O) : SlQ (.tup xs) lo hi O Q := h
theorem q_sll {xs : List D} {lo hi : Option Int} (h : Q (.lst (cutD xs lo hi)) O) : SlQ (.lst xs) lo hi O Q := h
theorem q_subb {a b : Bool} (h : Q (.int (PyProof.Rows.b2i a - PyProof.Rows.b2i b)) O) : BinQ .Sub (.bl a) (.bl b) O Q := h
/-- both ways give v -/
theorem we_both {c : Bool} {e1 e2 : Expr} (v : D) (h1 : c = true → We Γ e1 ρ O fun d O1 => d = v ∧ O1 = O) (h2 : c = false → We Γ e2 ρ O fun d O1 => d = v ∧ O1 = O) (h : Q v O) : if c = true then We Γ e1 ρ O Q else We Γ e2 ρ O Q :=
  if2 (fun hc => (h1 hc).imp fun d O1 ⟨k1, k2⟩ => by subst k1 k2; exact h) fun hc => (h2 hc).imp fun d O1 ⟨k1, k2⟩ => by subst k1 k2; exact h
theorem q_ixo {a : Addr} {ds : List D} {i : Int} {d : D} (ho : O a = some (.lst ds)) (h1 : atI ds i = some d) (h : Q d O) : IxQ (.raw (.ref a)) (.int i) O Q := ⟨ds, d, ho, h1, h⟩
theorem q_lenr {xs : List D} (h : Q (.int xs.length) O) : LenQ [.rls xs] O Q := h
theorem q_ixr {xs : List D} {i : Int} {d : D} (h1 : atI xs i = some d) (h : Q d O) : IxQ (.rls xs) (.int i) O Q := ⟨d, h1, h⟩
theorem q_slr {xs : List D} {lo hi : Option Int} (h : Q (.lst (cutD xs lo hi)) O) : SlQ (.rls xs) lo hi O Q := h
theorem q_inti {i : Int} (h : Q (.int i) O) : IntQ [.int i] O Q := h
theorem q_intb {b : Bool} (h : Q (.int (if b then 1 else 0)) O) : IntQ [.bl b] O Q := h
theorem q_powi {i j : Int} (hc : CPow i j) (h : Q (.int (i ^ j.toNat)) O) : BinQ .Pow (.int i) (.int j) O Q := ⟨hc, h⟩
theorem q_isit {d : D} {a : Ty} {bs : List Ty} (h1 : tyD O d = some a) (h : Q (.bl (bs.any (isi a))) O) : IsiQ [d, .tup (bs.map tyd)] O Q := ⟨a, bs, h1, rfl, h⟩
theorem q_isb {a b : Bool} (h : Q (.bl (decide (a = b))) O) : CmpQ .Is (.bl a) (.bl b) O Q := h
theorem q_addl {a b : List D} (hz : a.length + b.length ≤ sizeLine) (h : Q (.lst (a ++ b)) O) : BinQ .Add (.lst a) (.lst b) O Q := ⟨hz, h⟩
theorem q_addt {a b : List D} (hz : a.length + b.length ≤ sizeLine) (h : Q (.tup (a ++ b)) O) : BinQ .Add (.tup a) (.tup b) O Q := ⟨hz, h⟩
theorem q_adds {a b : Str} (hz : a.length + b.length ≤ sizeLine) (h : Q (.str (a ++ b)) O) : BinQ .Add (.str a) (.str b) O Q := ⟨hz, h⟩
theorem q_bl2 {b : Bool} {P : Bool → Prop} (h : P b) : ∃ k, D.bl b = .bl k ∧ P k := ⟨b, rfl, h⟩
end
end DL

/-! DLL: == of data, told. -/
namespace DL
open PySem PySem.Spec PyProof.Rows L2
/-- layable, of depth at most n -/
def Lay (n : Nat) (d : D) : Prop := ∃ p, toPy d = some p ∧ p.canLay0 = true ∧ p.depth ≤ n
def LayS (n : Nat) (ds : List D) : Prop := ∃ ps, toPys ds = some ps ∧ PyData.canLayAll0 ps = true ∧ PyData.depthAll ps ≤ n
theorem layS_of {n : Nat} : ∀ {ds : List D}, (∀ d ∈ ds, Lay n d) → LayS n ds
  | [], _ => ⟨[], rfl, rfl, Nat.zero_le _⟩
  | d :: ds, h => by
    obtain ⟨p, h1, h2, h3⟩ := h d List.mem_cons_self
    obtain ⟨ps, g1, g2, g3⟩ := layS_of fun e he => h e (List.mem_cons_of_mem _ he)
    refine ⟨p :: ps, by rw [toPys, h1, g1]; rfl, ?_, ?_⟩
    · rw [PyData.canLayAll0, h2, g2]; rfl
    · rw [PyData.depthAll]; exact Nat.max_le.mpr ⟨h3, g3⟩
theorem lay_tup {n : Nat} {ds : List D} (h : ∀ d ∈ ds, Lay n d) : Lay (n + 1) (.tup ds) := by
  obtain ⟨ps, g1, g2, g3⟩ := layS_of h
  exact ⟨.tuple ps, by rw [toPy, g1]; rfl, by rw [PyData.canLay0]; exact g2, by rw [PyData.depth]; omega⟩
theorem lay_lst {n : Nat} {ds : List D} (h : ∀ d ∈ ds, Lay n d) : Lay (n + 1) (.lst ds) := by
  obtain ⟨ps, g1, g2, g3⟩ := layS_of h
  exact ⟨.list ps, by rw [toPy, g1]; rfl, by rw [PyData.canLay0]; exact g2, by rw [PyData.depth]; omega⟩
theorem lay_non {n : Nat} : Lay n .non := ⟨_, rfl, by rw [PyData.canLay0], by rw [PyData.depth]; exact Nat.zero_le _⟩
theorem lay_bl {n : Nat} {b : Bool} : Lay n (.bl b) := ⟨_, rfl, by rw [PyData.canLay0], by rw [PyData.depth]; exact Nat.zero_le _⟩
theorem lay_int {n : Nat} {i : Int} : Lay n (.int i) := ⟨_, rfl, by rw [PyData.canLay0], by rw [PyData.depth]; exact Nat.zero_le _⟩
theorem lay_str {n : Nat} {z : Str} (h : PyData.strOk z = true) : Lay n (.str z) := ⟨_, rfl, by rw [PyData.canLay0]; exact h, by rw [PyData.depth]; exact Nat.zero_le _⟩
theorem Lay.le {n m : Nat} {d : D} (h : Lay n d) (k : n ≤ m) : Lay m d := by
  obtain ⟨p, h1, h2, h3⟩ := h
  exact ⟨p, h1, h2, Nat.le_trans h3 k⟩
def eqD (x y : D) : Bool := match toPy x, toPy y with
  | some p, some q => PyData.eqv p q
  | _, _ => false
def eqDs (x y : List D) : Bool := match toPys x, toPys y with
  | some p, some q => PyData.eqvAll p q
  | _, _ => false
section
variable {O : Opens} {Q : DK} {x y : D}
theorem q_eqd (h1 : Lay 64 x) (h2 : Lay 64 y) (h : Q (.bl (eqD x y)) O) : CmpQ .Eq x y O Q := by
  obtain ⟨p, a1, a2, a3⟩ := h1
  obtain ⟨q, b1, b2, b3⟩ := h2
  show EqQ false x y O Q
  unfold eqD at h
  unfold EqQ
  split
  · cases a1; cases b1
    rw [toPy, toPy] at h
    simpa [PyData.eqv] using h
  · refine ⟨p, q, a1, b1, ?_, ?_, ?_⟩
    · unfold SeqAt.shaped; rw [a2, decide_eq_true a3]; rfl
    · unfold SeqAt.shaped; rw [b2, decide_eq_true b3]; rfl
    · rw [a1, b1] at h
      exact h
theorem q_ned (h1 : Lay 64 x) (h2 : Lay 64 y) (h : Q (.bl (!eqD x y)) O) : CmpQ .NotEq x y O Q := by
  obtain ⟨p, a1, a2, a3⟩ := h1
  obtain ⟨q, b1, b2, b3⟩ := h2
  show EqQ true x y O Q
  unfold eqD at h
  unfold EqQ
  split
  · cases a1; cases b1
    rw [toPy, toPy] at h
    simpa [PyData.eqv] using h
  · refine ⟨p, q, a1, b1, ?_, ?_, ?_⟩
    · unfold SeqAt.shaped; rw [a2, decide_eq_true a3]; rfl
    · unfold SeqAt.shaped; rw [b2, decide_eq_true b3]; rfl
    · rw [a1, b1] at h
      exact h
end
theorem eqDs_nil : eqDs [] [] = true := rfl
theorem eqDs_cons {x y : D} {xs ys : List D} {n : Nat} (h1 : Lay n x) (h2 : Lay n y) (h3 : LayS n xs) (h4 : LayS n ys) : eqDs (x :: xs) (y :: ys) = (eqD x y && eqDs xs ys) := by
  obtain ⟨p, a1, _, _⟩ := h1
  obtain ⟨q, b1, _, _⟩ := h2
  obtain ⟨ps, c1, _, _⟩ := h3
  obtain ⟨qs, d1, _, _⟩ := h4
  unfold eqDs eqD
  rw [toPys, toPys, a1, b1, c1, d1]
  rfl
theorem eqDs_nc {y : D} {ys : List D} : eqDs [] (y :: ys) = false := by
  unfold eqDs
  rw [toPys, toPys]
  cases toPy y with
  | none => rfl
  | some q =>
    cases toPys ys with
    | none => rfl
    | some qs => rfl
theorem eqDs_cn {y : D} {ys : List D} : eqDs (y :: ys) [] = false := by
  unfold eqDs
  rw [toPys, toPys]
  cases toPy y with
  | none => rfl
  | some q =>
    cases toPys ys with
    | none => rfl
    | some qs => rfl
theorem eqD_tup {xs ys : List D} : eqD (.tup xs) (.tup ys) = eqDs xs ys := by
  unfold eqD eqDs
  rw [toPy, toPy]
  cases toPys xs <;> cases toPys ys <;> rfl
theorem eqD_lst {xs ys : List D} : eqD (.lst xs) (.lst ys) = eqDs xs ys := by
  unfold eqD eqDs
  rw [toPy, toPy]
  cases toPys xs <;> cases toPys ys <;> rfl
theorem eqD_int {i j : Int} : eqD (.int i) (.int j) = (i == j) := rfl
theorem eqD_str {i j : Str} : eqD (.str i) (.str j) = (i == j) := rfl
theorem eqD_bl {i j : Bool} : eqD (.bl i) (.bl j) = (i == j) := rfl
theorem lays_ints {n : Nat} {ns : List Int} : ∀ d ∈ ns.map D.int, Lay n d := fun d hd => by
  obtain ⟨i, _, rfl⟩ := List.mem_map.mp hd
  exact lay_int
theorem lays_strs {n : Nat} {ns : List Str} (h : ∀ z ∈ ns, PyData.strOk z = true) : ∀ d ∈ ns.map D.str, Lay n d := fun d hd => by
  obtain ⟨i, hi, rfl⟩ := List.mem_map.mp hd
  exact lay_str (h i hi)
theorem lays_bls {n : Nat} {ns : List Bool} : ∀ d ∈ ns.map D.bl, Lay n d := fun d hd => by
  obtain ⟨i, hi, rfl⟩ := List.mem_map.mp hd
  exact lay_bl
theorem eqDs_ints : ∀ {ns ms : List Int}, eqDs (ns.map D.int) (ms.map D.int) = decide (ns = ms)
  | [], [] => rfl
  | [], m :: ms => by rw [List.map_cons, List.map_nil, eqDs_nc]; rfl
  | n :: ns, [] => by rw [List.map_cons, List.map_nil, eqDs_cn]; rfl
  | n :: ns, m :: ms => by
    rw [List.map_cons, List.map_cons, eqDs_cons (n := 0) lay_int lay_int (layS_of lays_ints) (layS_of lays_ints), eqDs_ints, eqD_int]
    by_cases h : n = m
    · subst h; simp
    · simp [h]
theorem eqDs_strs : ∀ {ns ms : List Str}, (∀ z ∈ ns, PyData.strOk z = true) → (∀ z ∈ ms, PyData.strOk z = true) → eqDs (ns.map D.str) (ms.map D.str) = decide (ns = ms)
  | [], [], _, _ => rfl
  | [], m :: ms, _, _ => by rw [List.map_cons, List.map_nil, eqDs_nc]; rfl
  | n :: ns, [], _, _ => by rw [List.map_cons, List.map_nil, eqDs_cn]; rfl
  | n :: ns, m :: ms, h1, h2 => by
    have k1 : ∀ z ∈ ns, PyData.strOk z = true := fun z h => h1 z (List.mem_cons_of_mem _ h)
    have k2 : ∀ z ∈ ms, PyData.strOk z = true := fun z h => h2 z (List.mem_cons_of_mem _ h)
    rw [List.map_cons, List.map_cons, eqDs_cons (n := 0) (lay_str (h1 n List.mem_cons_self)) (lay_str (h2 m List.mem_cons_self)) (layS_of (lays_strs k1)) (layS_of (lays_strs k2)), eqDs_strs k1 k2, eqD_str]
    by_cases h : n = m
    · subst h; simp
    · simp [h]
theorem eqDs_bls : ∀ {ns ms : List Bool}, eqDs (ns.map D.bl) (ms.map D.bl) = decide (ns = ms)
  | [], [] => rfl
  | [], m :: ms => by rw [List.map_cons, List.map_nil, eqDs_nc]; rfl
  | n :: ns, [] => by rw [List.map_cons, List.map_nil, eqDs_cn]; rfl
  | n :: ns, m :: ms => by
    rw [List.map_cons, List.map_cons, eqDs_cons (n := 0) lay_bl lay_bl (layS_of lays_bls) (layS_of lays_bls), eqDs_bls, eqD_bl]
    by_cases h : n = m
    · subst h; simp
    · simp [h]
end DL

/-! DLX5: the __init__ of an own exception. -/
namespace DL
open PySem PySem.Spec PyProof.Rows L2 DLX
/-- a def of a class by its body -/
theorem met_ok {M : Mo} {x qual : Str} {st : Stmt} {f : Addr} {fd : FuncData} {N ps : List Str} {k : Nat} {sp : SpD} (Fn : Fun M.K x qual st f fd) (S : FnScope N ps (defScope st)) (len : ∀ ds O Q E, sp ds O Q E → ds.length = ps.length)
    (body : ∀ (F : Fr) (ds : List D) (O : Opens) (Qd : DK) (Ed : XD → Opens → Prop), sp ds O Qd Ed → WSs (bodyG M N (defScope st) k F Ed) (defBody st) (startD N ds) O { nx := fun _ O' => Qd .non O', rt := Qd }) : FnOk M.P M.w M.K M.mg M.base (L2.CX M.P M.w) (k + 1) f fd ps (lift M.K sp) := by
  refine Fn.okX S (fun vs H Q E ⟨ds, F, O, Qd, Ed, r, _, q, _⟩ => by rw [← r.length]; exact len _ _ _ _ q) fun cdv A outer s H vs Q E hr ⟨ds, F, O, Qd, Ed, r, S', q, hQ, hE⟩ => ?_
  have hX := bodyG_has (M := M) (qual := qual) (st := st) (f := f) (cdv := cdv) (A := A) (outer := outer) (s := s) (H := H) (E := E) (Ed := Ed) (F0 := F) S.nd hr hE
  refine ⟨_, EvSs.pss hX (defBody st), ?_⟩
  refine (body F ds O Qd Ed q F (L2.start N vs) H (Ext.refl F) S' (start_env r)).mono (fun σ' H' ⟨ρ', F', O', e, s', r', q'⟩ => hQ .non .non F' O' H' e s' rep_non q') (fun v H' ⟨d, F', O', e, s', r', q'⟩ => hQ d v F' O' H' e s' r' q') (fun σ' H' ⟨ρ', F', O', e, s', r', q'⟩ => q'.elim) fun σ' H' ⟨ρ', F', O', e, s', r', q'⟩ => q'.elim
/-- the class x at E, whose __init__ is ValueError's -/
structure UpC (M : Mo) (x : Str) (E : Addr) : Prop where
  g : M.mg x = some (.ref E)
  rd : ∃ mc, ClX.CRead M.K E mc ∧ PySem.W.findCls M.K (.ref E) mc "__init__" = some (.val (.builtin "ValueError.__init__"))
section
variable {Γ : G} {ρ : Env'} {O : Opens} {Z : EndsD} {Q : DK} {x f : Str} {o e e2 : Expr} {p1 p2 p' pos : Pos} {E : Addr}
/-- E.__init__(self, e2) -/
theorem we_upI (hu : UpC Γ.M x E) (hg : GlN Γ x) (h : We Γ e ρ O fun s O1 => We Γ e2 ρ O1 fun _ O2 => ∃ a C, s = .raw (.ref a) ∧ OexC Γ.M.K C ∧ O2 a = some (.exo a C none) ∧ Q .non O2) (hd : (x == ("__debug__" : Str)) = false := by decide)
    (hc : ∀ env, ∃ pl, eval (.Call (.Attribute (.Name x p1) "__init__" p2) [e, e2] [] pos) env = (do
      let ov ← eval (.Name x p1) env
      standAt p2.atName
      let (g, first) ← holding [ov] (getMethod ov "__init__" pl)
      callWith pos g first (backTo pos (starEach [e, e2] env)) (backToKw pos (keywordEach [] env))) := by intro _; exact ⟨_, rfl⟩)
    (h1 : ∀ env, starEach [e, e2] env = (false, eval e env) :: starEach [e2] env := by intro _; rfl) (h2 : ∀ env, starEach [e2] env = (false, eval e2 env) :: starEach [] env := by intro _; rfl) (hpl : ∀ env, (backTo pos (starEach [e2] env)).any (·.1) = false := by intro _; rfl) :
    We Γ (.Call (.Attribute (.Name x p1) "__init__" p2) [e, e2] [] pos) ρ O Q := fun F σ H e0 s r X hX pins st I => by
  obtain ⟨mc, r1, r2⟩ := hu.rd
  obtain ⟨pl, hc⟩ := hc X.env
  refine (pe_upI (pl := pl) (hX.gl hg) (by rw [← hX.mg]; exact hu.g) (hX.K ▸ r1) (hX.K ▸ r2) (pa_cons (Ev.pe hX e) (pa_cons (Ev.pe hX e2) pa_nil (h2 X.env)) (h1 X.env)) hd hc (h1 X.env) (hpl X.env)).run pins st σ H _ I ?_
  refine (h F σ H e0 s r).mono fun v H1 ⟨dv, F1, O1, e1, s1, rv, q1⟩ => (q1 F1 σ H1 (e0.trans e1) s1 (r.mono e1)).mono fun w H2 ⟨dw, F2, O2, x2, s2, rw', a, C, hs, T, ho, q⟩ => ?_
  subst hs
  cases rv
  obtain ⟨_, u, hu2, ru⟩ := s2.opn a _ ho
  have ru : u = exo a C none := ru
  subst ru
  exact ⟨a, C, [w], rfl, by show 1 ≤ 1000; decide, hX.K ▸ T, hu2, .non, F2, O2, e1.trans x2, s2, rep_non, q⟩
/-- self.f = e, the first field -/
theorem ws_ost (h : We Γ e ρ O fun d O1 => We Γ o ρ O1 fun s O2 => ∃ a C, s = .raw (.ref a) ∧ OexC Γ.M.K C ∧ PySem.W.findIn Γ.M.K (.ref C) f = some none ∧ O2 a = some (.exo a C none) ∧ ∀ dx, O2 dx = none → dx ≠ a → Z.nx ρ ((O2.up dx (.exd dx [f] [d])).up a (.exo a C (some dx))))
    (hs : ∀ env, env.scope = Γ.sc → swapsWith e (some (.Attribute o f p')) pos.line env = pure false := by intro _ _; rfl) : WS Γ (.Assign [.Attribute o f p'] e pos) ρ O Z := fun F σ H e0 s r X hX pins st I => by
  refine (ps_ost (Ev.pe hX o) (Ev.pe hX e) (hs X.env hX.sc)).run pins st σ H _ I ?_
  refine (h F σ H e0 s r).mono fun v H1 ⟨dv, F1, O1, e1, s1, rv, q1⟩ => (q1 F1 σ H1 (e0.trans e1) s1 (r.mono e1)).mono fun w H2 ⟨dw, F2, O2, x2, s2, rw', a, C, hd, T, no, ho, q⟩ => ?_
  subst hd
  cases rw'
  obtain ⟨_, u, hu2, ru⟩ := s2.opn a _ ho
  have ru : u = exo a C none := ru
  subst ru
  refine ⟨a, C, rfl, hX.K ▸ T, hX.K ▸ no, .inl ⟨hu2, fun dx n ne => ?_⟩⟩
  have S3 := s2.open_ (u := .exd dx [f] [dv]) n ⟨[v], rfl, rfl, Reps.cons (rv.mono x2) Reps.nil⟩
  have S4 := S3.change (p := a) (w := .exo a C none) (u := .exo a C (some dx)) (o := exo a C (some dx)) (by rw [Opens.up_ne (Ne.symm ne)]; exact ho) rfl
  exact ks (e1.trans x2) S4 (r.mono (e1.trans x2)) (q dx (s2.closed n) ne)
end
end DL

/-! DLM: dicts that are open: written, stored in, asked. -/
namespace DL
open PySem PySem.Spec PyProof.Rows L2
def putKs (ks : List Key) (k : Key) : List Key := if (ks.any fun x => decide (x = k)) = true then ks else ks ++ [k]
def putVs {α : Type} (ks : List Key) (vs : List α) (k : Key) (v : α) : List α := if (ks.any fun x => decide (x = k)) = true then List.zipWith (fun x y => if x = k then v else y) ks vs else vs ++ [v]
theorem any_zip {ks : List Key} {vs : List V} {k : Key} : ks.length = vs.length → (ks.zip vs).any (fun kv => decide (kv.1 = k)) = ks.any fun x => decide (x = k) := by
  induction ks generalizing vs with
  | nil => intro _; rfl
  | cons a ks ih =>
    intro h
    match vs, h with
    | v :: vs, h =>
      rw [List.zip_cons_cons, List.any_cons, List.any_cons, ih (by simpa using h)]
theorem map_zip {ks : List Key} {vs : List V} {k : Key} {v : V} : ks.length = vs.length → (ks.zip vs).map (fun kv => if kv.1 = k then (kv.1, v) else kv) = ks.zip (List.zipWith (fun x y => if x = k then v else y) ks vs) := by
  induction ks generalizing vs with
  | nil => intro _; rfl
  | cons a ks ih =>
    intro h
    match vs, h with
    | u :: vs, h =>
      rw [List.zip_cons_cons, List.map_cons, ih (by simpa using h), List.zipWith_cons_cons, List.zip_cons_cons]
      by_cases e : a = k
      · rw [if_pos e, if_pos e]
      · rw [if_neg e, if_neg e]
theorem put_zip {ks : List Key} {vs : List V} {k : Key} {v : V} (h : ks.length = vs.length) : putK (ks.zip vs) k v = (putKs ks k).zip (putVs ks vs k v) := by
  unfold putK putKs putVs
  rw [any_zip h]
  split
  · rw [map_zip h]
  · rw [List.zip_append h]; rfl
theorem put_len {α : Type} {ks : List Key} {vs : List α} {k : Key} {v : α} (h : ks.length = vs.length) : (putKs ks k).length = (putVs ks vs k v).length := by
  unfold putKs putVs
  split
  · rw [List.length_zipWith, h, Nat.min_self]
  · rw [List.length_append, List.length_append, h]; rfl
theorem reps_zip {K : PySem.W.Frag} {F : Fr} {d : D} {v : V} {k : Key} (r : Rep K F d v) : ∀ {ks : List Key} {ds : List D} {vs : List V}, Reps K F ds vs → Reps K F (List.zipWith (fun x y => if x = k then d else y) ks ds) (List.zipWith (fun x y => if x = k then v else y) ks vs)
  | [], _, _, _ => rfl
  | _ :: _, [], vs, h => by cases (show vs = [] from h); rfl
  | a :: ks, e :: ds, vs, h => by
    obtain ⟨u, t, rfl, h1, h2⟩ := h
    rw [List.zipWith_cons_cons, List.zipWith_cons_cons]
    refine Reps.cons ?_ (reps_zip r h2)
    by_cases c : a = k
    · rw [if_pos c, if_pos c]; exact r
    · rw [if_neg c, if_neg c]; exact h1
theorem reps_put {K : PySem.W.Frag} {F : Fr} {d : D} {v : V} {k : Key} {ks : List Key} {ds : List D} {vs : List V} (r : Rep K F d v) (h : Reps K F ds vs) : Reps K F (putVs ks ds k d) (putVs ks vs k v) := by
  unfold putVs
  split
  · exact reps_zip r h
  · exact h.append (Reps.cons r Reps.nil)
theorem put_has {ks : List Key} {k : Key} : ((putKs ks k).any fun x => decide (x = k)) = true := by
  unfold putKs
  split
  · rename_i h; exact h
  · rw [List.any_append, List.any_cons, decide_eq_true rfl, Bool.true_or, Bool.or_true]
theorem put_le {ks : List Key} {k : Key} : (putKs ks k).length ≤ ks.length + 1 := by
  unfold putKs
  split
  · omega
  · rw [List.length_append]; exact Nat.le_refl _
section
variable {Γ : G} {ρ : Env'} {O : Opens} {Z : EndsD} {Q : DK} {x : Str} {o e i a b : Expr} {pos p : Pos}
theorem Stt.dict {K : PySem.W.Frag} {F : Fr} {H : Hp} (S : Stt K F O H) {q : Addr} {ks : List Key} {ds : List D} (h : O q = some (.dic ks ds)) : ∃ vs, H q = some (.dK (ks.zip vs)) ∧ ks.length = ds.length ∧ Reps K F ds vs := by
  obtain ⟨_, ho, h2, vs, rfl, h3, h4⟩ := S.opn q _ h
  exact ⟨vs, h2, h3, h4⟩
/-- {k: e}, k a text; left open -/
theorem we_dic1 (h : ∀ q, O q = none → We Γ i ρ (O.up q (.dic [] [])) fun dk O1 => We Γ e ρ O1 fun dv O2 => ∃ z, dk = .str z ∧ O2 q = some (.dic [] []) ∧ Q (.raw (.ref q)) (O2.up q (.dic [.inr z] [dv]))) : We Γ (.Dict [some i] [e] pos) ρ O Q := fun F σ H e0 s r X hX pins st I => by
  refine (pe_disp (pps_cons (Ev.pe hX i) (Ev.pe hX e) pps_nil) rfl rfl (fun z => nomatch z) (by show 1 ≤ 15; decide)).run pins st σ H _ I fun q hq => ?_
  have S1 := s.open_ (u := .dic [] []) hq ⟨[], rfl, rfl, rfl⟩
  refine (h q (s.closed hq) F σ _ e0 S1 r).mono fun v H1 ⟨dk, F1, O1, e1, s1, r1, q1⟩ => (q1 F1 σ H1 (e0.trans e1) s1 (r.mono e1)).mono fun w H2 ⟨dv, F2, O2, e2, s2, r2, z, hk, ho, q2⟩ => ?_
  subst hk
  cases r1
  obtain ⟨vs, g1, g2, g3⟩ := s2.dict ho
  cases (show vs = [] from g3)
  refine ⟨g1, [(.inr z, w)], rfl, by show 1 ≤ 15; decide, ?_⟩
  exact ⟨.raw (.ref q), F2, O2.up q (.dic [.inr z] [dv]), e1.trans e2, s2.change ho ⟨[w], rfl, rfl, Reps.cons r2 Reps.nil⟩, rep_raw, q2⟩
/-- d[k] = v, the dict open, k a text -/
theorem wg_subD {d : D} {Q : Env' → Opens → Prop} (h : We Γ o ρ O fun y O1 => We Γ i ρ O1 fun k O2 => ∃ q ks ds z, y = .raw (.ref q) ∧ k = .str z ∧ O2 q = some (.dic ks ds) ∧ ks.length < sizeLine ∧ Q ρ (O2.up q (.dic (putKs ks (.inr z)) (putVs ks ds (.inr z) d))))
    (ha : ∀ env v, assign (.Subscript o i pos) env v = (do let ov ← holding [v] (eval o env); let iv ← holding [v, ov] (eval i env); standAt pos; holding [v, ov, iv] (setItem ov iv v); release [v, ov, iv] []) := by intro _ _; rfl) : WG Γ (.Subscript o i pos) d ρ O Q := fun F σ H v e0 s r rv X hX pins st u I ru => by
  refine (pg_sub (Ev.pe hX o) (Ev.pe hX i) (set_dict (by have := hX.units; omega)) (ha X.env)).run pins st σ H v u _ I ru ((h F σ H e0 s r).mono fun y H1 ⟨dy, F1, O1, e1, s1, ry, q1⟩ => ?_)
  refine (q1 F1 σ H1 (e0.trans e1) s1 (r.mono e1)).mono fun k H2 ⟨dk, F2, O2, e2, s2, rk, q, ks, ds, z, hy, hk, ho, hz, q2⟩ => ?_
  subst hy hk
  cases ry; cases rk
  obtain ⟨vs, g1, g2, g3⟩ := s2.dict ho
  have e := e1.trans e2
  have hl : ks.length = vs.length := by rw [g2, g3.length]
  refine ⟨q, _, rfl, DPut.k (k := .inr z) g1 (by rw [List.length_zip, ← hl, Nat.min_self]; exact hz), ks_ e ?_ (r.mono e) q2⟩
  rw [put_zip hl]
  exact s2.change ho ⟨_, rfl, put_len g2, reps_put (rv.mono e) g3⟩
where ks_ {F F' : Fr} {ρ' : Env'} {O' : Opens} {σ : L2.St} {H : Hp} {Q : Env' → Opens → Prop} (e : Ext F F') (s : Stt Γ.M.K F' O' H) (r : EnvR Γ.M.K F' ρ' σ) (q : Q ρ' O') : KS Γ F Q σ H := ⟨ρ', F', O', e, s, r, q⟩
theorem val_zip {ks : List Key} {vs : List V} {k : Key} : ks.length = vs.length → (valV (ks.zip vs) k).isSome = ks.any fun x => decide (x = k) := by
  induction ks generalizing vs with
  | nil => intro _; rfl
  | cons a ks ih =>
    intro h
    match vs, h with
    | u :: vs, h =>
      rw [List.zip_cons_cons, List.any_cons]
      by_cases e : a = k
      · rw [valV_pos (p := (a, u)) e, decide_eq_true e]; rfl
      · have e2 : valV ((a, u) :: ks.zip vs) k = valV (ks.zip vs) k := by
          unfold valV
          rw [List.find?_cons, decide_eq_false e]
        rw [e2, ih (by simpa using h), decide_eq_false e, Bool.false_or]
/-- z in d, the dict open -/
theorem we_inD (h : We Γ a ρ O fun y O1 => We Γ b ρ O1 fun y2 O2 => ∃ q ks ds z, y2 = .raw (.ref q) ∧ y = .str z ∧ O2 q = some (.dic ks ds) ∧ Q (.bl (ks.any fun x => decide (x = .inr z))) O2) (hm : behindInMarks .In b = false := by first | exact nomark _ | rfl | with_unfolding_all rfl) : We Γ (.Compare a [.In] [b] pos) ρ O Q := fun F σ H e0 s r X hX pins st I => by
  refine (pe_cmp (pc_din (by have := hX.units; omega) (Ev.pe hX a) (Ev.pe hX b)) hm).run pins st σ H _ I ((h F σ H e0 s r).mono fun y H1 ⟨dy, F1, O1, e1, s1, ry, q1⟩ => ?_)
  refine (q1 F1 σ H1 (e0.trans e1) s1 (r.mono e1)).mono fun k H2 ⟨dk, F2, O2, e2, s2, rk, q, ks, ds, z, hy, hk, ho, q2⟩ => ?_
  subst hy hk
  cases ry; cases rk
  obtain ⟨vs, g1, g2, g3⟩ := s2.dict ho
  refine ⟨q, valV (ks.zip vs) (.inr z), rfl, DGet.k (k := .inr z) g1, kv1 (e1.trans e2) s2 rep_bl ?_⟩
  rw [val_zip (by rw [g2, g3.length])]
  exact q2
/-- len of an open dict -/
def LenDQ : DC := fun ds O Q => ∃ q ks es, ds = [.raw (.ref q)] ∧ O q = some (.dic ks es) ∧ Q (.int ks.length) O
theorem lend_ok {X : Cx} : CallD Γ X (.builtin "len") LenDQ := by
  intro F O ds Q pins s σ H vs us I rv e0 S rd ⟨q, ks, es, e, ho, q2⟩
  subst e
  obtain ⟨v, rfl, r⟩ := reps1 rd
  cases r
  obtain ⟨ws, g1, g2, g3⟩ := S.dict ho
  refine call_lenD pins s σ H _ _ _ I rv ⟨q, ks.zip ws, rfl, g1, kv S rep_int ?_⟩
  rw [List.length_zip, g2, ← g3.length, Nat.min_self, ← g2]
  exact q2
theorem we_lenD (B : Blt Γ.M) (hg : GlN Γ "len") (h : We Γ e ρ O fun d O1 => LenDQ [d] O1 Q) (h1 : ∀ env, starEach [e] env = (false, eval e env) :: starEach [] env := by intro _; rfl) : We Γ (.Call (.Name "len" p) [e] [] pos) ρ O Q :=
  we_blt (fun X hX => lend_ok) hg B.len PySem.boot_len (one_arg h h1) (he := h1)
end
end DL

/-! DLN: calls of a function that was taken from a list. -/
namespace DL
open PySem PySem.Spec PyProof.Rows L2
section
variable {Γ : G} {ρ : Env'} {O : Opens} {Q : DK}
/-- a value that is a def -/
def IsDef (Γ : G) (d : D) (sp : SpD) : Prop := ∃ (x : Str) (st : Stmt) (ps : List Str) (k : Nat) (f : Addr), d = .raw (.ref f) ∧ Γ.M.mg x = some (.ref f) ∧ DefD Γ.M x st ps k sp ∧ k ≤ Γ.k
theorem we_callS {o i e : Expr} {es : List Expr} {p1 pos : Pos} (hh : Γ.hot = false) (h : We Γ (.Subscript o i p1) ρ O fun d O1 => ∃ sp, IsDef Γ d sp ∧ WA Γ (e :: es) ρ O1 fun ds O2 => sp ds O2 Q fun x O3 => Γ.E x ρ O3)
    (h2 : ∀ env, starEach (e :: es) env = (false, eval e env) :: starEach es env := by intro _; rfl) (h3 : ∀ env, (backTo pos (starEach es env)).any (·.1) = false := by intro _; rfl) : We Γ (.Call (.Subscript o i p1) (e :: es) [] pos) ρ O Q := fun F σ H e0 s r X hX pins sh I => by
  have arm : eval (.Call (.Subscript o i p1) (e :: es) [] pos) X.env = (do callWith pos (← eval (.Subscript o i p1) X.env) [] (backTo pos (starEach (e :: es) X.env)) (backToKw pos (keywordEach [] X.env))) := rfl
  rw [arm]
  refine wpAny_bind ?_
  refine thn (h F σ H e0 s r X hX pins sh I) fun v s1 ⟨w, H1, I1, rv, d, F1, O1, e1, t1, r1, sp, ⟨x, st, ps, k, f, ed, hm, hd, hk⟩, wa⟩ => ?_
  subst ed
  obtain ⟨f', fd, g1, g2, g3⟩ := hX.def_ hd
  have ef : f' = f := by rw [← hX.mg, hm] at g1; cases g1; rfl
  subst ef
  have ew : w = .ref f' := r1
  subst ew
  have ev : v = .ref f' := rv
  subst ev
  refine PySem.W.callWith_K (first := []) (h₀ := X.base) I1.ok.mod.kin g2.kp (thn ((EvA.pa hX _).run pos pins s1 σ H1 _ I1 (wa F1 σ H1 (e0.trans e1) t1 (r.mono e1))) fun us s2 ⟨vs, H2, I2, ru, ds, F2, O2, e2, t2, r2, q⟩ => ⟨I2.kIn, ?_⟩) (h2 X.env) (h3 X.env)
  exact run_fnS (E := L2.WE Γ.W) g3 ((hX.room hh).mono hk) (g2.binds hd.bd) (passAt hX.takes σ) I2 ru (lift_call hX e0 (e1.trans e2) t2 r r2 q)
end
end DL

/-! DLO: set(xs) of ints, sorted(set(xs)), any number of them. -/
namespace DL
open PySem PySem.Spec PyProof.Rows L2
section
variable {prog : Program} {w : World} {A : Around} {R : Result → Shared → Prop} {I : Addr} {fp wr : List Addr} {G : Array GenState → Array GenState → Prop} {n : Nat} {P : Nat → Value → Prop} {St : Nat → Shared → Prop}
/-- a set of ints at a, its members told by a list -/
def SetL (w : World) (h : Heap) (a : Addr) (ns : List Int) (i : Nat) : Prop := ∃ m, m ≤ i ∧ SetR w h a (fun j => decide (j ∈ ns)) m
theorem SetL.at {h h' : Heap} {a : Addr} {ns : List Int} {i : Nat} (x : SetL w h a ns i) (k : ∀ o, h.get? a = some o → h'.get? a = some o) : SetL w h' a ns i := by
  obtain ⟨m, hm, r⟩ := x
  exact ⟨m, hm, r.at k⟩
theorem set_loop (W : WalksS prog w A.in1 I fp wr G n P St) (S : Addr) (hSf : S ∉ fp) (ns : List Int) (hn : ns.length = n)
    (hval : ∀ i v, P i v → ∃ t, v = .int (ns.getD i 0) t) (hb : n + 1 < scanBound) :
    ∀ (k i : Nat) (s : Shared), n - i = k → i ≤ n → St i s → SetL w s.heap S (ns.take i) i →
      (∀ s', Moved (S :: wr) G s s' → SetL w s'.heap S ns n → R (.ok (.ret .none)) s') →
      codeAny (model prog w) A (.builtin "set.update.loop" ⟨[.ref S, .ref I], []⟩) R s := by
  have hSw : S ∉ wr := fun h => hSf (W.sub _ h)
  have hsub : ∀ b ∈ wr, b ∈ S :: wr := fun b hb => List.mem_cons_of_mem _ hb
  intro k
  induction k with
  | zero =>
    intro i s hk hi hst hS hR
    have hin : i = n := by omega
    subst hin
    refine codeAny_builtin F.entry_set_update_loop ?_
    rw [Around.under_plainId F.plain_set_update_loop _]
    show wpAny _ A.in1 (pyNext (.ref I) >>= _) _ _ s
    refine wpAny_bind (W.done s _ _ hst fun s' hm => ?_)
    show wpAny _ A.in1 (ret Value.none) _ _ s'
    rw [← hn, List.take_length, hn] at hS
    exact wpAny_pure (hR s' (hm.mono hsub) (hS.at fun o ho => hm.heap S _ hSw ho))
  | succ k ih =>
    intro i s hk hi hst hS hR
    have hlt : i < n := by omega
    refine codeAny_builtin F.entry_set_update_loop ?_
    rw [Around.under_plainId F.plain_set_update_loop _]
    show wpAny _ A.in1 (pyNext (.ref I) >>= _) _ _ s
    refine wpAny_bind (W.item i s _ _ hlt hst fun v s' hP hst' hm => ?_)
    obtain ⟨t, rfl⟩ := hval i v hP
    have hS' : SetL w s'.heap S (ns.take i) i := hS.at fun o ho => hm.heap S _ hSw ho
    obtain ⟨m, hmi, hS1⟩ := hS'
    show wpAny _ A.in1 (holding [Value.int (ns.getD i 0) t] (setAdd S (.int (ns.getD i 0) t)) >>= _) _ _ s'
    refine wpAny_bind (wpAny_holding ?_)
    unfold setAdd
    refine wpAny_holding ?_
    refine wpAny_bind ((intKind prog w).pyHash (k := ns.getD i 0) (intKind_is _ _ _ _) ?_)
    refine setR_add_hashed (s := { s' with toks := s'.toks + 1 }) hS1 (by omega) fun h' hsb hS2 => ?_
    have hSi : SetL w h' S (ns.take (i + 1)) (i + 1) := by
      refine ⟨_, ?_, hS2.congr fun j => ?_⟩
      · split <;> omega
      · have e : ns.take (i + 1) = ns.take i ++ [ns.getD i 0] := by
          rw [List.take_add_one, List.getElem?_eq_getElem (by omega), List.getD_eq_getElem?_getD, List.getElem?_eq_getElem (by omega)]; rfl
        rw [e, Bool.eq_iff_iff]
        simp only [decide_eq_true_eq, List.mem_append, List.mem_singleton, Bool.or_eq_true]
    refine wpAny_pure ⟨plainId_quiet F.plain_set_update_loop _, ih (i + 1) _ (by omega) hlt (W.frame _ s' _ _ hst' (Nat.le_succ _) fun b hb o e => ?_) hSi fun s'' hm'' hS'' => ?_⟩
    · rw [hsb.2 b (fun h : b = S => hSf (by rw [← h]; exact hb))]; exact e
    · refine hR s'' (Moved.trans W.gtrans ((hm.mono hsub).then_heap (Nat.le_succ _) fun b o hb e => ?_) hm'') hS''
      rw [hsb.2 b (fun h : b = S => hb (by rw [h]; exact List.mem_cons_self))]; exact e
end
section
variable {prog : Program} {w : World} {A : Around} {E : Value → Shared → Prop} {s : Shared}
theorem code_set_led1 (a : Value) {Q₁ : Value → Shared → Prop}
    (h : Q₁ (.ref s.heap.objs.size) { s with heap := s.heap.push { cls := .type "set", dict := none, data := .set #[] 0 (.fresh 0 0 (!w.params.followText "set-order")) } }) :
    codeAny (model prog w) A (.call (.builtin "set.__new__") ⟨[.type "set", a], []⟩) (wants Q₁ E) s := by
  refine codeAny_of_tree ?_
  show wpAny _ A.in1 (do checkBuiltinCall "set.__new__" ⟨[.type "set", a], []⟩; again (.builtin "set.__new__" ⟨[.type "set", a], []⟩)) _ _ s
  refine wpAny_bind (wpAny_of_eq (F.newCall_set_1 a) (wpAny_pure ⟨plainId_quiet F.plain_set_new _, codeAny_builtin F.entry_set_new ?_⟩))
  rw [Around.under_plainId F.plain_set_new _]
  unfold Builtin.«set.__new__» Builtin.Frozenset.newClass
  have hsub := sub_set_self
  obtain ⟨hp, g, d, tk, os⟩ := s
  dsimp only
  wp_walk
  refine wpAny_askSetting (wpAny_pure ?_)
  dsimp only
  simp only [newObj]
  refine wpAny_bind (wpAny_alloc (wpAny_pure ?_))
  exact wpAny_pure h

set_option maxRecDepth 100000 in
set_option maxHeartbeats 3200000 in
theorem setR_list {l : Addr} {items : Array Value} {ns : List Int} {Q : Value → Shared → Prop}
    (hh : A.handled = none) (hl : s.heap.IsList l items) (hi : IntsAre items.toList ns) (hb : items.size + 1 < scanBound)
    (h : ∀ (h' : Heap) (tk : Nat), s.toks ≤ tk → SetL w h' s.heap.objs.size ns ns.length →
      (∀ b o, s.heap.get? b = some o → h'.get? b = some o) → Q (.ref s.heap.objs.size) { s with heap := h', toks := tk }) :
    wpAny (model prog w) A (call (.type "set") [.ref l]) Q E s := by
  have hlen : ns.length = items.size := by rw [← IntsAre.length hi, Array.length_toList]
  obtain ⟨c, tl, hmro⟩ := F.called_set.mro
  have hmade := F.called_set.made
  have hsub := F.called_set.sub
  refine wpAny_call (codeAny_of_tree ?_)
  show wpAny _ _ (callAny (.type "set") _) _ _ _
  refine wpAny_pure ⟨Code.quiet_builtin _ (by decide +kernel), codeAny_builtin F.entry_type_call ?_⟩
  rw [Around.under_plain (weight_type_call_type "set" [.ref l] []) rfl]
  have h1 := F.called_set.notType
  have h2 := F.called_set.canCreate
  have hct := F.typeCall_set_1 (.ref l)
  repeat (any_goals (first | assumption | wp_step))
  refine codeAny_mono (code_set_led1 (.ref l) (E := E) (Q₁ := fun obj s₁ => obj = .ref s.heap.objs.size ∧ s₁ = { s with heap := s.heap.push { cls := .type "set", dict := none, data := .set #[] 0 (.fresh 0 0 (!w.params.followText "set-order")) } }) ⟨rfl, rfl⟩) fun r s₁ hr => ?_
  cases r with
  | error e => exact hr
  | ok fl =>
    cases fl with
    | ret obj =>
      obtain ⟨rfl, rfl⟩ := hr
      have hR0 := setR_fresh (h := s.heap) w
      have hS : (s.heap.push { cls := .type "set", dict := none, data := .set #[] 0 (.fresh 0 0 (!w.params.followText "set-order")) }).get? s.heap.objs.size = some { cls := .type "set", dict := none, data := .set #[] 0 (.fresh 0 0 (!w.params.followText "set-order")) } := Heap.get?_push_size _ rfl
      generalize (!w.params.followText "set-order") = led at hR0 hS ⊢
      have hT : Shared.TypeIs { s with heap := s.heap.push { cls := .type "set", dict := none, data := .set #[] 0 (.fresh 0 0 led) } } (.ref s.heap.objs.size) "set" := ⟨_, hS, rfl⟩
      have hli := F.called_set.init.lookup
      have hbi := F.called_set.init.bind (.ref s.heap.objs.size)
      repeat (any_goals (first | assumption | wp_step))
      refine codeAny_mono (codeAny_call_builtin (R := wants (fun r s₂ => r = .none ∧ ∃ h' tk, s.toks ≤ tk ∧ s₂ = { s with heap := h', toks := tk } ∧
          SetL w h' s.heap.objs.size ns ns.length ∧
          (∀ b o, s.heap.get? b = some o → h'.get? b = some o)) E) F.called_set.init.plain F.entry_set_init (check_set_init_1 hT ?_)) fun r₂ s₂ hr₂ => ?_
      · obtain ⟨ol, hol, hcl, nl, hdl⟩ := hl
        obtain ⟨ocls, odict, odata, oslots⟩ := ol
        simp only at hcl hdl
        subst hcl; subst hdl
        have hol' : (s.heap.push { cls := .type "set", dict := none, data := .set #[] 0 (.fresh 0 0 led) }).get? l = some { cls := .type "list", dict := odict, data := .seq items nl, slots := oslots } := Heap.get?_push_of_some _ hol
        have hsls := F.sub_list_set
        have hslf := F.sub_list_frozenset
        have hne : (Value.type "list" == Value.type "dict") = false := by decide
        have hl1 : (s.heap.push { cls := .type "set", dict := none, data := .set #[] 0 (.fresh 0 0 led) }).IsList l items := ⟨_, hol', rfl, nl, rfl⟩
        unfold Builtin.«set.__init__» noKeywords Builtin.Frozenset.updateFrom
        generalize hPI : pyIter = PI
        wp_walk
        subst hPI
        refine wpAny_pyIter_list hl1 ?_
        refine wpAny_bind (wpAny_runValue ?_)
        have hlS : l < s.heap.objs.size := Heap.lt_size hol
        have hh3 : A.in1.in1.in1.handled = none := by simp [hh]
        have hneI : l ≠ (s.heap.push { cls := .type "set", dict := none, data := .set #[] 0 (.fresh 0 0 led) }).objs.size := by
          rw [Heap.size_push]; exact Nat.ne_of_lt (Nat.lt_succ_of_lt hlS)
        have hSf : s.heap.objs.size ∉ [(s.heap.push { cls := .type "set", dict := none, data := .set #[] 0 (.fresh 0 0 led) }).objs.size, l] := by
          rw [Heap.size_push]; simp only [List.mem_cons, List.mem_singleton, List.not_mem_nil, or_false, not_or]
          exact ⟨Nat.ne_of_lt (Nat.lt_succ_self _), Nat.ne_of_gt hlS⟩
        have hval : ∀ (i : Nat) (v : Value), items[i]? = some v → ∃ t, v = .int (ns.getD i 0) t := fun i v hv =>
          PyProof.Rows.IntsAre.int_at hi i v (by rw [Array.getElem?_toList]; exact hv)
        refine set_loop ((Walks.list hh3 _ l hneI items).toS) s.heap.objs.size
          hSf ns hlen hval hb (items.size - 0) 0 _ (by omega) (Nat.zero_le _)
          ⟨⟨_, Heap.get?_push_size _ rfl, rfl, rfl⟩, (hl1.push _)⟩ ?hS0 ?hR
        case hS0 =>
          exact ⟨0, Nat.le_refl _, SetR.congr (hR0.at fun o e => Heap.get?_push_of_some _ e) fun k => rfl⟩
        case hR =>
          intro s' hm hS'
          obtain ⟨h', g', d', tk', os'⟩ := s'
          have eg : g' = s.gens := hm.gens
          have ed : d' = s.drawn := hm.drawn
          have eo : os' = s.os := hm.os
          have et : s.toks ≤ tk' := hm.toks
          subst eg; subst ed; subst eo
          show wpAny _ _ _ _ _ _
          refine wpAny_pure ?_
          show wpAny _ _ (ret Value.none) _ _ _
          refine wpAny_pure ⟨rfl, h', tk', et, rfl, hlen ▸ hS', fun b o e => ?_⟩
          have hb : b < s.heap.objs.size := Heap.lt_size e
          have hb1 : b ≠ s.heap.objs.size := Nat.ne_of_lt hb
          have hb2 : b ≠ (s.heap.push { cls := .type "set", dict := none, data := .set #[] 0 (.fresh 0 0 led) }).objs.size := by
            rw [Heap.size_push]; exact Nat.ne_of_lt (Nat.lt_succ_of_lt hb)
          exact hm.heap b o (by simp only [List.mem_cons, List.mem_singleton, List.not_mem_nil, or_false, not_or]; exact ⟨hb1, hb2⟩) (Heap.get?_push_of_some _ (Heap.get?_push_of_some _ e))
      · cases r₂ with
        | error e => exact hr₂
        | ok fl₂ =>
          cases fl₂ with
          | ret r =>
            obtain ⟨rfl, h', tk, ht, rfl, hS', hk'⟩ := hr₂
            repeat (any_goals (first | assumption | wp_step))
            exact h _ _ ht hS' hk'
          | _ => exact hr₂.elim
    | _ => exact hr.elim

set_option maxRecDepth 100000 in
set_option maxHeartbeats 3200000 in
theorem setR_tuple {l : Addr} {items : Array Value} {ns : List Int} {Q : Value → Shared → Prop}
    (hh : A.handled = none) (hl : s.heap.IsTuple l items) (hi : IntsAre items.toList ns) (hb : items.size + 1 < scanBound)
    (h : ∀ (h' : Heap) (tk : Nat), s.toks ≤ tk → SetL w h' s.heap.objs.size ns ns.length →
      (∀ b o, s.heap.get? b = some o → h'.get? b = some o) → Q (.ref s.heap.objs.size) { s with heap := h', toks := tk }) :
    wpAny (model prog w) A (call (.type "set") [.ref l]) Q E s := by
  have hlen : ns.length = items.size := by rw [← IntsAre.length hi, Array.length_toList]
  obtain ⟨c, tl, hmro⟩ := F.called_set.mro
  have hmade := F.called_set.made
  have hsub := F.called_set.sub
  refine wpAny_call (codeAny_of_tree ?_)
  show wpAny _ _ (callAny (.type "set") _) _ _ _
  refine wpAny_pure ⟨Code.quiet_builtin _ (by decide +kernel), codeAny_builtin F.entry_type_call ?_⟩
  rw [Around.under_plain (weight_type_call_type "set" [.ref l] []) rfl]
  have h1 := F.called_set.notType
  have h2 := F.called_set.canCreate
  have hct := F.typeCall_set_1 (.ref l)
  repeat (any_goals (first | assumption | wp_step))
  refine codeAny_mono (code_set_led1 (.ref l) (E := E) (Q₁ := fun obj s₁ => obj = .ref s.heap.objs.size ∧ s₁ = { s with heap := s.heap.push { cls := .type "set", dict := none, data := .set #[] 0 (.fresh 0 0 (!w.params.followText "set-order")) } }) ⟨rfl, rfl⟩) fun r s₁ hr => ?_
  cases r with
  | error e => exact hr
  | ok fl =>
    cases fl with
    | ret obj =>
      obtain ⟨rfl, rfl⟩ := hr
      have hR0 := setR_fresh (h := s.heap) w
      have hS : (s.heap.push { cls := .type "set", dict := none, data := .set #[] 0 (.fresh 0 0 (!w.params.followText "set-order")) }).get? s.heap.objs.size = some { cls := .type "set", dict := none, data := .set #[] 0 (.fresh 0 0 (!w.params.followText "set-order")) } := Heap.get?_push_size _ rfl
      generalize (!w.params.followText "set-order") = led at hR0 hS ⊢
      have hT : Shared.TypeIs { s with heap := s.heap.push { cls := .type "set", dict := none, data := .set #[] 0 (.fresh 0 0 led) } } (.ref s.heap.objs.size) "set" := ⟨_, hS, rfl⟩
      have hli := F.called_set.init.lookup
      have hbi := F.called_set.init.bind (.ref s.heap.objs.size)
      repeat (any_goals (first | assumption | wp_step))
      refine codeAny_mono (codeAny_call_builtin (R := wants (fun r s₂ => r = .none ∧ ∃ h' tk, s.toks ≤ tk ∧ s₂ = { s with heap := h', toks := tk } ∧
          SetL w h' s.heap.objs.size ns ns.length ∧
          (∀ b o, s.heap.get? b = some o → h'.get? b = some o)) E) F.called_set.init.plain F.entry_set_init (check_set_init_1 hT ?_)) fun r₂ s₂ hr₂ => ?_
      · obtain ⟨ol, hol, hcl, nl, hdl⟩ := hl
        obtain ⟨ocls, odict, odata, oslots⟩ := ol
        simp only at hcl hdl
        subst hcl; subst hdl
        have hol' : (s.heap.push { cls := .type "set", dict := none, data := .set #[] 0 (.fresh 0 0 led) }).get? l = some { cls := .type "tuple", dict := odict, data := .seq items nl, slots := oslots } := Heap.get?_push_of_some _ hol
        have hsls := F.sub_tuple_set
        have hslf := F.sub_tuple_frozenset
        have hne : (Value.type "tuple" == Value.type "dict") = false := by decide
        have hl1 : (s.heap.push { cls := .type "set", dict := none, data := .set #[] 0 (.fresh 0 0 led) }).IsTuple l items := ⟨_, hol', rfl, nl, rfl⟩
        unfold Builtin.«set.__init__» noKeywords Builtin.Frozenset.updateFrom
        generalize hPI : pyIter = PI
        wp_walk
        subst hPI
        refine wpAny_pyIter_tuple hl1 ?_
        refine wpAny_bind (wpAny_runValue ?_)
        have hlS : l < s.heap.objs.size := Heap.lt_size hol
        have hh3 : A.in1.in1.in1.handled = none := by simp [hh]
        have hneI : l ≠ (s.heap.push { cls := .type "set", dict := none, data := .set #[] 0 (.fresh 0 0 led) }).objs.size := by
          rw [Heap.size_push]; exact Nat.ne_of_lt (Nat.lt_succ_of_lt hlS)
        have hSf : s.heap.objs.size ∉ [(s.heap.push { cls := .type "set", dict := none, data := .set #[] 0 (.fresh 0 0 led) }).objs.size, l] := by
          rw [Heap.size_push]; simp only [List.mem_cons, List.mem_singleton, List.not_mem_nil, or_false, not_or]
          exact ⟨Nat.ne_of_lt (Nat.lt_succ_self _), Nat.ne_of_gt hlS⟩
        have hval : ∀ (i : Nat) (v : Value), items[i]? = some v → ∃ t, v = .int (ns.getD i 0) t := fun i v hv =>
          PyProof.Rows.IntsAre.int_at hi i v (by rw [Array.getElem?_toList]; exact hv)
        refine set_loop ((Walks.tuple hh3 _ l hneI items).toS) s.heap.objs.size
          hSf ns hlen hval hb (items.size - 0) 0 _ (by omega) (Nat.zero_le _)
          ⟨⟨_, Heap.get?_push_size _ rfl, rfl, rfl⟩, (hl1.push _)⟩ ?hS0 ?hR
        case hS0 =>
          exact ⟨0, Nat.le_refl _, SetR.congr (hR0.at fun o e => Heap.get?_push_of_some _ e) fun k => rfl⟩
        case hR =>
          intro s' hm hS'
          obtain ⟨h', g', d', tk', os'⟩ := s'
          have eg : g' = s.gens := hm.gens
          have ed : d' = s.drawn := hm.drawn
          have eo : os' = s.os := hm.os
          have et : s.toks ≤ tk' := hm.toks
          subst eg; subst ed; subst eo
          show wpAny _ _ _ _ _ _
          refine wpAny_pure ?_
          show wpAny _ _ (ret Value.none) _ _ _
          refine wpAny_pure ⟨rfl, h', tk', et, rfl, hlen ▸ hS', fun b o e => ?_⟩
          have hb : b < s.heap.objs.size := Heap.lt_size e
          have hb1 : b ≠ s.heap.objs.size := Nat.ne_of_lt hb
          have hb2 : b ≠ (s.heap.push { cls := .type "set", dict := none, data := .set #[] 0 (.fresh 0 0 led) }).objs.size := by
            rw [Heap.size_push]; exact Nat.ne_of_lt (Nat.lt_succ_of_lt hb)
          exact hm.heap b o (by simp only [List.mem_cons, List.mem_singleton, List.not_mem_nil, or_false, not_or]; exact ⟨hb1, hb2⟩) (Heap.get?_push_of_some _ (Heap.get?_push_of_some _ e))
      · cases r₂ with
        | error e => exact hr₂
        | ok fl₂ =>
          cases fl₂ with
          | ret r =>
            obtain ⟨rfl, h', tk, ht, rfl, hS', hk'⟩ := hr₂
            repeat (any_goals (first | assumption | wp_step))
            exact h _ _ ht hS' hk'
          | _ => exact hr₂.elim
    | _ => exact hr.elim

/-- sorted of a set of ints, any number of them -/
theorem sorted_setAll {S : Int → Bool} {n : Nat} {a : Addr} {Q : Value → Shared → Prop} (R : SetR w s.heap a S n) (hh : A.handled = none)
    (hQ : ∀ s' p (out : Array Value) (c : Nat) (ns : List Int), (∀ b o, s.heap.get? b = some o → s'.heap.get? b = some o) → s'.gens = s.gens → s'.os = s.os → s.heap.objs.size ≤ p →
      s'.heap.get? p = some (seqObj "list" out c) → IntsAre out.toList ns → ns.Pairwise (· < ·) → (∀ k, k ∈ ns ↔ S k = true) → ns.length = n → Q (.ref p) s') :
    wpAny (model prog w) A (call (.builtin "sorted") [.ref a]) Q E s := by
  obtain ⟨o, es, ep, t, ho, hex, hd, g, nd, hm, hb, hf, hn, hr, hl⟩ := R
  refine Calls.call_function_entry kind_sorted plain_sorted entry_sorted (args_sorted1 _) ?_
  unfold Builtin.«sorted»
  refine wpAny_bind (m := checkCount "sorted" 1 1 _) (wpAny_pure ?_)
  refine wpAny_bind (collect_set (A := A.in1) hh ⟨o, ho, hex.1, hd⟩ hf hb hr hl fun s1 vs k1 hz g1 o1 pm => ?_)
  have hvl : vs.length = n := by rw [pm.length_eq, List.length_map, Array.length_toList]; exact hn
  have hsz : vs.length ≤ sizeLine := by
    have : n < scanBound := by rw [← hn]; exact hb
    rw [hvl, sizeLine_eq]; unfold scanBound at this; omega
  have hI : IntsAre vs (vs.map Builtin.Re.reRawOf) := ints_of vs fun v hv => by
    obtain ⟨e, he, q⟩ := List.mem_map.mp (pm.mem_iff.mp hv)
    obtain ⟨k, tk, h1, _⟩ := g e he
    exact ⟨k, tk, by rw [← q]; exact h1⟩
  have pk : (vs.map Builtin.Re.reRawOf).Perm (es.toList.map keyOf) := by
    have q := pm.map Builtin.Re.reRawOf
    rw [List.map_map] at q
    exact q
  refine wpAny_bind (wpAny_newList ?_ hsz)
  have hoL : (s1.heap.push (seqObj "list" vs.toArray 0)).get? s1.heap.objs.size = some (seqObj "list" vs.toArray 0) := Heap.get?_push_size _ rfl
  refine wpAny_bind (wpAny_holding (wpAny_call_entry slot_list_sort ⟨_, hoL, rfl⟩ entry_list_sort (SrtO.list_sort_ord SrtO.swo_int hoL hsz (fun h2 => SrtO.ints_sortable hI h2) fun out h1 h2 => ⟨_, rfl, ?_⟩) (args_list_sort _)))
  obtain ⟨a1, a2, a3⟩ := SrtO.ints_out hI h1 h2
  obtain ⟨c, hc⟩ := sortedHeap_at (vs := vs) (out := out.toArray) hoL
  have pn : (out.map SrtO.iv).Perm (es.toList.map keyOf) := a2.trans pk
  refine wpAny_pure ⟨_, rfl, hQ _ s1.heap.objs.size out.toArray c (out.map SrtO.iv) (fun b u e => ?_) g1 o1 hz hc (by simpa using a1) (lt_of_le_nodup _ a3 (pn.nodup_iff.mpr nd)) (fun k => by rw [pn.mem_iff, ← hm k]) ?_⟩
  · have q := k1 b u e
    have hlt := Heap.lt_size q
    show (sortedHeap (s1.heap.push (seqObj "list" vs.toArray 0)) s1.heap.objs.size vs out.toArray).get? b = some u
    rw [sortedHeap_old (Nat.ne_of_lt hlt) (by rw [size_push']; exact Nat.lt_succ_of_lt hlt)]
    exact Heap.get?_push_of_some _ q
  · rw [pn.length_eq, List.length_map, Array.length_toList]; exact hn
end
end DL

/-! DLP: set(xs), sorted(set(xs)) as rules; comprehensions with a condition that changes what is open. -/
namespace DL
open PySem PySem.Spec PyProof.Rows L2
section
variable {X : Cx}
/-- set(xs), ints -/
def rSetOf (K : PySem.W.Frag) (w : World) : List V → Hp → VK → Prop := fun xs H Q => ∃ (a : Addr) (ns : List Int), xs = [V.ref a] ∧ (SqL K H a (ns.map V.int) ∨ SqT K H a (ns.map V.int)) ∧ ns.length + 1 < scanBound ∧
  ∀ p m, m ≤ ns.length → H p = none → Q (.ref p) (upd H p (SetO w p (fun j => decide (j ∈ ns)) m))
theorem cr_setOf (hc : X.calm = true) : CallR X (.type "set") (rSetOf X.K X.w) := by
  intro pins s σ H xs us Q I r h
  obtain ⟨a, ns, rfl, hs, hb, q⟩ := h
  rw [Vals.ref1 r]
  rcases hs with hs | hs
  · obtain ⟨its, rv, hl, hz⟩ := I.list hs
    have hi := rv.ints
    have hln : its.length = ns.length := by
      have := rv.length
      rw [List.length_map] at this
      simpa using this.symm
    refine setR_list (ns := ns) (I.ok.hd hc) hl.isList (by simpa using hi) (by first | omega | (simp; omega)) fun h' tk ht ⟨m, hm, R⟩ k => ?_
    exact ⟨.ref _, upd H s.heap.objs.size (SetO X.w s.heap.objs.size (fun j => decide (j ∈ ns)) m), I.laid (t' := tk) k (Nat.le_refl _) (setO_new R), rfl, q _ m hm (I.hok.fresh (Nat.le_refl _))⟩
  · obtain ⟨its, rv, hl, hz⟩ := I.tuple hs
    have hi := rv.ints
    have hln : its.length = ns.length := by
      have := rv.length
      rw [List.length_map] at this
      simpa using this.symm
    refine setR_tuple (ns := ns) (I.ok.hd hc) hl (by simpa using hi) (by first | omega | (simp; omega)) fun h' tk ht ⟨m, hm, R⟩ k => ?_
    exact ⟨.ref _, upd H s.heap.objs.size (SetO X.w s.heap.objs.size (fun j => decide (j ∈ ns)) m), I.laid (t' := tk) k (Nat.le_refl _) (setO_new R), rfl, q _ m hm (I.hok.fresh (Nat.le_refl _))⟩
/-- sorted(found), any number of members -/
def rSortedSetA (w : World) : List V → Hp → VK → Prop := fun vs H Q => ∃ (a : Addr) (S : Int → Bool) (n : Nat), vs = [V.ref a] ∧ H a = some (SetO w a S n) ∧ n < scanBound ∧
  ∀ (ns : List Int) (p : Addr), ns.Pairwise (· < ·) → (∀ k : Int, k ∈ ns ↔ S k = true) → ns.length = n → H p = none → Q (.ref p) (upd H p (.lst (ns.map V.int)))
theorem cr_sortedSetA (hc : X.calm = true) : CallR X (.builtin "sorted") (rSortedSetA X.w) := by
  intro pins s σ H vs us Q I r h
  obtain ⟨a, S, n, rfl, ha, h64, q⟩ := h
  have R := setO_get I ha
  rw [Vals.ref1 r]
  refine sorted_setAll R (I.ok.hd hc) fun s' p out c ns k g o hp hg hi hs hm hl => ?_
  have hlen : (ns.map V.int).length ≤ sizeLine := by rw [List.length_map, hl, sizeLine_eq]; unfold scanBound at h64; omega
  have hn : H p = none := I.hok.fresh hp
  have J : Inv X pins σ (upd H p (.lst (ns.map V.int))) { s with heap := s'.heap, gens := s'.gens, drawn := s'.drawn, toks := s'.toks } :=
    I.call (ch := []) (Un.laid k hp hn) (I.hok.laid k hp ⟨hlen, out.toList, c, vals_of_ints hi, hg⟩) (by rw [g]; exact I.bare) (fun _ z => nomatch z)
  have e : s' = { s with heap := s'.heap, gens := s'.gens, drawn := s'.drawn, toks := s'.toks } := by
    cases s'
    cases s
    cases o
    rfl
  rw [e]
  exact ⟨.ref p, _, J, rfl, q ns p hs hm hl hn⟩
end
section
variable {Γ : G} {ρ : Env'} {O : Opens} {Q : DK}
/-- sorted(set(e)), ints -/
def SrtQ (d : D) (O : Opens) (Q : DK) : Prop := ∃ ns : List Int, (d = .lst (ns.map D.int) ∨ d = .tup (ns.map D.int)) ∧ ns.length + 1 < scanBound ∧ ∀ ms : List Int, ms.Pairwise (· < ·) → (∀ k, k ∈ ms ↔ k ∈ ns) → Q (.lst (ms.map D.int)) O
theorem we_srtset {e : Expr} {p1 p2 pos1 pos2 : Pos} (B : Blt Γ.M) (hg1 : GlN Γ "sorted") (hg2 : GlN Γ "set") (hh : Γ.hot = false) (h : We Γ e ρ O fun d O1 => SrtQ d O1 Q)
    (h1 : ∀ env, starEach [e] env = (false, eval e env) :: starEach [] env := by intro _; rfl) (h2 : ∀ env, starEach [Expr.Call (.Name "set" p2) [e] [] pos2] env = (false, eval (Expr.Call (.Name "set" p2) [e] [] pos2) env) :: starEach [] env := by intro _; rfl) :
    We Γ (.Call (.Name "sorted" p1) [.Call (.Name "set" p2) [e] [] pos2] [] pos1) ρ O Q := fun F σ H e0 s r X hX pins st I => by
  have hc := hX.calm hh
  have hK := hX.K
  refine (pe_callB (cr_sortedSetA hc) (hX.gl hg1) (by rw [← hX.mg]; exact B.sorted) PyProof.Rows.boot_sorted (pa_cons (pe_callTy (cr_setOf hc) (hX.gl hg2) (by rw [← hX.mg]; exact B.set) PyProof.Rows.boot_set (pa_cons (Ev.pe hX e) pa_nil (h1 X.env)) (he := h1 X.env)) pa_nil (h2 X.env)) (he := h2 X.env)).run pins st σ H _ I ?_
  refine (h F σ H e0 s r).mono fun v H1 ⟨d, F1, O1, e1, s1, r1, ns, hd, hb, q⟩ => ?_
  have fin : ∀ a, v = V.ref a → (SqL X.K H1 a (ns.map V.int) ∨ SqT X.K H1 a (ns.map V.int)) → rSetOf X.K X.w [v] H1 (fun x H2 => rSortedSetA X.w [x] H2 (KV' Γ F Q)) := fun a ha hs => by
    refine ⟨a, ns, by rw [ha], hs, hb, fun p m hm hp => ?_⟩
    refine ⟨p, _, m, rfl, upd_same, by omega, fun ms p2 k1 k2 k3 hp2 => ?_⟩
    have s2 : Stt Γ.M.K F1 O1 (upd H1 p (SetO X.w p (fun j => decide (j ∈ ns)) m)) := s1.grow fun a o ho => by rw [upd_ne (ne_of_none ho hp)]; exact ho
    exact KV'.at e1 (kv_lst s2 hp2 Reps.ints (q ms k1 fun k => by rw [k2]; simp))
  rcases hd with hd | hd <;> subst hd
  · obtain ⟨a, ys, ha, h1, h2⟩ := r1
    have := reps_int h2
    subst this
    exact fin a ha (.inl (SqL.of (s1.ext _ _ h1)))
  · obtain ⟨a, ys, ha, h1, h2⟩ := r1
    have := reps_int h2
    subst this
    exact fin a ha (.inr (s1.ext.seqT (hK ▸ h1)))
end

section
variable {Γ : G} {ρ : Env'} {O : Opens} {Q : DK} {scope : Scope} {own : List Nat} {tg elt c : Expr} {α : Type}
/-- [elt for tg in xs if c]: what is open may change from turn to turn -/
theorem lc_stateC (xs : List α) (g : α → D) (inv : Nat → List D → Opens → Prop) {Ql : List D → Opens → Prop} (hl : xs.length ≤ sizeLine) (h0 : inv 0 [] O) (ha : ∀ i acc O', i ≤ xs.length → inv i acc O' → acc.length ≤ i)
    (ht : ∀ (F0 : Fr) (i : Nat) (x : α) (acc : List D) (O' : Opens), i < xs.length → xs[i]? = some x → inv i acc O' → WGo (blkG Γ scope F0) own tg (g x) (wipeD ρ own) O' fun ρ2 O2 => WT (blkG Γ scope F0) c ρ2 O2 fun b O3 => if b = true then We (blkG Γ scope F0) elt ρ2 O3 fun y O4 => inv (i + 1) (acc ++ [y]) O4 else inv (i + 1) acc O3)
    (h : ∀ acc O', inv xs.length acc O' → Ql acc O') : ∃ W, LcQ Γ scope own tg [c] elt (xs.map g).length (fun i => (xs.map g)[i]?) ρ O Ql W := by
  refine ⟨inv, h0, fun F0 i d acc O' hi hd w => ?_, fun acc O' w => h acc O' (by rw [List.length_map] at w; exact w)⟩
  rw [List.length_map] at hi
  rw [List.getElem?_map] at hd
  obtain ⟨x, hx, rfl⟩ := Option.map_eq_some_iff.mp hd
  intro F σ H v e0 s r rv
  refine (ht F0 i x acc O' hi hx w F σ H v e0 s r rv).mono fun σ' H' ⟨w1, k⟩ => ⟨w1, KS.mono (Ext.refl F) (fun ρ2 O2 q => ?_) k⟩
  refine WT.imp (show WT _ c ρ2 O2 _ from q) fun b O3 hq => ?_
  cases b with
  | true =>
    rw [if_pos rfl] at hq ⊢
    exact hq.imp fun y O4 z => ⟨Nat.lt_of_le_of_lt (ha i acc O' (Nat.le_of_lt hi) w) (Nat.lt_of_lt_of_le hi hl), z⟩
  | false =>
    rw [if_neg Bool.false_ne_true] at hq ⊢
    exact hq
end
end DL

/-! DLQ: t[::-1], t a tuple. -/
namespace DL
open PySem PySem.Spec PyProof.Rows L2
section
variable {prog : Program} {w : World} {A : Around} {E : Value → Shared → Prop} {s : Shared}
theorem adjust_rev (n : Nat) : Builtin.Slice.sliceAdjust none none (-1) (n : Int) = ((n : Int) - 1, -1) := by
  unfold Builtin.Slice.sliceAdjust
  rfl
theorem places_rev (n : Nat) : Builtin.Slice.slicePlaces ((n : Int) - 1) (-1) (-1) = n := by
  unfold Builtin.Slice.slicePlaces
  rw [if_neg (by decide)]
  by_cases h : (n : Int) - 1 > -1
  · rw [if_pos h, show (- -1 : Int) = 1 by decide, Int.ediv_one]; omega
  · rw [if_neg h]; omega
theorem pick_rev (items : Array Value) : ((List.range items.size).filterMap fun (k : Nat) => items[((items.size : Int) - 1 + (k : Int) * (-1)).toNat]?).toArray = items.toList.reverse.toArray := by
  have e : (List.range items.size).filterMap (fun (k : Nat) => items[((items.size : Int) - 1 + (k : Int) * (-1)).toNat]?) = ((List.range items.size).map fun k => items.size - 1 - k).filterMap (items[·]?) := by
    rw [List.filterMap_map]
    refine congrArg (fun f => List.filterMap f (List.range items.size)) (funext fun k => ?_)
    have e2 : ((items.size : Int) - 1 + (k : Int) * (-1)).toNat = items.size - 1 - k := by omega
    show _ = items[items.size - 1 - k]?
    rw [e2]
  rw [e, PySem.W.krv_range, List.filterMap_reverse, PySem.W.krv_all]
theorem sliceApplied_rev {sl : Addr} {vl vu vs : Value} {n : Nat} {Q : Int × Int × Nat → Shared → Prop} (hs : s.heap.IsSliceOf sl vl vu vs) (pl : IsPart vl none) (pu : IsPart vu none) (ps : IsPart vs (some (-1)))
    (h : Q ((n : Int) - 1, -1, n) s) : wpAny (model prog w) A (Builtin.Slice.sliceApplied (.ref sl) (pure (n : Int))) Q E s := by
  obtain ⟨os, hos, hcs, hds⟩ := id hs
  unfold Builtin.Slice.sliceApplied Builtin.Slice.sliceFields
  refine wpAny_bind (wpAny_bind (wpAny_field hos hds (x := vl) rfl (wpAny_bind (wpAny_field hos hds (x := vu) rfl (wpAny_bind (wpAny_field hos hds (x := vs) rfl (wpAny_pure ?_)))))))
  refine wpAny_bind (HT.slicePart_ ps ?_)
  show wpAny _ _ (if ((-1 : Int) == 0) = true then _ else _) _ _ s
  rw [if_neg (by decide)]
  refine wpAny_bind (HT.slicePart_ pl (wpAny_bind (HT.slicePart_ pu (wpAny_bind (wpAny_pure ?_)))))
  show wpAny _ _ (match Builtin.Slice.sliceAdjust none none (-1) (n : Int) with | (lo, hi) => pure (lo, (-1 : Int), Builtin.Slice.slicePlaces lo hi (-1))) _ _ s
  rw [adjust_rev n]
  show wpAny _ _ (pure ((n : Int) - 1, (-1 : Int), Builtin.Slice.slicePlaces ((n : Int) - 1) (-1) (-1))) _ _ s
  rw [places_rev]
  exact wpAny_pure h
theorem getItem_tuple_rev {t sl : Addr} {items : Array Value} {vl vu vs : Value} {Q : Value → Shared → Prop} (ht : IsTup s.heap t items) (hs : s.heap.IsSliceOf sl vl vu vs) (pl : IsPart vl none) (pu : IsPart vu none) (ps : IsPart vs (some (-1)))
    (h : Q (.ref s.heap.objs.size) { s with heap := s.heap.push { cls := .type "tuple", data := .seq items.toList.reverse.toArray } })
    (hsz : items.size ≤ sizeLine) : wpAny (model prog w) A (getItem (.ref t) (.ref sl)) Q E s := by
  have htake : sizeOk (.seq items.toList.reverse.toArray) := by
    show items.toList.reverse.toArray.size ≤ sizeLine
    rw [List.size_toArray, List.length_reverse, Array.length_toList]
    exact hsz
  obtain ⟨os, hos, hcs, hds⟩ := id hs
  have hTs : s.TypeIs (.ref sl) "slice" := ⟨os, hos, hcs⟩
  unfold getItem
  try with_reducible refine wpAny_holding ?_
  first | refine wpAny_bind (wpAny_pure ?_) | skip
  refine wpAny_bind (wpAny_sequenceKey ht.typeIs (by decide) ?_)
  refine wpAny_bind (wpAny_callSpecial?_slot (name := Str.ofString "__getitem__") ht.typeIs PyProof.Rows.slot_tuple_getitem
    (wpAny_call_entry PyProof.Rows.slot_tuple_getitem ht.typeIs entry_tuple_getitem ?_ (args_tuple_getitem _ _)))
  show wpAny _ _ (Builtin.Tuple.tupleItemsOf (.ref t) >>= _) _ _ s
  refine wpAny_bind (tupleItemsOf_ ht ?_)
  refine wpAny_bind (wpAny_typeOf hTs ?_)
  rw [if_pos (by decide)]
  refine wpAny_bind (sliceApplied_rev hs pl pu ps ?_)
  have hno : ¬ ((((items.size : Int) - 1) == 0 && (-1 : Int) == 1 && items.size == items.size) = true) := by
    rw [show ((-1 : Int) == 1) = false by decide, Bool.and_false, Bool.false_and]; decide
  show wpAny _ _ (if (((items.size : Int) - 1) == 0 && (-1 : Int) == 1 && items.size == items.size) = true then _ else _) _ _ s
  rw [if_neg hno, pick_rev]
  first
    | exact wpAny_bind (m := Builtin.Tuple.tupleExact _) (wpAny_newObj_type (wpAny_pure ⟨_, rfl, wpAny_pure h⟩) htake)
    | exact wpAny_bind (m := Builtin.Tuple.tupleExact _) (wpAny_newObj_type (wpAny_bind (wpAny_pure (wpAny_pure ⟨_, rfl, wpAny_pure h⟩))) htake)
    | exact wpAny_bind (wpAny_bind (m := Builtin.Tuple.tupleExact _) (wpAny_newObj_type (wpAny_pure (wpAny_pure ⟨_, rfl, wpAny_pure h⟩)) htake))
    | exact wpAny_bind (wpAny_bind (m := Builtin.Tuple.tupleExact _) (wpAny_newObj_type (wpAny_pure ⟨_, rfl, wpAny_pure h⟩) htake))
end
section
variable {X : Cx}
def tRevT (K : PySem.W.Frag) (te : TE) : TE := fun σ H Q => te σ H fun x H1 => ∃ a xs, x = .ref a ∧ SqT K H1 a xs ∧ ∀ p, H1 p = none → Q (.ref p) (upd H1 p (.tup xs.reverse))
theorem pe_revT {e : Expr} {te : TE} {k : Nat} {p1 p2 p3 pos : Pos} (he : PE X e te) : PE X (.Subscript e (.Slice none none (some (.UnaryOp .USub (.Constant (.int 1) k p1) p2)) p3) pos) (tRevT X.K te) := by
  refine ⟨fun pins s σ H Q I h => ?_⟩
  refine Subscript_ (thn (he.run pins s σ H _ I h) fun v s1 ⟨x, H1, I1, r1, q1⟩ => ?_)
  obtain ⟨a, xs, ex, hx, q⟩ := q1
  subst ex
  cases r1
  have hst : PO X (some (.UnaryOp .USub (.Constant (.int 1) k p1) p2)) (tPart (tUn (rU fun i => .int (-i)) (tC (.int 1)))) := po_some (pe_un un_neg pe_int)
  refine wpAny_Slice (thn (po_none.run pins s1 σ H1 (fun o H2 => o = none ∧ H2 = H1) I1 ⟨rfl, rfl⟩) fun vl s2 ⟨l, H2, I2, pl, el, e2⟩ => ?_)
  subst el e2
  refine thn (po_none.run pins s2 σ H2 (fun o H3 => o = none ∧ H3 = H2) I2 ⟨rfl, rfl⟩) fun vu s3 ⟨u, H3, I3, pu, eu, e3⟩ => ?_
  subst eu e3
  refine thn (hst.run pins s3 σ H3 (fun o H4 => o = some (-1) ∧ H4 = H3) I3 ⟨1, rfl, -1, rfl, rfl, rfl⟩) fun vs s4 ⟨o, H4, I4, ps, eo, e4⟩ => ?_
  subst eo e4
  have I5 : Inv X pins σ H4 { s4 with heap := s4.heap.push { cls := .type "slice", data := .fields #[vl, vu, vs] } } := I4.kept (t' := s4.toks) fun b ob q => Heap.get?_push_of_some _ q
  obtain ⟨its, r, ht, hz⟩ := I5.tuple hx
  have hlen := r.length
  show wpAny (model X.prog X.w) X.A (subscriptTail e (.Slice none none (some (.UnaryOp .USub (.Constant (.int 1) k p1) p2)) p3) (.ref a) (.ref s4.heap.objs.size)) (EP X pins σ Q) X.xe { s4 with heap := s4.heap.push { cls := .type "slice", data := .fields #[vl, vu, vs] } }
  refine tail_any (ops := [.ref a, .ref s4.heap.objs.size]) ht.typeIs (PyProof.Rows.slot_tuple_getitem.lookup) ?_ (by with_unfolding_all rfl)
  refine getItem_tuple_rev ht (Heap.IsSliceOf.new _ vl vu vs) pl pu ps ?_ (by rw [List.size_toArray]; omega)
  refine ⟨.ref _, _, I5.laid (t' := s4.toks) (o := .tup xs.reverse) (fun b ob q => Heap.get?_push_of_some _ q) (Nat.le_refl _) ?_, rfl, q _ (I5.hok.fresh (Nat.le_refl _))⟩
  exact ⟨by rw [List.length_reverse]; exact hz, _, r.reverse, IsTup.new _ _⟩
end
section
variable {Γ : G} {ρ : Env'} {O : Opens} {Q : DK}
theorem Reps.rev {K : PySem.W.Frag} {F : Fr} : ∀ {ds : List D} {vs : List V}, Reps K F ds vs → Reps K F ds.reverse vs.reverse
  | [], vs, h => by cases (show vs = [] from h); exact rfl
  | d :: ds, vs, h => by
    obtain ⟨v, r, rfl, h2, h3⟩ := h
    rw [List.reverse_cons, List.reverse_cons]
    exact (Reps.rev h3).append (Reps.cons h2 Reps.nil)
theorem we_revT {e : Expr} {k : Nat} {p1 p2 p3 pos : Pos} (h : We Γ e ρ O fun d O1 => ∃ xs, d = .tup xs ∧ Q (.tup xs.reverse) O1) : We Γ (.Subscript e (.Slice none none (some (.UnaryOp .USub (.Constant (.int 1) k p1) p2)) p3) pos) ρ O Q := fun F σ H e0 s r X hX pins st I =>
  (pe_revT (Ev.pe hX e)).run pins st σ H _ I ((h F σ H e0 s r).mono fun v H1 ⟨d, F1, O1, e1, s1, r1, xs, hd, q⟩ => by
    subst hd
    obtain ⟨a, ys, rfl, h1, h2⟩ := r1
    exact ⟨a, ys, rfl, s1.ext.seqT (hX.K ▸ h1), fun p hp => KV'.at e1 (kv_tup s1 hp h2.rev q)⟩)
end
end DL

namespace K0
open PySem PySem.Spec PyProof.Rows L2 DL
local macro_rules | `(tactic| walk_at "vis") => `(tactic| first | exact .inl rfl | exact .inr (.inl rfl) | exact .inr (.inr rfl))
local macro_rules | `(tactic| walk_at "loc") => `(tactic| first | exact .inl rfl | exact .inr rfl)
local macro_rules | `(tactic| walk_at "dlName") => `(tactic| first
  | ((with_reducible show We _ (Expr.Name "int" _) _ _ _); refine we_tyInt (by assumption) rfl ?_)
  | ((with_reducible show We _ (Expr.Name "bool" _) _ _ _); refine we_tyBool (by assumption) rfl ?_)
  | ((with_reducible show We _ (Expr.Name "str" _) _ _ _); refine we_tyStr (by assumption) rfl ?_)
  | ((with_reducible show We _ (Expr.Name "list" _) _ _ _); refine we_tyList (by assumption) rfl ?_)
  | ((with_reducible show We _ (Expr.Name "tuple" _) _ _ _); refine we_tyTuple (by assumption) rfl ?_)
  | ((with_reducible show We _ (Expr.Name "dict" _) _ _ _); refine we_tyDict (by assumption) rfl ?_)
  | (refine we_nm rfl rfl ?v ?_; (case v => walk_at "vis"))
  | refine we_gstr (by assumption) rfl ?_ | refine we_gint (by assumption) rfl ?_)
local macro_rules | `(tactic| walk_at "dlCall") => `(tactic| first
  | ((with_reducible show We _ (Expr.Call (Expr.Name "isinstance" _) _ [] _) _ _ _); refine we_isi (by assumption) rfl ?_)
  | ((with_reducible show We _ (Expr.Call (Expr.Name "len" _) _ [] _) _ _ _); refine we_len (by assumption) rfl ?_)
  | ((with_reducible show We _ (Expr.Call (Expr.Name "all" _) _ [] _) _ _ _); refine we_all (by assumption) rfl rfl ?_)
  | ((with_reducible show We _ (Expr.Call (Expr.Name "abs" _) _ [] _) _ _ _); refine we_abs (by assumption) rfl ?_)
  | ((with_reducible show We _ (Expr.Call (Expr.Name "int" _) _ [] _) _ _ _); refine we_int_ (by assumption) rfl ?_)
  | ((with_reducible show We _ (Expr.Call (Expr.Name "str" _) _ [] _) _ _ _); refine we_str_ (by assumption) rfl ?_)
  | ((with_reducible show We _ (Expr.Call (Expr.Name "tuple" _) _ [] _) _ _ _); refine we_tuple_ (by assumption) rfl ?_)
  | ((with_reducible show We _ (Expr.Call (Expr.Name "list" _) _ [] _) _ _ _); refine we_list_ (by assumption) rfl ?_)
  | ((with_reducible show We _ (Expr.Call (Expr.Name "sum" _) _ [] _) _ _ _); refine we_sum (by assumption) rfl rfl ?_)
  | ((with_reducible show We _ (Expr.Call (Expr.Name "max" _) _ [] _) _ _ _); refine we_max (by assumption) rfl rfl ?_)
  | ((with_reducible show We _ (Expr.Call (Expr.Name "min" _) _ [] _) _ _ _); refine we_min (by assumption) rfl rfl ?_)
  | (refine' we_call ?hd ?hk ?hg ?hh ?_; (case hd => assumption); (case hk => exact Nat.le_of_ble_eq_true rfl); (case hg => rfl); (case hh => rfl)))
local macro_rules | `(tactic| walk_at "dlE") => `(tactic| first
  | ((with_reducible show We _ (Expr.Name _ _) _ _ _); walk_at "dlName")
  | ((with_reducible show We _ (Expr.Constant _ _ _) _ _ _); first | refine we_int ?_ | refine we_str ?_ | refine we_bl ?_ | refine we_non ?_)
  | ((with_reducible show We _ (Expr.Call (Expr.Name _ _) _ [] _) _ _ _); walk_at "dlCall")
  | ((with_reducible show We _ (Expr.BoolOp _ _ _) _ _ _); first | refine we_and ?_ | refine we_or ?_ | refine we_one ?_)
  | ((with_reducible show We _ (Expr.UnaryOp _ _ _) _ _ _); first | refine we_not ?_ | refine we_neg ?_)
  | ((with_reducible show We _ (Expr.Compare _ [_] _ _) _ _ _); refine we_cmp ?_)
  | ((with_reducible show We _ (Expr.Compare _ [_, _] _ _) _ _ _); refine we_chain ?_)
  | ((with_reducible show We _ (Expr.BinOp _ _ _ _) _ _ _); refine we_bin ?_)
  | ((with_reducible show We _ (Expr.IfExp _ _ _ _) _ _ _); refine we_if ?_)
  | ((with_reducible show We _ (Expr.Tuple _ _ _) _ _ _); refine we_tup ?_)
  | ((with_reducible show We _ (Expr.List _ _) _ _ _); refine we_lst ?_)
  | ((with_reducible show We _ (Expr.Subscript _ (Expr.Slice _ _ none _) _) _ _ _); refine we_slice ?_)
  | ((with_reducible show We _ (Expr.Subscript _ _ _) _ _ _); refine we_ix ?_)
  | ((with_reducible show We _ (Expr.JoinedStr _ _) _ _ _); refine we_joined ?_)
  | ((with_reducible show We _ (Expr.FormattedValue _ _ _ _) _ _ _); refine we_fmt ?_)
  | ((with_reducible show We _ (Expr.ListComp _ _ _ _) _ _ _); refine we_lc rfl (by kernel_rfl) ?_))
local macro_rules | `(tactic| walk_at "dlT") => `(tactic| first
  | ((with_reducible show WT _ (Expr.UnaryOp _ _ _) _ _ _); refine wt_not ?_)
  | ((with_reducible show WT _ (Expr.Compare _ [_] _ _) _ _ _); refine wt_cmp ?_)
  | ((with_reducible show WT _ (Expr.Compare _ [_, _] _ _) _ _ _); refine wt_chain ?_)
  | ((with_reducible show WT _ (Expr.BoolOp _ _ _) _ _ _); refine WW.wt ?_)
  | refine wt_val ?_)
local macro_rules | `(tactic| walk_at "dlS") => `(tactic| first
  | ((with_reducible show WS _ (Stmt.Return _ _) _ _ _); first | refine ws_ret ?_ | refine ws_retN ?_)
  | ((with_reducible show WS _ (Stmt.If _ _ _ _) _ _ _); refine ws_if ?_)
  | ((with_reducible show WS _ (Stmt.Assign [Expr.Name _ _] _ _) _ _ _); (refine ws_nm rfl ?v ?_; (case v => walk_at "loc")))
  | ((with_reducible show WS _ (Stmt.Assign [Expr.Tuple [Expr.Name _ _, Expr.Name _ _] _ _] (Expr.Tuple [_, _] _ _) _) _ _ _); (refine ws_pr rfl rfl rfl (by kernel_rfl) rfl rfl ?_ ?hw; (case hw => (intro env he; obtain ⟨⟩ := env; cases he; kernel_rfl))))
  | ((with_reducible show WS _ (Stmt.Assign [Expr.Tuple _ _ _] _ _) _ _ _); refine ws_asg ?_)
  | ((with_reducible show WS _ (Stmt.Expr _ _) _ _ _); refine ws_expr ?_)
  | ((with_reducible show WS _ (Stmt.Pass _) _ _ _); refine ws_pass ?_))
local macro_rules | `(tactic| walk_at "dlQ") => `(tactic| first
  | ((with_reducible show BinQ _ _ _ _ _); first | refine q_addi ?_ | refine q_subi ?_ | refine q_subb ?_)
  | ((with_reducible show CmpQ _ _ _ _ _); first | refine q_lti ?_ | refine q_lei ?_ | refine q_gti ?_ | refine q_gei ?_ | refine q_eqi ?_ | refine q_nei ?_ | refine q_eqs ?_ | refine q_nes ?_ | refine q_insg ?_ | refine q_nisg ?_)
  | ((with_reducible show IsiQ _ _ _); refine q_isi (by first | assumption | rfl) ?_)
  | ((with_reducible show LenQ _ _ _); first | refine q_lent ?_ | refine q_lenl ?_ | refine q_lens (by assumption) ?_ | refine q_lenr ?_)
  | ((with_reducible show TruQ _ _ _); refine q_trub ?_)
  | ((with_reducible show LcF _ _ _); refine q_lcf ?_)
  | ((with_reducible show TupQ _ _ _); first | refine q_tupl ?_ | refine q_tupt ?_)
  | ((with_reducible show LstQ _ _ _); first | refine q_lstl ?_ | refine q_lstt ?_)
  | ((with_reducible show AbsQ _ _ _); refine q_abs ?_)
  | ((with_reducible show IxQ _ _ _ _); first | refine q_ixt rfl ?_ | refine q_ixl rfl ?_)
  | ((with_reducible show SlQ _ _ _ _ _); first | refine q_slt ?_ | refine q_sll ?_ | refine q_sls (by assumption) ?_ | refine q_slr ?_)
  | ((with_reducible show IntQ _ _ _); first | refine q_inti ?_ | refine q_intb ?_)
  | ((with_reducible show if _ = true then _ else _); first | refine ift rfl ?_ | refine iff_ rfl ?_)
  | ((with_reducible show ∃ k, D.bl _ = D.bl k ∧ _); refine ⟨_, rfl, ?_⟩)
  | ((with_reducible show BlQ _ _ _); refine ⟨_, rfl, ?_⟩)
  | ((with_reducible show _ ≤ sizeLine ∧ _); refine ⟨by first | exact Nat.zero_le _ | exact Nat.le_of_ble_eq_true rfl | assumption, ?_⟩))
local macro_rules | `(tactic| walk_at "dl") => `(tactic| first
  | ((with_reducible show We _ _ _ _ _); walk_at "dlE")
  | ((with_reducible show WA _ _ _ _ _); first | refine wa_cons ?_ | refine wa_nil ?_)
  | ((with_reducible show WT _ _ _ _ _); walk_at "dlT")
  | ((with_reducible show WW _ _ _ _ _); first | refine ww_and ?_ | refine ww_or ?_ | refine ww_and1 ?_ | refine ww_or1 ?_)
  | ((with_reducible show WS _ _ _ _ _); walk_at "dlS")
  | ((with_reducible show WSs _ _ _ _ _); first | refine wss_cons ?_ | refine wss_nil ?_)
  | ((with_reducible show ChQ _ _ _ _ _ _ _ _ _); (show We _ _ _ _ _))
  | ((with_reducible show PiD _ _ (Expr.Call (Expr.Name "range" _) [_] _ _) _ _ _); refine pi_rg (by assumption) rfl ?_)
  | ((with_reducible show PiD _ _ (Expr.Call (Expr.Name "range" _) [_, _] _ _) _ _ _); refine pi_rg2 (by assumption) rfl ?_)
  | ((with_reducible show WGo _ _ (Expr.Name _ _) _ _ _ _); refine wgo_nb rfl (by walk_at "loc") (by kernel_rfl) ?_)
  | ((with_reducible show WG _ (Expr.Tuple _ _ _) _ _ _ _); refine wg_tup rfl rfl ?_)
  | ((with_reducible show WGs _ _ _ _ _ _); first | refine wgs_cons ?_ | refine wgs_nil ?_)
  | ((with_reducible show WGo _ _ (Expr.Tuple _ _ _) _ _ _ _); refine wgo_tup rfl rfl ?_)
  | ((with_reducible show WGso _ _ _ _ _ _ _); first | refine wgso_cons ?_ | refine wgso_nil ?_)
  | ((with_reducible show WG _ (Expr.Name _ _) _ _ _ _); refine wg_nm rfl (by walk_at "loc") ?_)
  | ((with_reducible show WO _ _ _ _ _); first | refine wo_none ?_ | refine wo_some ?_)
  | ((with_reducible show WI _ _ _ _ _); first | refine wi_nil ?_ | refine wi_one ?_)
  | ((with_reducible show WJ _ _ _ _ _ _); first | refine wj_cons ?_ | refine wj_nil ?_)
  | walk_at "dlQ")
abbrev topS (i : Nat) : Stmt := PySem.Challenge.pw_worsttogether_k00_errors_events_and_text.main.body.getD i (.Pass ⟨0, 0, 0, 0⟩)

/-! ### shapes -/
def spTy (g : Ty → Bool) : SpD := fun ds O Q _ => ∃ d t, ds = [d] ∧ tyD O d = some t ∧ Q (.bl (g t)) O
theorem ok_is_integer {M : Mo} {f : Addr} {fd : FuncData} (B : Blt M) (hm : M.mg "is_integer" = some (.ref f)) (Fn : Fun M.K "is_integer" "is_integer" (topS 28) f fd) : DefD M "is_integer" (topS 28) ["value"] 1 (spTy fun t => decide (t = .int)) := by
  refine def_ok (N := ["value"]) hm Fn ⟨rfl, rfl, rfl, by decide +kernel, rfl, by decide +kernel, by decide +kernel⟩ (fun _ _ _ _ _ _ us hl => match us, hl with | [_], _ => rfl) (fun ds O Q E ⟨d, t, e, _⟩ => by rw [e]; rfl) fun F ds O Qd Ed ⟨d, t, e, ht, q⟩ => ?_
  subst e
  cases t
  all_goals (repeat walk_at "dl")
  all_goals exact q
/-- value: what is told of any value between two bounds -/
def fromTo (lo hi : Int) : D → Bool
  | .int i => decide (lo ≤ i) && decide (i ≤ hi)
  | _ => false
def spFromTo : SpD := fun ds O Q _ => ∃ d t lo hi, ds = [d, .int lo, .int hi] ∧ tyD O d = some t ∧ Q (.bl (fromTo lo hi d)) O
theorem ty_int {O : Opens} {d : D} (h : tyD O d = some .int) : ∃ i, d = .int i := by
  cases d with
  | int i => exact ⟨i, rfl⟩
  | raw v =>
    cases v with
    | ref a =>
      have h : (match O a with | some (.lst _) => some Ty.list | some (.dic _ _) => some .dict | _ => none) = some .int := h
      split at h <;> cases h
    | _ => cases h
  | _ => cases h
theorem fromTo_not {O : Opens} {d : D} {t : Ty} {lo hi : Int} (h : tyD O d = some t) (n : t ≠ .int) : fromTo lo hi d = false := by
  cases d with
  | int i => cases h; exact absurd rfl n
  | _ => rfl
theorem ok_is_from_to {M : Mo} {f : Addr} {fd : FuncData} (B : Blt M) (h_is_integer : DefD M "is_integer" (topS 28) ["value"] 1 (spTy fun t => decide (t = .int))) (hm : M.mg "is_from_to" = some (.ref f)) (Fn : Fun M.K "is_from_to" "is_from_to" (topS 29) f fd) : DefD M "is_from_to" (topS 29) ["value", "least", "most"] 2 spFromTo := by
  refine def_ok (N := ["value", "least", "most"]) hm Fn ⟨rfl, rfl, rfl, by decide +kernel, rfl, by decide +kernel, by decide +kernel⟩ (fun _ _ _ _ _ _ us hl => match us, hl with | [_, _, _], _ => rfl) (fun ds O Q E ⟨d, t, lo, hi, e, _⟩ => by rw [e]; rfl) fun F ds O Qd Ed ⟨d, t, lo, hi, e, ht, q⟩ => ?_
  subst e
  by_cases hi' : t = .int
  · subst hi'
    obtain ⟨i, rfl⟩ := ty_int ht
    repeat walk_at "dl"
    refine ⟨_, _, rfl, rfl, ?_⟩
    repeat walk_at "dl"
    refine if2 (fun h => ?_) (fun h => ?_)
    · repeat walk_at "dl"
      have e : fromTo lo hi (.int i) = decide (i ≤ hi) := by show (decide (lo ≤ i) && decide (i ≤ hi)) = _; rw [h]; rfl
      rw [e] at q; exact q
    · have e : fromTo lo hi (.int i) = false := by show (decide (lo ≤ i) && decide (i ≤ hi)) = _; rw [h]; rfl
      rw [e] at q; exact q
  · repeat walk_at "dl"
    refine ⟨_, _, rfl, ht, ?_⟩
    rw [fromTo_not ht hi'] at q
    refine ⟨_, rfl, iff_ (decide_eq_false hi') q⟩
end K0

namespace K0
open PySem PySem.Spec PyProof.Rows L2 DL
local macro_rules | `(tactic| walk_at "vis") => `(tactic| first | exact .inl rfl | exact .inr (.inl rfl) | exact .inr (.inr rfl))
local macro_rules | `(tactic| walk_at "loc") => `(tactic| first | exact .inl rfl | exact .inr rfl)
local macro_rules | `(tactic| walk_at "dlName") => `(tactic| first
  | ((with_reducible show We _ (Expr.Name "int" _) _ _ _); refine we_tyInt (by assumption) rfl ?_)
  | ((with_reducible show We _ (Expr.Name "bool" _) _ _ _); refine we_tyBool (by assumption) rfl ?_)
  | ((with_reducible show We _ (Expr.Name "str" _) _ _ _); refine we_tyStr (by assumption) rfl ?_)
  | ((with_reducible show We _ (Expr.Name "list" _) _ _ _); refine we_tyList (by assumption) rfl ?_)
  | ((with_reducible show We _ (Expr.Name "tuple" _) _ _ _); refine we_tyTuple (by assumption) rfl ?_)
  | ((with_reducible show We _ (Expr.Name "dict" _) _ _ _); refine we_tyDict (by assumption) rfl ?_)
  | (refine we_nm rfl rfl ?v ?_; (case v => walk_at "vis"))
  | refine we_gstr (by assumption) rfl ?_ | refine we_gint (by assumption) rfl ?_)
local macro_rules | `(tactic| walk_at "dlCall") => `(tactic| first
  | ((with_reducible show We _ (Expr.Call (Expr.Name "isinstance" _) _ [] _) _ _ _); refine we_isi (by assumption) rfl ?_)
  | ((with_reducible show We _ (Expr.Call (Expr.Name "len" _) _ [] _) _ _ _); refine we_len (by assumption) rfl ?_)
  | ((with_reducible show We _ (Expr.Call (Expr.Name "all" _) _ [] _) _ _ _); refine we_all (by assumption) rfl rfl ?_)
  | ((with_reducible show We _ (Expr.Call (Expr.Name "abs" _) _ [] _) _ _ _); refine we_abs (by assumption) rfl ?_)
  | ((with_reducible show We _ (Expr.Call (Expr.Name "int" _) _ [] _) _ _ _); refine we_int_ (by assumption) rfl ?_)
  | ((with_reducible show We _ (Expr.Call (Expr.Name "str" _) _ [] _) _ _ _); refine we_str_ (by assumption) rfl ?_)
  | ((with_reducible show We _ (Expr.Call (Expr.Name "tuple" _) _ [] _) _ _ _); refine we_tuple_ (by assumption) rfl ?_)
  | ((with_reducible show We _ (Expr.Call (Expr.Name "list" _) _ [] _) _ _ _); refine we_list_ (by assumption) rfl ?_)
  | ((with_reducible show We _ (Expr.Call (Expr.Name "sum" _) _ [] _) _ _ _); refine we_sum (by assumption) rfl rfl ?_)
  | ((with_reducible show We _ (Expr.Call (Expr.Name "max" _) _ [] _) _ _ _); refine we_max (by assumption) rfl rfl ?_)
  | ((with_reducible show We _ (Expr.Call (Expr.Name "min" _) _ [] _) _ _ _); refine we_min (by assumption) rfl rfl ?_)
  | (refine' we_call ?hd ?hk ?hg ?hh ?_; (case hd => assumption); (case hk => exact Nat.le_of_ble_eq_true rfl); (case hg => rfl); (case hh => rfl)))
local macro_rules | `(tactic| walk_at "dlE") => `(tactic| first
  | ((with_reducible show We _ (Expr.Name _ _) _ _ _); walk_at "dlName")
  | ((with_reducible show We _ (Expr.Constant _ _ _) _ _ _); first | refine we_int ?_ | refine we_str ?_ | refine we_bl ?_ | refine we_non ?_)
  | ((with_reducible show We _ (Expr.Call (Expr.Name _ _) _ [] _) _ _ _); walk_at "dlCall")
  | ((with_reducible show We _ (Expr.BoolOp _ _ _) _ _ _); first | refine we_and ?_ | refine we_or ?_ | refine we_one ?_)
  | ((with_reducible show We _ (Expr.UnaryOp _ _ _) _ _ _); first | refine we_not ?_ | refine we_neg ?_)
  | ((with_reducible show We _ (Expr.Compare _ [_] _ _) _ _ _); refine we_cmp ?_)
  | ((with_reducible show We _ (Expr.Compare _ [_, _] _ _) _ _ _); refine we_chain ?_)
  | ((with_reducible show We _ (Expr.BinOp _ _ _ _) _ _ _); refine we_bin ?_)
  | ((with_reducible show We _ (Expr.IfExp _ _ _ _) _ _ _); refine we_if ?_)
  | ((with_reducible show We _ (Expr.Tuple _ _ _) _ _ _); refine we_tup ?_)
  | ((with_reducible show We _ (Expr.List _ _) _ _ _); refine we_lst ?_)
  | ((with_reducible show We _ (Expr.Subscript _ (Expr.Slice _ _ none _) _) _ _ _); refine we_slice ?_)
  | ((with_reducible show We _ (Expr.Subscript _ _ _) _ _ _); refine we_ix ?_)
  | ((with_reducible show We _ (Expr.JoinedStr _ _) _ _ _); refine we_joined ?_)
  | ((with_reducible show We _ (Expr.FormattedValue _ _ _ _) _ _ _); refine we_fmt ?_)
  | ((with_reducible show We _ (Expr.ListComp _ _ _ _) _ _ _); refine we_lc rfl (by kernel_rfl) ?_))
local macro_rules | `(tactic| walk_at "dlT") => `(tactic| first
  | ((with_reducible show WT _ (Expr.UnaryOp _ _ _) _ _ _); refine wt_not ?_)
  | ((with_reducible show WT _ (Expr.Compare _ [_] _ _) _ _ _); refine wt_cmp ?_)
  | ((with_reducible show WT _ (Expr.Compare _ [_, _] _ _) _ _ _); refine wt_chain ?_)
  | ((with_reducible show WT _ (Expr.BoolOp _ _ _) _ _ _); refine WW.wt ?_)
  | refine wt_val ?_)
local macro_rules | `(tactic| walk_at "dlS") => `(tactic| first
  | ((with_reducible show WS _ (Stmt.Return _ _) _ _ _); first | refine ws_ret ?_ | refine ws_retN ?_)
  | ((with_reducible show WS _ (Stmt.If _ _ _ _) _ _ _); refine ws_if ?_)
  | ((with_reducible show WS _ (Stmt.Assign [Expr.Name _ _] _ _) _ _ _); (refine ws_nm rfl ?v ?_; (case v => walk_at "loc")))
  | ((with_reducible show WS _ (Stmt.Assign [Expr.Tuple [Expr.Name _ _, Expr.Name _ _] _ _] (Expr.Tuple [_, _] _ _) _) _ _ _); (refine ws_pr rfl rfl rfl (by kernel_rfl) rfl rfl ?_ ?hw; (case hw => (intro env he; obtain ⟨⟩ := env; cases he; kernel_rfl))))
  | ((with_reducible show WS _ (Stmt.Assign [Expr.Tuple _ _ _] _ _) _ _ _); refine ws_asg ?_)
  | ((with_reducible show WS _ (Stmt.Expr _ _) _ _ _); refine ws_expr ?_)
  | ((with_reducible show WS _ (Stmt.Pass _) _ _ _); refine ws_pass ?_))
local macro_rules | `(tactic| walk_at "dlQ") => `(tactic| first
  | ((with_reducible show BinQ _ _ _ _ _); first | refine q_addi ?_ | refine q_subi ?_ | refine q_subb ?_)
  | ((with_reducible show CmpQ _ _ _ _ _); first | refine q_lti ?_ | refine q_lei ?_ | refine q_gti ?_ | refine q_gei ?_ | refine q_eqi ?_ | refine q_nei ?_ | refine q_eqs ?_ | refine q_nes ?_ | refine q_insg ?_ | refine q_nisg ?_)
  | ((with_reducible show IsiQ _ _ _); refine q_isi (by first | assumption | rfl) ?_)
  | ((with_reducible show LenQ _ _ _); first | refine q_lent ?_ | refine q_lenl ?_ | refine q_lens (by assumption) ?_ | refine q_lenr ?_)
  | ((with_reducible show TruQ _ _ _); refine q_trub ?_)
  | ((with_reducible show LcF _ _ _); refine q_lcf ?_)
  | ((with_reducible show TupQ _ _ _); first | refine q_tupl ?_ | refine q_tupt ?_)
  | ((with_reducible show LstQ _ _ _); first | refine q_lstl ?_ | refine q_lstt ?_)
  | ((with_reducible show AbsQ _ _ _); refine q_abs ?_)
  | ((with_reducible show IxQ _ _ _ _); first | refine q_ixt rfl ?_ | refine q_ixl rfl ?_)
  | ((with_reducible show SlQ _ _ _ _ _); first | refine q_slt ?_ | refine q_sll ?_ | refine q_sls (by assumption) ?_ | refine q_slr ?_)
  | ((with_reducible show IntQ _ _ _); first | refine q_inti ?_ | refine q_intb ?_)
  | ((with_reducible show if _ = true then _ else _); first | refine ift rfl ?_ | refine iff_ rfl ?_)
  | ((with_reducible show ∃ k, D.bl _ = D.bl k ∧ _); refine ⟨_, rfl, ?_⟩)
  | ((with_reducible show BlQ _ _ _); refine ⟨_, rfl, ?_⟩)
  | ((with_reducible show _ ≤ sizeLine ∧ _); refine ⟨by first | exact Nat.zero_le _ | exact Nat.le_of_ble_eq_true rfl | assumption, ?_⟩))
local macro_rules | `(tactic| walk_at "dl") => `(tactic| first
  | ((with_reducible show We _ _ _ _ _); walk_at "dlE")
  | ((with_reducible show WA _ _ _ _ _); first | refine wa_cons ?_ | refine wa_nil ?_)
  | ((with_reducible show WT _ _ _ _ _); walk_at "dlT")
  | ((with_reducible show WW _ _ _ _ _); first | refine ww_and ?_ | refine ww_or ?_ | refine ww_and1 ?_ | refine ww_or1 ?_)
  | ((with_reducible show WS _ _ _ _ _); walk_at "dlS")
  | ((with_reducible show WSs _ _ _ _ _); first | refine wss_cons ?_ | refine wss_nil ?_)
  | ((with_reducible show ChQ _ _ _ _ _ _ _ _ _); (show We _ _ _ _ _))
  | ((with_reducible show PiD _ _ (Expr.Call (Expr.Name "range" _) [_] _ _) _ _ _); refine pi_rg (by assumption) rfl ?_)
  | ((with_reducible show PiD _ _ (Expr.Call (Expr.Name "range" _) [_, _] _ _) _ _ _); refine pi_rg2 (by assumption) rfl ?_)
  | ((with_reducible show WGo _ _ (Expr.Name _ _) _ _ _ _); refine wgo_nb rfl (by walk_at "loc") (by kernel_rfl) ?_)
  | ((with_reducible show WG _ (Expr.Tuple _ _ _) _ _ _ _); refine wg_tup rfl rfl ?_)
  | ((with_reducible show WGs _ _ _ _ _ _); first | refine wgs_cons ?_ | refine wgs_nil ?_)
  | ((with_reducible show WGo _ _ (Expr.Tuple _ _ _) _ _ _ _); refine wgo_tup rfl rfl ?_)
  | ((with_reducible show WGso _ _ _ _ _ _ _); first | refine wgso_cons ?_ | refine wgso_nil ?_)
  | ((with_reducible show WG _ (Expr.Name _ _) _ _ _ _); refine wg_nm rfl (by walk_at "loc") ?_)
  | ((with_reducible show WO _ _ _ _ _); first | refine wo_none ?_ | refine wo_some ?_)
  | ((with_reducible show WI _ _ _ _ _); first | refine wi_nil ?_ | refine wi_one ?_)
  | ((with_reducible show WJ _ _ _ _ _ _); first | refine wj_cons ?_ | refine wj_nil ?_)
  | walk_at "dlQ")

/-- is_tuple(d, n) -/
def isTup (d : D) (n : Int) : Bool := match d with
  | .tup ds => (ds.length : Int) == n
  | _ => false
def spTup : SpD := fun ds O Q _ => ∃ d t n, ds = [d, .int n] ∧ tyD O d = some t ∧ Q (.bl (isTup d n)) O
theorem ty_tup {O : Opens} {d : D} (h : tyD O d = some .tuple) : ∃ ds, d = .tup ds := by
  cases d with
  | tup i => exact ⟨i, rfl⟩
  | raw v =>
    cases v with
    | ref a =>
      have h : (match O a with | some (.lst _) => some Ty.list | some (.dic _ _) => some .dict | _ => none) = some .tuple := h
      split at h <;> cases h
    | _ => cases h
  | _ => cases h
theorem isTup_not {O : Opens} {d : D} {t : Ty} {n : Int} (h : tyD O d = some t) (m : t ≠ .tuple) : isTup d n = false := by
  cases d with
  | tup i => cases h; exact absurd rfl m
  | _ => rfl
theorem ok_is_tuple {M : Mo} {f : Addr} {fd : FuncData} (B : Blt M) (hm : M.mg "is_tuple" = some (.ref f)) (Fn : Fun M.K "is_tuple" "is_tuple" (topS 30) f fd) : DefD M "is_tuple" (topS 30) ["value", "many"] 1 spTup := by
  refine def_ok (N := ["value", "many"]) hm Fn ⟨rfl, rfl, rfl, by decide +kernel, rfl, by decide +kernel, by decide +kernel⟩ (fun _ _ _ _ _ _ us hl => match us, hl with | [_, _], _ => rfl) (fun ds O Q E ⟨d, t, n, e, _⟩ => by rw [e]; rfl) fun F ds O Qd Ed ⟨d, t, n, e, ht, q⟩ => ?_
  subst e
  by_cases hi' : t = .tuple
  · subst hi'
    obtain ⟨xs, rfl⟩ := ty_tup ht
    repeat walk_at "dl"
    exact q
  · rw [isTup_not ht hi'] at q
    repeat walk_at "dl"
    exact iff_ (by cases t <;> first | rfl | exact absurd rfl hi') q
/-- ascends(items) -/
def ascI (ns : List Int) : Bool := (List.range (ns.length - 1)).all fun i => decide (ns.getD i 0 < ns.getD (i + 1) 0)
theorem at_get {ns : List Int} {i : Nat} (h : i < ns.length) : atI (ns.map D.int) (i : Int) = some (.int (ns.getD i 0)) := by
  have e : (ns.map D.int)[i]? = some (.int (ns.getD i 0)) := by
    rw [List.getElem?_map, List.getD_eq_getElem?_getD, List.getElem?_eq_getElem h]; rfl
  unfold atI
  refine Option.bind_eq_some_iff.mpr ⟨i, ?_, e⟩
  unfold ixN
  simp [h]
theorem at_getI {ns : List Int} {j : Int} {i : Nat} (e : j = (i : Int)) (h : i < ns.length) : atI (ns.map D.int) j = some (.int (ns.getD i 0)) := by
  rw [e]; exact at_get h
def spAsc : SpD := fun ds O Q _ => ∃ ns : List Int, ds = [.tup (ns.map .int)] ∧ ns.length ≤ sizeLine ∧ Q (.bl (ascI ns)) O
theorem ok_ascends {M : Mo} {f : Addr} {fd : FuncData} (B : Blt M) (hm : M.mg "ascends" = some (.ref f)) (Fn : Fun M.K "ascends" "ascends" (topS 31) f fd) : DefD M "ascends" (topS 31) ["items"] 1 spAsc := by
  refine def_ok (N := ["items", "at"]) hm Fn ⟨rfl, rfl, rfl, by decide +kernel, rfl, by decide +kernel, by decide +kernel⟩ (fun _ _ _ _ _ _ us hl => match us, hl with | [_], _ => rfl) (fun ds O Q E ⟨ns, e, _⟩ => by rw [e]; rfl) fun F ds O Qd Ed ⟨ns, e, hz, q⟩ => ?_
  subst e
  have hz' : ns.length ≤ 16777216 := hz
  have eN : ((((ns.map D.int).length : Nat) : Int) - 1).toNat = ns.length - 1 := by rw [List.length_map]; omega
  repeat walk_at "dl"
  refine ⟨_, rfl, by omega, by rw [List.length_map]; omega, ?_⟩
  rw [eN]
  refine lc_mapA (List.range (ns.length - 1)) (fun i : Nat => D.int (i : Int)) (fun i => .bl (decide (ns.getD i 0 < ns.getD (i + 1) 0))) (by rw [List.length_range]; show _ ≤ 16777216; omega) (fun F0 i hi => ?_) ?_
  · have hi' := List.mem_range.mp hi
    repeat walk_at "dl"
    refine q_ixt (at_getI (ns := ns) (i := i) rfl (by omega)) ?_
    repeat walk_at "dl"
    refine q_ixt (at_getI (ns := ns) (i := i + 1) (by omega) (by omega)) ?_
    repeat walk_at "dl"
    exact ⟨rfl, rfl⟩
  · refine ⟨(List.range (ns.length - 1)).map fun i => decide (ns.getD i 0 < ns.getD (i + 1) 0), by rw [List.map_map]; rfl, ?_⟩
    have e : ((List.range (ns.length - 1)).map fun i => decide (ns.getD i 0 < ns.getD (i + 1) 0)).all id = ascI ns := by
      unfold ascI
      rw [List.all_map]; rfl
    rw [e]
    exact q
end K0

namespace K0
open PySem PySem.Spec PyProof.Rows L2 DL PySem.NumText
local macro_rules | `(tactic| walk_at "vis") => `(tactic| first | exact .inl rfl | exact .inr (.inl rfl) | exact .inr (.inr rfl))
local macro_rules | `(tactic| walk_at "loc") => `(tactic| first | exact .inl rfl | exact .inr rfl)
local macro_rules | `(tactic| walk_at "dlName") => `(tactic| first
  | ((with_reducible show We _ (Expr.Name "int" _) _ _ _); refine we_tyInt (by assumption) rfl ?_)
  | ((with_reducible show We _ (Expr.Name "bool" _) _ _ _); refine we_tyBool (by assumption) rfl ?_)
  | ((with_reducible show We _ (Expr.Name "str" _) _ _ _); refine we_tyStr (by assumption) rfl ?_)
  | ((with_reducible show We _ (Expr.Name "list" _) _ _ _); refine we_tyList (by assumption) rfl ?_)
  | ((with_reducible show We _ (Expr.Name "tuple" _) _ _ _); refine we_tyTuple (by assumption) rfl ?_)
  | ((with_reducible show We _ (Expr.Name "dict" _) _ _ _); refine we_tyDict (by assumption) rfl ?_)
  | (refine we_nm rfl rfl ?v ?_; (case v => walk_at "vis"))
  | refine we_gstr (by assumption) rfl ?_ | refine we_gint (by assumption) rfl ?_)
local macro_rules | `(tactic| walk_at "dlCall") => `(tactic| first
  | ((with_reducible show We _ (Expr.Call (Expr.Name "isinstance" _) _ [] _) _ _ _); refine we_isi (by assumption) rfl ?_)
  | ((with_reducible show We _ (Expr.Call (Expr.Name "len" _) _ [] _) _ _ _); refine we_len (by assumption) rfl ?_)
  | ((with_reducible show We _ (Expr.Call (Expr.Name "all" _) _ [] _) _ _ _); refine we_all (by assumption) rfl rfl ?_)
  | ((with_reducible show We _ (Expr.Call (Expr.Name "abs" _) _ [] _) _ _ _); refine we_abs (by assumption) rfl ?_)
  | ((with_reducible show We _ (Expr.Call (Expr.Name "int" _) _ [] _) _ _ _); refine we_int_ (by assumption) rfl ?_)
  | ((with_reducible show We _ (Expr.Call (Expr.Name "str" _) _ [] _) _ _ _); refine we_str_ (by assumption) rfl ?_)
  | ((with_reducible show We _ (Expr.Call (Expr.Name "tuple" _) _ [] _) _ _ _); refine we_tuple_ (by assumption) rfl ?_)
  | ((with_reducible show We _ (Expr.Call (Expr.Name "list" _) _ [] _) _ _ _); refine we_list_ (by assumption) rfl ?_)
  | ((with_reducible show We _ (Expr.Call (Expr.Name "sum" _) _ [] _) _ _ _); refine we_sum (by assumption) rfl rfl ?_)
  | ((with_reducible show We _ (Expr.Call (Expr.Name "max" _) _ [] _) _ _ _); refine we_max (by assumption) rfl rfl ?_)
  | ((with_reducible show We _ (Expr.Call (Expr.Name "min" _) _ [] _) _ _ _); refine we_min (by assumption) rfl rfl ?_)
  | (refine' we_call ?hd ?hk ?hg ?hh ?_; (case hd => assumption); (case hk => exact Nat.le_of_ble_eq_true rfl); (case hg => rfl); (case hh => rfl)))
local macro_rules | `(tactic| walk_at "dlE") => `(tactic| first
  | ((with_reducible show We _ (Expr.Name _ _) _ _ _); walk_at "dlName")
  | ((with_reducible show We _ (Expr.Constant _ _ _) _ _ _); first | refine we_int ?_ | refine we_str ?_ | refine we_bl ?_ | refine we_non ?_)
  | ((with_reducible show We _ (Expr.Call (Expr.Name _ _) _ [] _) _ _ _); walk_at "dlCall")
  | ((with_reducible show We _ (Expr.BoolOp _ _ _) _ _ _); first | refine we_and ?_ | refine we_or ?_ | refine we_one ?_)
  | ((with_reducible show We _ (Expr.UnaryOp _ _ _) _ _ _); first | refine we_not ?_ | refine we_neg ?_)
  | ((with_reducible show We _ (Expr.Compare _ [_] _ _) _ _ _); refine we_cmp ?_)
  | ((with_reducible show We _ (Expr.Compare _ [_, _] _ _) _ _ _); refine we_chain ?_)
  | ((with_reducible show We _ (Expr.BinOp _ _ _ _) _ _ _); refine we_bin ?_)
  | ((with_reducible show We _ (Expr.IfExp _ _ _ _) _ _ _); refine we_if ?_)
  | ((with_reducible show We _ (Expr.Tuple _ _ _) _ _ _); refine we_tup ?_)
  | ((with_reducible show We _ (Expr.List _ _) _ _ _); refine we_lst ?_)
  | ((with_reducible show We _ (Expr.Subscript _ (Expr.Slice _ _ none _) _) _ _ _); refine we_slice ?_)
  | ((with_reducible show We _ (Expr.Subscript _ _ _) _ _ _); refine we_ix ?_)
  | ((with_reducible show We _ (Expr.JoinedStr _ _) _ _ _); refine we_joined ?_)
  | ((with_reducible show We _ (Expr.FormattedValue _ _ _ _) _ _ _); refine we_fmt ?_)
  | ((with_reducible show We _ (Expr.ListComp _ _ _ _) _ _ _); refine we_lc rfl (by kernel_rfl) ?_))
local macro_rules | `(tactic| walk_at "dlT") => `(tactic| first
  | ((with_reducible show WT _ (Expr.UnaryOp _ _ _) _ _ _); refine wt_not ?_)
  | ((with_reducible show WT _ (Expr.Compare _ [_] _ _) _ _ _); refine wt_cmp ?_)
  | ((with_reducible show WT _ (Expr.Compare _ [_, _] _ _) _ _ _); refine wt_chain ?_)
  | ((with_reducible show WT _ (Expr.BoolOp _ _ _) _ _ _); refine WW.wt ?_)
  | refine wt_val ?_)
local macro_rules | `(tactic| walk_at "dlS") => `(tactic| first
  | ((with_reducible show WS _ (Stmt.Return _ _) _ _ _); first | refine ws_ret ?_ | refine ws_retN ?_)
  | ((with_reducible show WS _ (Stmt.If _ _ _ _) _ _ _); refine ws_if ?_)
  | ((with_reducible show WS _ (Stmt.Assign [Expr.Name _ _] _ _) _ _ _); (refine ws_nm rfl ?v ?_; (case v => walk_at "loc")))
  | ((with_reducible show WS _ (Stmt.Assign [Expr.Tuple [Expr.Name _ _, Expr.Name _ _] _ _] (Expr.Tuple [_, _] _ _) _) _ _ _); (refine ws_pr rfl rfl rfl (by kernel_rfl) rfl rfl ?_ ?hw; (case hw => (intro env he; obtain ⟨⟩ := env; cases he; kernel_rfl))))
  | ((with_reducible show WS _ (Stmt.Assign [Expr.Tuple _ _ _] _ _) _ _ _); refine ws_asg ?_)
  | ((with_reducible show WS _ (Stmt.Expr _ _) _ _ _); refine ws_expr ?_)
  | ((with_reducible show WS _ (Stmt.Pass _) _ _ _); refine ws_pass ?_))
local macro_rules | `(tactic| walk_at "dlQ") => `(tactic| first
  | ((with_reducible show BinQ _ _ _ _ _); first | refine q_addi ?_ | refine q_subi ?_ | refine q_subb ?_)
  | ((with_reducible show CmpQ _ _ _ _ _); first | refine q_lti ?_ | refine q_lei ?_ | refine q_gti ?_ | refine q_gei ?_ | refine q_eqi ?_ | refine q_nei ?_ | refine q_eqs ?_ | refine q_nes ?_ | refine q_insg ?_ | refine q_nisg ?_)
  | ((with_reducible show IsiQ _ _ _); refine q_isi (by first | assumption | rfl) ?_)
  | ((with_reducible show LenQ _ _ _); first | refine q_lent ?_ | refine q_lenl ?_ | refine q_lens (by assumption) ?_ | refine q_lenr ?_)
  | ((with_reducible show TruQ _ _ _); refine q_trub ?_)
  | ((with_reducible show LcF _ _ _); refine q_lcf ?_)
  | ((with_reducible show TupQ _ _ _); first | refine q_tupl ?_ | refine q_tupt ?_)
  | ((with_reducible show LstQ _ _ _); first | refine q_lstl ?_ | refine q_lstt ?_)
  | ((with_reducible show AbsQ _ _ _); refine q_abs ?_)
  | ((with_reducible show IxQ _ _ _ _); first | refine q_ixt rfl ?_ | refine q_ixl rfl ?_)
  | ((with_reducible show SlQ _ _ _ _ _); first | refine q_slt ?_ | refine q_sll ?_ | refine q_sls (by assumption) ?_ | refine q_slr ?_)
  | ((with_reducible show IntQ _ _ _); first | refine q_inti ?_ | refine q_intb ?_)
  | ((with_reducible show if _ = true then _ else _); first | refine ift rfl ?_ | refine iff_ rfl ?_)
  | ((with_reducible show ∃ k, D.bl _ = D.bl k ∧ _); refine ⟨_, rfl, ?_⟩)
  | ((with_reducible show BlQ _ _ _); refine ⟨_, rfl, ?_⟩)
  | ((with_reducible show _ ≤ sizeLine ∧ _); refine ⟨by first | exact Nat.zero_le _ | exact Nat.le_of_ble_eq_true rfl | assumption, ?_⟩))
local macro_rules | `(tactic| walk_at "dl") => `(tactic| first
  | ((with_reducible show We _ _ _ _ _); walk_at "dlE")
  | ((with_reducible show WA _ _ _ _ _); first | refine wa_cons ?_ | refine wa_nil ?_)
  | ((with_reducible show WT _ _ _ _ _); walk_at "dlT")
  | ((with_reducible show WW _ _ _ _ _); first | refine ww_and ?_ | refine ww_or ?_ | refine ww_and1 ?_ | refine ww_or1 ?_)
  | ((with_reducible show WS _ _ _ _ _); walk_at "dlS")
  | ((with_reducible show WSs _ _ _ _ _); first | refine wss_cons ?_ | refine wss_nil ?_)
  | ((with_reducible show ChQ _ _ _ _ _ _ _ _ _); (show We _ _ _ _ _))
  | ((with_reducible show PiD _ _ (Expr.Call (Expr.Name "range" _) [_] _ _) _ _ _); refine pi_rg (by assumption) rfl ?_)
  | ((with_reducible show PiD _ _ (Expr.Call (Expr.Name "range" _) [_, _] _ _) _ _ _); refine pi_rg2 (by assumption) rfl ?_)
  | ((with_reducible show WGo _ _ (Expr.Name _ _) _ _ _ _); refine wgo_nb rfl (by walk_at "loc") (by kernel_rfl) ?_)
  | ((with_reducible show WG _ (Expr.Tuple _ _ _) _ _ _ _); refine wg_tup rfl rfl ?_)
  | ((with_reducible show WGs _ _ _ _ _ _); first | refine wgs_cons ?_ | refine wgs_nil ?_)
  | ((with_reducible show WGo _ _ (Expr.Tuple _ _ _) _ _ _ _); refine wgo_tup rfl rfl ?_)
  | ((with_reducible show WGso _ _ _ _ _ _ _); first | refine wgso_cons ?_ | refine wgso_nil ?_)
  | ((with_reducible show WG _ (Expr.Name _ _) _ _ _ _); refine wg_nm rfl (by walk_at "loc") ?_)
  | ((with_reducible show WO _ _ _ _ _); first | refine wo_none ?_ | refine wo_some ?_)
  | ((with_reducible show WI _ _ _ _ _); first | refine wi_nil ?_ | refine wi_one ?_)
  | ((with_reducible show WJ _ _ _ _ _ _); first | refine wj_cons ?_ | refine wj_nil ?_)
  | walk_at "dlQ")
/-! ### common -/
def spCommon : SpD := fun ds O Q _ => ∃ a b : Nat, ds = [.int (a : Int), .int (b : Int)] ∧ Q (.int (Nat.gcd a b : Nat)) O
theorem ok_common {M : Mo} {f : Addr} {fd : FuncData} (hm : M.mg "common" = some (.ref f)) (Fn : Fun M.K "common" "common" (topS 32) f fd) : DefD M "common" (topS 32) ["one", "other"] 1 spCommon := by
  refine def_ok (N := ["one", "other"]) hm Fn ⟨rfl, rfl, rfl, by decide +kernel, rfl, by decide +kernel, by decide +kernel⟩ (fun _ _ _ _ _ _ us hl => match us, hl with | [_, _], _ => rfl) (fun ds O Q E ⟨a, b, e, _⟩ => by rw [e]; rfl) fun F ds O Qd Ed ⟨a, b, e, q⟩ => ?_
  subst e
  repeat walk_at "dl"
  refine ws_while (fun n ρ' O' => ∃ x y : Nat, ρ' = [some (.int (x : Int)), some (.int (y : Int))] ∧ O' = O ∧ y = n ∧ Nat.gcd x y = Nat.gcd a b) b ⟨a, b, rfl, rfl, rfl, rfl⟩ fun n ρ' O' ⟨x, y, e1, e2, e3, e4⟩ => ?_
  subst e1 e2 e3
  repeat walk_at "dl"
  refine if2 (fun h => ?_) (fun h => ?_)
  · have hy : 0 < y := by
      rcases Nat.eq_zero_or_pos y with z | z
      · subst z; exact absurd h (by decide)
      · exact z
    repeat walk_at "dl"
    refine q_modi (by omega) ?_
    repeat walk_at "dl"
    refine ⟨x % y, Nat.mod_lt x hy, y, x % y, rfl, rfl, rfl, ?_⟩
    rw [← e4, Nat.gcd_comm x y, Nat.gcd_rec y x, Nat.gcd_comm]
  · have hy : y = 0 := by
      have h : (!((y : Int) == 0)) = false := h
      have h2 : ((y : Int) == 0) = true := by simpa using h
      have h3 : (y : Int) = 0 := by simpa using h2
      omega
    subst hy
    rw [Nat.gcd_zero_right] at e4
    repeat walk_at "dl"
    rw [e4]
    exact q
/-! ### count_in -/
def digB (c : Nat) : Bool := decide (c ∈ (Str.ofString "0123456789").cps.toList)
def optD : Option Nat → D
  | some n => .int (n : Int)
  | none => .non
def allDig (w : Str) : Bool := w.cps.toList.all digB
def fits20 (w : Str) : Bool := decide (1 ≤ w.length) && decide (w.length ≤ 20)
def lead (w : Str) : Bool := w == Str.ofString "0" || !(w.cps.toList.head? == some 48)
def cntO (w : Str) : Option Nat := if (fits20 w && allDig w && lead w) = true then some (digitsVal w.cps.toList) else none
theorem digB_iff {c : Nat} : digB c = true ↔ 48 ≤ c ∧ c ≤ 57 := by
  have e : (Str.ofString "0123456789").cps.toList = [48, 49, 50, 51, 52, 53, 54, 55, 56, 57] := by decide +kernel
  unfold digB
  rw [e, decide_eq_true_iff]
  simp only [List.mem_cons, List.not_mem_nil, or_false]
  omega
def spCnt : SpD := fun ds O Q _ => ∃ w : Str, ds = [.str w] ∧ w.length ≤ sizeLine ∧ Q (optD (cntO w)) O
theorem len_cps {w : Str} : w.length = w.cps.toList.length := by rw [Array.length_toList]; rfl
theorem cnt_int {w : Str} (h1 : fits20 w = true) (h2 : allDig w = true) : PySem.intText? w = some ((digitsVal w.cps.toList : Nat) : Int) ∧ w.length ≤ 640 := by
  unfold fits20 at h1
  rw [Bool.and_eq_true, decide_eq_true_iff, decide_eq_true_iff] at h1
  refine ⟨intText_digits (fun c hc => ?_) (fun e => ?_) (by omega), by omega⟩
  · unfold allDig at h2
    exact digB_iff.mp (List.all_eq_true.mp h2 c hc)
  · have z := h1.1
    rw [len_cps, e] at z
    exact absurd z (by decide)
structure Names (M : Mo) : Prop where
  digits : ∃ t, M.mg "DIGITS" = some (.str "0123456789" t)
  most : ∃ t, M.mg "MOST_DIGITS" = some (.int 20 t)
  mostEvent : ∃ t, M.mg "MOST_EVENT" = some (.int 99 t)
  mostLetters : ∃ t, M.mg "MOST_LETTERS" = some (.int 8 t)
  none : ∃ t, M.mg "NONE" = some (.str "none" t)
theorem ok_count_in {M : Mo} {f : Addr} {fd : FuncData} (B : Blt M) (Nm : Names M) (hm : M.mg "count_in" = some (.ref f)) (Fn : Fun M.K "count_in" "count_in" (topS 33) f fd) : DefD M "count_in" (topS 33) ["word"] 1 spCnt := by
  obtain ⟨t1, g1⟩ := Nm.digits
  obtain ⟨t2, g2⟩ := Nm.most
  refine def_ok (N := ["word", "sign"]) hm Fn ⟨rfl, rfl, rfl, by decide +kernel, rfl, by decide +kernel, by decide +kernel⟩ (fun _ _ _ _ _ _ us hl => match us, hl with | [_], _ => rfl) (fun ds O Q E ⟨w, e, _⟩ => by rw [e]; rfl) fun F ds O Qd Ed ⟨w, e, hz, q⟩ => ?_
  subst e
  have hz' : w.length ≤ 16777216 := hz
  repeat walk_at "dl"
  have none_ : fits20 w = false ∨ allDig w = false → Qd .non O := fun h => by
    have e : cntO w = none := by
      unfold cntO
      rcases h with h | h <;> simp [h]
    rw [e] at q; exact q
  refine if2 (fun h1 => ?_) (fun h1 => ?_)
  · have g1 : 1 ≤ w.length := by have := of_decide_eq_true h1; omega
    repeat walk_at "dl"
    refine if2 (fun h2 => ?_) (fun h2 => ?_)
    · have h2 : decide ((w.length : Int) ≤ 20) = false := by simpa using h2
      repeat walk_at "dl"
      refine none_ (.inl ?_)
      unfold fits20
      rw [show decide (w.length ≤ 20) = false from decide_eq_false fun z => of_decide_eq_false h2 (by omega), Bool.and_false]
    · have h2 : decide ((w.length : Int) ≤ 20) = true := by simpa using h2
      have g2 : w.length ≤ 20 := by have := of_decide_eq_true h2; omega
      have gf : fits20 w = true := by unfold fits20; rw [decide_eq_true g1, decide_eq_true g2]; rfl
      repeat walk_at "dl"
      refine pi_st ?_
      repeat walk_at "dl"
      refine ⟨w, rfl, lc_mapA w.cps.toList (fun c => D.str ⟨#[c]⟩) (fun c => .bl (digB c)) (by rw [← len_cps]; exact hz) (fun F0 c hc => ?_) ?_⟩
      · repeat walk_at "dl"
        exact ⟨rfl, rfl⟩
      · refine ⟨w.cps.toList.map digB, by rw [List.map_map]; rfl, ?_⟩
        have e : (w.cps.toList.map digB).all id = allDig w := by unfold allDig; rw [List.all_map]; rfl
        rw [e]
        repeat walk_at "dl"
        refine if2 (fun h3 => ?_) (fun h3 => ?_)
        · have h3 : allDig w = false := by simpa using h3
          repeat walk_at "dl"
          exact none_ (.inr h3)
        · have h3 : allDig w = true := by simpa using h3
          obtain ⟨i1, i2⟩ := cnt_int gf h3
          have fin : lead w = true → Qd (.int (digitsVal w.cps.toList : Nat)) O := fun hl => by
            have e : cntO w = some (digitsVal w.cps.toList) := by unfold cntO; rw [gf, h3, hl]; rfl
            rw [e] at q; exact q
          repeat walk_at "dl"
          refine if2 (fun h4 => ?_) (fun h4 => ?_)
          · repeat walk_at "dl"
            exact ⟨_, i1, i2, fin (by unfold lead; rw [h4]; rfl)⟩
          · repeat walk_at "dl"
            obtain ⟨c, r, hc⟩ : ∃ c r, w.cps.toList = c :: r := by
              cases hcs : w.cps.toList with
              | nil => rw [len_cps, hcs] at g1; exact absurd g1 (by decide)
              | cons c r => exact ⟨c, r, rfl⟩
            refine q_ixs hz (c := c) (at_nat (i := 0) rfl (by rw [hc]; rfl)) ?_
            repeat walk_at "dl"
            have eh : ((⟨#[c]⟩ : Str) == Str.ofString "0") = (c == 48) := by
              have e0 : Str.ofString "0" = ⟨#[48]⟩ := by decide +kernel
              rw [e0]
              by_cases z : c = 48
              · subst z; rfl
              · have z2 : (c == 48) = false := by simpa using z
                rw [z2]
                refine beq_false_of_ne fun y => z ?_
                have y2 : (#[c] : Array Nat) = #[48] := congrArg Str.cps y
                simpa using y2
            rw [eh]
            refine if2 (fun h5 => ?_) (fun h5 => ?_)
            · repeat walk_at "dl"
              refine ⟨_, i1, i2, fin ?_⟩
              unfold lead
              rw [hc]
              have h5 : (c == 48) = false := by simpa using h5
              have h6 : c ≠ 48 := by simpa using h5
              simp [h6]
            · have h5 : c = 48 := by simpa using h5
              repeat walk_at "dl"
              have e : cntO w = none := by
                unfold cntO lead
                rw [h4, hc, h5]
                simp
              rw [e] at q
              exact q
  · have h1 : ¬ (1 ≤ w.length) := fun z => of_decide_eq_false h1 (by omega)
    repeat walk_at "dl"
    refine none_ (.inl ?_)
    unfold fits20
    rw [decide_eq_false h1, Bool.false_and]
end K0

namespace K0
open PySem PySem.Spec PyProof.Rows L2 DL PySem.NumText
local macro_rules | `(tactic| walk_at "vis") => `(tactic| first | exact .inl rfl | exact .inr (.inl rfl) | exact .inr (.inr rfl))
local macro_rules | `(tactic| walk_at "loc") => `(tactic| first | exact .inl rfl | exact .inr rfl)
local macro_rules | `(tactic| walk_at "dlName") => `(tactic| first
  | ((with_reducible show We _ (Expr.Name "int" _) _ _ _); refine we_tyInt (by assumption) rfl ?_)
  | ((with_reducible show We _ (Expr.Name "bool" _) _ _ _); refine we_tyBool (by assumption) rfl ?_)
  | ((with_reducible show We _ (Expr.Name "str" _) _ _ _); refine we_tyStr (by assumption) rfl ?_)
  | ((with_reducible show We _ (Expr.Name "list" _) _ _ _); refine we_tyList (by assumption) rfl ?_)
  | ((with_reducible show We _ (Expr.Name "tuple" _) _ _ _); refine we_tyTuple (by assumption) rfl ?_)
  | ((with_reducible show We _ (Expr.Name "dict" _) _ _ _); refine we_tyDict (by assumption) rfl ?_)
  | (refine we_nm rfl rfl ?v ?_; (case v => walk_at "vis"))
  | refine we_gstr (by assumption) rfl ?_ | refine we_gint (by assumption) rfl ?_)
local macro_rules | `(tactic| walk_at "dlCall") => `(tactic| first
  | ((with_reducible show We _ (Expr.Call (Expr.Name "isinstance" _) _ [] _) _ _ _); refine we_isi (by assumption) rfl ?_)
  | ((with_reducible show We _ (Expr.Call (Expr.Name "len" _) _ [] _) _ _ _); refine we_len (by assumption) rfl ?_)
  | ((with_reducible show We _ (Expr.Call (Expr.Name "all" _) _ [] _) _ _ _); refine we_all (by assumption) rfl rfl ?_)
  | ((with_reducible show We _ (Expr.Call (Expr.Name "abs" _) _ [] _) _ _ _); refine we_abs (by assumption) rfl ?_)
  | ((with_reducible show We _ (Expr.Call (Expr.Name "int" _) _ [] _) _ _ _); refine we_int_ (by assumption) rfl ?_)
  | ((with_reducible show We _ (Expr.Call (Expr.Name "str" _) _ [] _) _ _ _); refine we_str_ (by assumption) rfl ?_)
  | ((with_reducible show We _ (Expr.Call (Expr.Name "tuple" _) _ [] _) _ _ _); refine we_tuple_ (by assumption) rfl ?_)
  | ((with_reducible show We _ (Expr.Call (Expr.Name "list" _) _ [] _) _ _ _); refine we_list_ (by assumption) rfl ?_)
  | ((with_reducible show We _ (Expr.Call (Expr.Name "sum" _) _ [] _) _ _ _); refine we_sum (by assumption) rfl rfl ?_)
  | ((with_reducible show We _ (Expr.Call (Expr.Name "max" _) _ [] _) _ _ _); refine we_max (by assumption) rfl rfl ?_)
  | ((with_reducible show We _ (Expr.Call (Expr.Name "min" _) _ [] _) _ _ _); refine we_min (by assumption) rfl rfl ?_)
  | (refine' we_call ?hd ?hk ?hg ?hh ?_; (case hd => assumption); (case hk => exact Nat.le_of_ble_eq_true rfl); (case hg => rfl); (case hh => rfl)))
local macro_rules | `(tactic| walk_at "dlE") => `(tactic| first
  | ((with_reducible show We _ (Expr.Name _ _) _ _ _); walk_at "dlName")
  | ((with_reducible show We _ (Expr.Constant _ _ _) _ _ _); first | refine we_int ?_ | refine we_str ?_ | refine we_bl ?_ | refine we_non ?_)
  | ((with_reducible show We _ (Expr.Call (Expr.Name _ _) _ [] _) _ _ _); walk_at "dlCall")
  | ((with_reducible show We _ (Expr.BoolOp _ _ _) _ _ _); first | refine we_and ?_ | refine we_or ?_ | refine we_one ?_)
  | ((with_reducible show We _ (Expr.UnaryOp _ _ _) _ _ _); first | refine we_not ?_ | refine we_neg ?_)
  | ((with_reducible show We _ (Expr.Compare _ [_] _ _) _ _ _); refine we_cmp ?_)
  | ((with_reducible show We _ (Expr.Compare _ [_, _] _ _) _ _ _); refine we_chain ?_)
  | ((with_reducible show We _ (Expr.BinOp _ _ _ _) _ _ _); refine we_bin ?_)
  | ((with_reducible show We _ (Expr.IfExp _ _ _ _) _ _ _); refine we_if ?_)
  | ((with_reducible show We _ (Expr.Tuple _ _ _) _ _ _); refine we_tup ?_)
  | ((with_reducible show We _ (Expr.List _ _) _ _ _); refine we_lst ?_)
  | ((with_reducible show We _ (Expr.Subscript _ (Expr.Slice _ _ none _) _) _ _ _); refine we_slice ?_)
  | ((with_reducible show We _ (Expr.Subscript _ _ _) _ _ _); refine we_ix ?_)
  | ((with_reducible show We _ (Expr.JoinedStr _ _) _ _ _); refine we_joined ?_)
  | ((with_reducible show We _ (Expr.FormattedValue _ _ _ _) _ _ _); refine we_fmt ?_)
  | ((with_reducible show We _ (Expr.ListComp _ _ _ _) _ _ _); refine we_lc rfl (by kernel_rfl) ?_))
local macro_rules | `(tactic| walk_at "dlT") => `(tactic| first
  | ((with_reducible show WT _ (Expr.UnaryOp _ _ _) _ _ _); refine wt_not ?_)
  | ((with_reducible show WT _ (Expr.Compare _ [_] _ _) _ _ _); refine wt_cmp ?_)
  | ((with_reducible show WT _ (Expr.Compare _ [_, _] _ _) _ _ _); refine wt_chain ?_)
  | ((with_reducible show WT _ (Expr.BoolOp _ _ _) _ _ _); refine WW.wt ?_)
  | refine wt_val ?_)
local macro_rules | `(tactic| walk_at "dlS") => `(tactic| first
  | ((with_reducible show WS _ (Stmt.Return _ _) _ _ _); first | refine ws_ret ?_ | refine ws_retN ?_)
  | ((with_reducible show WS _ (Stmt.If _ _ _ _) _ _ _); refine ws_if ?_)
  | ((with_reducible show WS _ (Stmt.Assign [Expr.Name _ _] _ _) _ _ _); (refine ws_nm rfl ?v ?_; (case v => walk_at "loc")))
  | ((with_reducible show WS _ (Stmt.Assign [Expr.Tuple [Expr.Name _ _, Expr.Name _ _] _ _] (Expr.Tuple [_, _] _ _) _) _ _ _); (refine ws_pr rfl rfl rfl (by kernel_rfl) rfl rfl ?_ ?hw; (case hw => (intro env he; obtain ⟨⟩ := env; cases he; kernel_rfl))))
  | ((with_reducible show WS _ (Stmt.Assign [Expr.Tuple _ _ _] _ _) _ _ _); refine ws_asg ?_)
  | ((with_reducible show WS _ (Stmt.Expr _ _) _ _ _); refine ws_expr ?_)
  | ((with_reducible show WS _ (Stmt.Pass _) _ _ _); refine ws_pass ?_))
local macro_rules | `(tactic| walk_at "dlQ") => `(tactic| first
  | ((with_reducible show BinQ _ _ _ _ _); first | refine q_addi ?_ | refine q_subi ?_ | refine q_subb ?_)
  | ((with_reducible show CmpQ _ _ _ _ _); first | refine q_lti ?_ | refine q_lei ?_ | refine q_gti ?_ | refine q_gei ?_ | refine q_eqi ?_ | refine q_nei ?_ | refine q_eqs ?_ | refine q_nes ?_ | refine q_insg ?_ | refine q_nisg ?_)
  | ((with_reducible show IsiQ _ _ _); refine q_isi (by first | assumption | rfl) ?_)
  | ((with_reducible show LenQ _ _ _); first | refine q_lent ?_ | refine q_lenl ?_ | refine q_lens (by assumption) ?_ | refine q_lenr ?_)
  | ((with_reducible show TruQ _ _ _); refine q_trub ?_)
  | ((with_reducible show LcF _ _ _); refine q_lcf ?_)
  | ((with_reducible show TupQ _ _ _); first | refine q_tupl ?_ | refine q_tupt ?_)
  | ((with_reducible show LstQ _ _ _); first | refine q_lstl ?_ | refine q_lstt ?_)
  | ((with_reducible show AbsQ _ _ _); refine q_abs ?_)
  | ((with_reducible show IxQ _ _ _ _); first | refine q_ixt rfl ?_ | refine q_ixl rfl ?_)
  | ((with_reducible show SlQ _ _ _ _ _); first | refine q_slt ?_ | refine q_sll ?_ | refine q_sls (by assumption) ?_ | refine q_slr ?_)
  | ((with_reducible show IntQ _ _ _); first | refine q_inti ?_ | refine q_intb ?_)
  | ((with_reducible show if _ = true then _ else _); first | refine ift rfl ?_ | refine iff_ rfl ?_)
  | ((with_reducible show ∃ k, D.bl _ = D.bl k ∧ _); refine ⟨_, rfl, ?_⟩)
  | ((with_reducible show BlQ _ _ _); refine ⟨_, rfl, ?_⟩)
  | ((with_reducible show _ ≤ sizeLine ∧ _); refine ⟨by first | exact Nat.zero_le _ | exact Nat.le_of_ble_eq_true rfl | assumption, ?_⟩))
local macro_rules | `(tactic| walk_at "dl") => `(tactic| first
  | ((with_reducible show We _ _ _ _ _); walk_at "dlE")
  | ((with_reducible show WA _ _ _ _ _); first | refine wa_cons ?_ | refine wa_nil ?_)
  | ((with_reducible show WT _ _ _ _ _); walk_at "dlT")
  | ((with_reducible show WW _ _ _ _ _); first | refine ww_and ?_ | refine ww_or ?_ | refine ww_and1 ?_ | refine ww_or1 ?_)
  | ((with_reducible show WS _ _ _ _ _); walk_at "dlS")
  | ((with_reducible show WSs _ _ _ _ _); first | refine wss_cons ?_ | refine wss_nil ?_)
  | ((with_reducible show ChQ _ _ _ _ _ _ _ _ _); (show We _ _ _ _ _))
  | ((with_reducible show PiD _ _ (Expr.Call (Expr.Name "range" _) [_] _ _) _ _ _); refine pi_rg (by assumption) rfl ?_)
  | ((with_reducible show PiD _ _ (Expr.Call (Expr.Name "range" _) [_, _] _ _) _ _ _); refine pi_rg2 (by assumption) rfl ?_)
  | ((with_reducible show WGo _ _ (Expr.Name _ _) _ _ _ _); refine wgo_nb rfl (by walk_at "loc") (by kernel_rfl) ?_)
  | ((with_reducible show WG _ (Expr.Tuple _ _ _) _ _ _ _); refine wg_tup rfl rfl ?_)
  | ((with_reducible show WGs _ _ _ _ _ _); first | refine wgs_cons ?_ | refine wgs_nil ?_)
  | ((with_reducible show WGo _ _ (Expr.Tuple _ _ _) _ _ _ _); refine wgo_tup rfl rfl ?_)
  | ((with_reducible show WGso _ _ _ _ _ _ _); first | refine wgso_cons ?_ | refine wgso_nil ?_)
  | ((with_reducible show WG _ (Expr.Name _ _) _ _ _ _); refine wg_nm rfl (by walk_at "loc") ?_)
  | ((with_reducible show WO _ _ _ _ _); first | refine wo_none ?_ | refine wo_some ?_)
  | ((with_reducible show WI _ _ _ _ _); first | refine wi_nil ?_ | refine wi_one ?_)
  | ((with_reducible show WJ _ _ _ _ _ _); first | refine wj_cons ?_ | refine wj_nil ?_)
  | walk_at "dlQ")
/-! ### counts_in -/
def cntsO (ws : List Str) : Option (List Nat) := if (ws.all fun w => (cntO w).isSome) = true then some (ws.map fun w => (cntO w).getD 0) else none
def cntsD : Option (List Nat) → D
  | some ns => .tup (ns.map fun n : Nat => .int (n : Int))
  | none => .non
def spCnts : SpD := fun ds O Q _ => ∃ ws : List Str, ds = [.lst (ws.map .str)] ∧ ws.length ≤ sizeLine ∧ (∀ w ∈ ws, w.length ≤ sizeLine) ∧ Q (cntsD (cntsO ws)) O
theorem in_none (os : List (Option Nat)) : inD .non (os.map optD) = os.any fun o => o.isNone := by
  unfold inD
  induction os with
  | nil => rfl
  | cons o r ih =>
    rw [List.map_cons, List.map_cons, List.any_cons, ← ih]
    cases o <;> rfl
theorem flat_opts (os : List (Option Nat)) : (os.map optD).all flatD = true := by
  induction os with
  | nil => rfl
  | cons o r ih =>
    rw [List.map_cons, List.all_cons, ih]
    cases o <;> rfl
theorem none_any (ws : List Str) : ((ws.map cntO).any fun o => o.isNone) = !(ws.all fun w => (cntO w).isSome) := by
  rw [List.any_map]
  induction ws with
  | nil => rfl
  | cons w r ih =>
    rw [List.any_cons, List.all_cons, Bool.not_and, ih]
    congr 1
    show (cntO w).isNone = !(cntO w).isSome
    cases cntO w <;> rfl
theorem opts_some {ws : List Str} (h : (ws.all fun w => (cntO w).isSome) = true) : (ws.map cntO).map optD = (ws.map fun w => (cntO w).getD 0).map fun n : Nat => D.int (n : Int) := by
  rw [List.map_map, List.map_map]
  refine List.map_congr_left fun w hw => ?_
  have z := List.all_eq_true.mp h w hw
  show optD (cntO w) = .int (((cntO w).getD 0 : Nat) : Int)
  cases e : cntO w with
  | none => rw [e] at z; cases z
  | some n => rfl
theorem ok_counts_in {M : Mo} {f : Addr} {fd : FuncData} (B : Blt M) (h_count_in : DefD M "count_in" (topS 33) ["word"] 1 spCnt) (hm : M.mg "counts_in" = some (.ref f)) (Fn : Fun M.K "counts_in" "counts_in" (topS 34) f fd) : DefD M "counts_in" (topS 34) ["words"] 2 spCnts := by
  refine def_ok (N := ["words", "found", "word"]) hm Fn ⟨rfl, rfl, rfl, by decide +kernel, rfl, by decide +kernel, by decide +kernel⟩ (fun _ _ _ _ _ _ us hl => match us, hl with | [_], _ => rfl) (fun ds O Q E ⟨w, e, _⟩ => by rw [e]; rfl) fun F ds O Qd Ed ⟨ws, e, hz, hw, q⟩ => ?_
  subst e
  repeat walk_at "dl"
  refine pi_ls ?_
  repeat walk_at "dl"
  refine ⟨_, .inl rfl, lc_mapA ws D.str (fun w => optD (cntO w)) hz (fun F0 w hm => ?_) ?_⟩
  · repeat walk_at "dl"
    exact ⟨w, rfl, hw w hm, rfl, rfl⟩
  · have ee : (ws.map fun w => optD (cntO w)) = (ws.map cntO).map optD := by rw [List.map_map]; rfl
    rw [ee]
    repeat walk_at "dl"
    refine q_int rfl (flat_opts _) ?_
    rw [in_none]
    repeat walk_at "dl"
    rw [none_any]
    refine if2 (fun h => ?_) (fun h => ?_)
    · have h : (ws.all fun w => (cntO w).isSome) = false := by simpa using h
      have e : cntsO ws = none := by unfold cntsO; rw [h]; rfl
      rw [e] at q
      repeat walk_at "dl"
      exact q
    · have h : (ws.all fun w => (cntO w).isSome) = true := by simpa using h
      have e : cntsO ws = some (ws.map fun w => (cntO w).getD 0) := by unfold cntsO; rw [h]; rfl
      rw [e] at q
      rw [opts_some h]
      repeat walk_at "dl"
      exact q
/-! ### events, outcomes -/
def isEv : D → Bool := fromTo 0 99
def spEv : SpD := fun ds O Q _ => ∃ d t, ds = [d] ∧ tyD O d = some t ∧ Q (.bl (isEv d)) O
theorem ok_is_event {M : Mo} {f : Addr} {fd : FuncData} (Nm : Names M) (h_is_from_to : DefD M "is_from_to" (topS 29) ["value", "least", "most"] 2 spFromTo) (hm : M.mg "is_event" = some (.ref f)) (Fn : Fun M.K "is_event" "is_event" (topS 39) f fd) : DefD M "is_event" (topS 39) ["value"] 3 spEv := by
  obtain ⟨t1, g1⟩ := Nm.mostEvent
  refine def_ok (N := ["value"]) hm Fn ⟨rfl, rfl, rfl, by decide +kernel, rfl, by decide +kernel, by decide +kernel⟩ (fun _ _ _ _ _ _ us hl => match us, hl with | [_], _ => rfl) (fun ds O Q E ⟨d, t, e, _⟩ => by rw [e]; rfl) fun F ds O Qd Ed ⟨d, t, e, ht, q⟩ => ?_
  subst e
  repeat walk_at "dl"
  exact ⟨_, _, _, _, rfl, ht, q⟩
def intOf : D → Int
  | .int i => i
  | _ => 0
theorem ev_int {d : D} (h : isEv d = true) : d = .int (intOf d) ∧ 0 ≤ intOf d ∧ intOf d ≤ 99 := by
  cases d with
  | int i =>
    have h : (decide (0 ≤ i) && decide (i ≤ 99)) = true := h
    rw [Bool.and_eq_true, decide_eq_true_iff, decide_eq_true_iff] at h
    exact ⟨rfl, h.1, h.2⟩
  | _ => cases h
theorem evs_int {xs : List D} (h : xs.all isEv = true) : xs = (xs.map intOf).map D.int := by
  rw [List.map_map]
  have : xs.map (D.int ∘ intOf) = xs.map id := List.map_congr_left fun d hd => (ev_int (List.all_eq_true.mp h d hd)).1.symm
  rw [this, List.map_id]
def isOut : D → Bool
  | .tup xs => xs.all isEv && ascI (xs.map intOf)
  | _ => false
/-- what may be asked whether it is an outcome -/
def AskOut (O : Opens) (d : D) : Prop := (∃ t, tyD O d = some t) ∧ ∀ xs, d = .tup xs → xs.length ≤ sizeLine ∧ ∀ x ∈ xs, ∃ t, tyD O x = some t
def spOut : SpD := fun ds O Q _ => ∃ d, ds = [d] ∧ AskOut O d ∧ Q (.bl (isOut d)) O
theorem isOut_not {O : Opens} {d : D} {t : Ty} (h : tyD O d = some t) (m : t ≠ .tuple) : isOut d = false := by
  cases d with
  | tup i => cases h; exact absurd rfl m
  | _ => rfl
theorem ok_is_outcome {M : Mo} {f : Addr} {fd : FuncData} (B : Blt M) (h_is_event : DefD M "is_event" (topS 39) ["value"] 3 spEv) (h_ascends : DefD M "ascends" (topS 31) ["items"] 1 spAsc) (hm : M.mg "is_outcome" = some (.ref f)) (Fn : Fun M.K "is_outcome" "is_outcome" (topS 40) f fd) : DefD M "is_outcome" (topS 40) ["value"] 4 spOut := by
  refine def_ok (N := ["value", "item"]) hm Fn ⟨rfl, rfl, rfl, by decide +kernel, rfl, by decide +kernel, by decide +kernel⟩ (fun _ _ _ _ _ _ us hl => match us, hl with | [_], _ => rfl) (fun ds O Q E ⟨d, e, _⟩ => by rw [e]; rfl) fun F ds O Qd Ed ⟨d, e, ⟨⟨t, ht⟩, hx⟩, q⟩ => ?_
  subst e
  by_cases hi' : t = .tuple
  · subst hi'
    obtain ⟨xs, rfl⟩ := ty_tup ht
    obtain ⟨hz, hx⟩ := hx xs rfl
    repeat walk_at "dl"
    refine pi_tp ?_
    repeat walk_at "dl"
    refine ⟨xs, rfl, lc_mapD xs (fun d => .bl (isEv d)) hz (fun F0 x hm => ?_) ?_⟩
    · repeat walk_at "dl"
      obtain ⟨tx, htx⟩ := hx x hm
      exact ⟨x, tx, rfl, htx, rfl, rfl⟩
    · repeat walk_at "dl"
      refine ⟨xs.map isEv, by rw [List.map_map]; rfl, ?_⟩
      rw [show (xs.map isEv).all id = xs.all isEv from by rw [List.all_map]; rfl]
      repeat walk_at "dl"
      refine if2 (fun h => ?_) (fun h => ?_)
      · repeat walk_at "dl"
        refine ⟨xs.map intOf, by rw [← evs_int h], by rw [List.length_map]; exact hz, ?_⟩
        have e : isOut (.tup xs) = ascI (xs.map intOf) := by show (xs.all isEv && _) = _; rw [h]; rfl
        rw [e] at q; exact q
      · have e : isOut (.tup xs) = false := by show (xs.all isEv && _) = _; rw [h]; rfl
        rw [e] at q; exact q
  · rw [isOut_not ht hi'] at q
    repeat walk_at "dl"
    exact iff_ (by cases t <;> first | rfl | exact absurd rfl hi') q
end K0

namespace K0
open PySem PySem.Spec PyProof.Rows L2 DL PySem.NumText
local macro_rules | `(tactic| walk_at "vis") => `(tactic| first | exact .inl rfl | exact .inr (.inl rfl) | exact .inr (.inr rfl))
local macro_rules | `(tactic| walk_at "loc") => `(tactic| first | exact .inl rfl | exact .inr rfl)
local macro_rules | `(tactic| walk_at "dlName") => `(tactic| first
  | ((with_reducible show We _ (Expr.Name "int" _) _ _ _); refine we_tyInt (by assumption) rfl ?_)
  | ((with_reducible show We _ (Expr.Name "bool" _) _ _ _); refine we_tyBool (by assumption) rfl ?_)
  | ((with_reducible show We _ (Expr.Name "str" _) _ _ _); refine we_tyStr (by assumption) rfl ?_)
  | ((with_reducible show We _ (Expr.Name "list" _) _ _ _); refine we_tyList (by assumption) rfl ?_)
  | ((with_reducible show We _ (Expr.Name "tuple" _) _ _ _); refine we_tyTuple (by assumption) rfl ?_)
  | ((with_reducible show We _ (Expr.Name "dict" _) _ _ _); refine we_tyDict (by assumption) rfl ?_)
  | (refine we_nm rfl rfl ?v ?_; (case v => walk_at "vis"))
  | refine we_gstr (by assumption) rfl ?_ | refine we_gint (by assumption) rfl ?_)
local macro_rules | `(tactic| walk_at "dlCall") => `(tactic| first
  | ((with_reducible show We _ (Expr.Call (Expr.Name "isinstance" _) _ [] _) _ _ _); refine we_isi (by assumption) rfl ?_)
  | ((with_reducible show We _ (Expr.Call (Expr.Name "len" _) _ [] _) _ _ _); refine we_len (by assumption) rfl ?_)
  | ((with_reducible show We _ (Expr.Call (Expr.Name "all" _) _ [] _) _ _ _); refine we_all (by assumption) rfl rfl ?_)
  | ((with_reducible show We _ (Expr.Call (Expr.Name "abs" _) _ [] _) _ _ _); refine we_abs (by assumption) rfl ?_)
  | ((with_reducible show We _ (Expr.Call (Expr.Name "int" _) _ [] _) _ _ _); refine we_int_ (by assumption) rfl ?_)
  | ((with_reducible show We _ (Expr.Call (Expr.Name "str" _) _ [] _) _ _ _); refine we_str_ (by assumption) rfl ?_)
  | ((with_reducible show We _ (Expr.Call (Expr.Name "tuple" _) _ [] _) _ _ _); refine we_tuple_ (by assumption) rfl ?_)
  | ((with_reducible show We _ (Expr.Call (Expr.Name "list" _) _ [] _) _ _ _); refine we_list_ (by assumption) rfl ?_)
  | ((with_reducible show We _ (Expr.Call (Expr.Name "sum" _) _ [] _) _ _ _); refine we_sum (by assumption) rfl rfl ?_)
  | ((with_reducible show We _ (Expr.Call (Expr.Name "max" _) _ [] _) _ _ _); refine we_max (by assumption) rfl rfl ?_)
  | ((with_reducible show We _ (Expr.Call (Expr.Name "min" _) _ [] _) _ _ _); refine we_min (by assumption) rfl rfl ?_)
  | (refine' we_call ?hd ?hk ?hg ?hh ?_; (case hd => assumption); (case hk => exact Nat.le_of_ble_eq_true rfl); (case hg => rfl); (case hh => rfl)))
local macro_rules | `(tactic| walk_at "dlE") => `(tactic| first
  | ((with_reducible show We _ (Expr.Name _ _) _ _ _); walk_at "dlName")
  | ((with_reducible show We _ (Expr.Constant _ _ _) _ _ _); first | refine we_int ?_ | refine we_str ?_ | refine we_bl ?_ | refine we_non ?_)
  | ((with_reducible show We _ (Expr.Call (Expr.Name _ _) _ [] _) _ _ _); walk_at "dlCall")
  | ((with_reducible show We _ (Expr.BoolOp _ _ _) _ _ _); first | refine we_and ?_ | refine we_or ?_ | refine we_one ?_)
  | ((with_reducible show We _ (Expr.UnaryOp _ _ _) _ _ _); first | refine we_not ?_ | refine we_neg ?_)
  | ((with_reducible show We _ (Expr.Compare _ [_] _ _) _ _ _); refine we_cmp ?_)
  | ((with_reducible show We _ (Expr.Compare _ [_, _] _ _) _ _ _); refine we_chain ?_)
  | ((with_reducible show We _ (Expr.BinOp _ _ _ _) _ _ _); refine we_bin ?_)
  | ((with_reducible show We _ (Expr.IfExp _ _ _ _) _ _ _); refine we_if ?_)
  | ((with_reducible show We _ (Expr.Tuple _ _ _) _ _ _); refine we_tup ?_)
  | ((with_reducible show We _ (Expr.List _ _) _ _ _); refine we_lst ?_)
  | ((with_reducible show We _ (Expr.Subscript _ (Expr.Slice _ _ none _) _) _ _ _); refine we_slice ?_)
  | ((with_reducible show We _ (Expr.Subscript _ _ _) _ _ _); refine we_ix ?_)
  | ((with_reducible show We _ (Expr.JoinedStr _ _) _ _ _); refine we_joined ?_)
  | ((with_reducible show We _ (Expr.FormattedValue _ _ _ _) _ _ _); refine we_fmt ?_)
  | ((with_reducible show We _ (Expr.ListComp _ _ _ _) _ _ _); refine we_lc rfl (by kernel_rfl) ?_))
local macro_rules | `(tactic| walk_at "dlT") => `(tactic| first
  | ((with_reducible show WT _ (Expr.UnaryOp _ _ _) _ _ _); refine wt_not ?_)
  | ((with_reducible show WT _ (Expr.Compare _ [_] _ _) _ _ _); refine wt_cmp ?_)
  | ((with_reducible show WT _ (Expr.Compare _ [_, _] _ _) _ _ _); refine wt_chain ?_)
  | ((with_reducible show WT _ (Expr.BoolOp _ _ _) _ _ _); refine WW.wt ?_)
  | refine wt_val ?_)
local macro_rules | `(tactic| walk_at "dlS") => `(tactic| first
  | ((with_reducible show WS _ (Stmt.Return _ _) _ _ _); first | refine ws_ret ?_ | refine ws_retN ?_)
  | ((with_reducible show WS _ (Stmt.If _ _ _ _) _ _ _); refine ws_if ?_)
  | ((with_reducible show WS _ (Stmt.Assign [Expr.Name _ _] _ _) _ _ _); (refine ws_nm rfl ?v ?_; (case v => walk_at "loc")))
  | ((with_reducible show WS _ (Stmt.Assign [Expr.Tuple [Expr.Name _ _, Expr.Name _ _] _ _] (Expr.Tuple [_, _] _ _) _) _ _ _); (refine ws_pr rfl rfl rfl (by kernel_rfl) rfl rfl ?_ ?hw; (case hw => (intro env he; obtain ⟨⟩ := env; cases he; kernel_rfl))))
  | ((with_reducible show WS _ (Stmt.Assign [Expr.Tuple _ _ _] _ _) _ _ _); refine ws_asg ?_)
  | ((with_reducible show WS _ (Stmt.Expr _ _) _ _ _); refine ws_expr ?_)
  | ((with_reducible show WS _ (Stmt.Pass _) _ _ _); refine ws_pass ?_))
local macro_rules | `(tactic| walk_at "dlQ") => `(tactic| first
  | ((with_reducible show BinQ _ _ _ _ _); first | refine q_addi ?_ | refine q_subi ?_ | refine q_subb ?_)
  | ((with_reducible show CmpQ _ _ _ _ _); first | refine q_lti ?_ | refine q_lei ?_ | refine q_gti ?_ | refine q_gei ?_ | refine q_eqi ?_ | refine q_nei ?_ | refine q_eqs ?_ | refine q_nes ?_ | refine q_insg ?_ | refine q_nisg ?_)
  | ((with_reducible show IsiQ _ _ _); refine q_isi (by first | assumption | rfl) ?_)
  | ((with_reducible show LenQ _ _ _); first | refine q_lent ?_ | refine q_lenl ?_ | refine q_lens (by assumption) ?_ | refine q_lenr ?_)
  | ((with_reducible show TruQ _ _ _); refine q_trub ?_)
  | ((with_reducible show LcF _ _ _); refine q_lcf ?_)
  | ((with_reducible show TupQ _ _ _); first | refine q_tupl ?_ | refine q_tupt ?_)
  | ((with_reducible show LstQ _ _ _); first | refine q_lstl ?_ | refine q_lstt ?_)
  | ((with_reducible show AbsQ _ _ _); refine q_abs ?_)
  | ((with_reducible show IxQ _ _ _ _); first | refine q_ixt rfl ?_ | refine q_ixl rfl ?_)
  | ((with_reducible show SlQ _ _ _ _ _); first | refine q_slt ?_ | refine q_sll ?_ | refine q_sls (by assumption) ?_ | refine q_slr ?_)
  | ((with_reducible show IntQ _ _ _); first | refine q_inti ?_ | refine q_intb ?_)
  | ((with_reducible show if _ = true then _ else _); first | refine ift rfl ?_ | refine iff_ rfl ?_)
  | ((with_reducible show ∃ k, D.bl _ = D.bl k ∧ _); refine ⟨_, rfl, ?_⟩)
  | ((with_reducible show BlQ _ _ _); refine ⟨_, rfl, ?_⟩)
  | ((with_reducible show _ ≤ sizeLine ∧ _); refine ⟨by first | exact Nat.zero_le _ | exact Nat.le_of_ble_eq_true rfl | assumption, ?_⟩))
local macro_rules | `(tactic| walk_at "dl") => `(tactic| first
  | ((with_reducible show We _ _ _ _ _); walk_at "dlE")
  | ((with_reducible show WA _ _ _ _ _); first | refine wa_cons ?_ | refine wa_nil ?_)
  | ((with_reducible show WT _ _ _ _ _); walk_at "dlT")
  | ((with_reducible show WW _ _ _ _ _); first | refine ww_and ?_ | refine ww_or ?_ | refine ww_and1 ?_ | refine ww_or1 ?_)
  | ((with_reducible show WS _ _ _ _ _); walk_at "dlS")
  | ((with_reducible show WSs _ _ _ _ _); first | refine wss_cons ?_ | refine wss_nil ?_)
  | ((with_reducible show ChQ _ _ _ _ _ _ _ _ _); (show We _ _ _ _ _))
  | ((with_reducible show PiD _ _ (Expr.Call (Expr.Name "range" _) [_] _ _) _ _ _); refine pi_rg (by assumption) rfl ?_)
  | ((with_reducible show PiD _ _ (Expr.Call (Expr.Name "range" _) [_, _] _ _) _ _ _); refine pi_rg2 (by assumption) rfl ?_)
  | ((with_reducible show WGo _ _ (Expr.Name _ _) _ _ _ _); refine wgo_nb rfl (by walk_at "loc") (by kernel_rfl) ?_)
  | ((with_reducible show WG _ (Expr.Tuple _ _ _) _ _ _ _); refine wg_tup rfl rfl ?_)
  | ((with_reducible show WGs _ _ _ _ _ _); first | refine wgs_cons ?_ | refine wgs_nil ?_)
  | ((with_reducible show WGo _ _ (Expr.Tuple _ _ _) _ _ _ _); refine wgo_tup rfl rfl ?_)
  | ((with_reducible show WGso _ _ _ _ _ _ _); first | refine wgso_cons ?_ | refine wgso_nil ?_)
  | ((with_reducible show WG _ (Expr.Name _ _) _ _ _ _); refine wg_nm rfl (by walk_at "loc") ?_)
  | ((with_reducible show WO _ _ _ _ _); first | refine wo_none ?_ | refine wo_some ?_)
  | ((with_reducible show WI _ _ _ _ _); first | refine wi_nil ?_ | refine wi_one ?_)
  | ((with_reducible show WJ _ _ _ _ _ _); first | refine wj_cons ?_ | refine wj_nil ?_)
  | walk_at "dlQ")
/-! ### the errors -/
structure ErrA where
  num : Addr
  frac : Addr
  text : Addr
  name : Addr
  event : Addr
  events : Addr
  outcome : Addr
  sets : Addr
  twins : Addr
  lot : Addr
  index : Addr
  room : Addr
  tally : Addr
  log : Addr
  total : Addr
  counts : Addr
  members : Addr
  rows : Addr
  costs : Addr
  colors : Addr
  knotted : Addr
  toomany : Addr
structure Errs (M : Mo) (er : ErrA) : Prop where
  num : XCls M "InvalidNumber" er.num "given" 1
  frac : XCls M "InvalidFraction" er.frac "given" 1
  text : XCls M "InvalidText" er.text "given" 1
  name : XCls M "InvalidName" er.name "given" 1
  event : XCls M "InvalidEvent" er.event "given" 1
  events : XCls M "InvalidEvents" er.events "given" 1
  outcome : XCls M "InvalidOutcome" er.outcome "given" 1
  sets : XCls M "InvalidSets" er.sets "given" 1
  twins : XCls M "InvalidTwins" er.twins "given" 1
  lot : XCls M "InvalidLot" er.lot "given" 1
  index : XCls M "InvalidIndex" er.index "given" 1
  room : XCls M "InvalidRoom" er.room "given" 1
  tally : XCls M "InvalidTally" er.tally "given" 1
  log : XCls M "InvalidLog" er.log "given" 1
  total : XCls M "InvalidTotal" er.total "given" 1
  counts : XCls M "InvalidCounts" er.counts "given" 1
  members : XCls M "InvalidMembers" er.members "given" 1
  rows : XCls M "InvalidRows" er.rows "given" 1
  costs : XCls M "InvalidCosts" er.costs "given" 1
  colors : XCls M "InvalidColors" er.colors "given" 1
  knotted : XCls M "Knotted" er.knotted "knot" 1
  toomany : XCls M "TooMany" er.toomany "count" 1
def giv (C : Addr) (d : D) : XD := ⟨C, ["given"], [d]⟩
/-! ### outcomes as texts -/
def evText (ns : List Int) : Str := Txt.join (Str.ofString " ") (ns.map fun n => Str.ofString (toString n))
def spEvText : SpD := fun ds O Q _ => ∃ ns : List Int, ds = [.tup (ns.map .int)] ∧ ns.length ≤ 1000 ∧ (∀ n ∈ ns, 0 ≤ n ∧ n ≤ 99) ∧ Q (.str (evText ns)) O
theorem log99 {n : Int} (h : 0 ≤ n ∧ n ≤ 99) : n.natAbs.log2 < 1920 := by
  have h1 : n.natAbs < 2 ^ 7 := by omega
  have h2 : n.natAbs.log2 < 7 := by
    rcases Nat.eq_zero_or_pos n.natAbs with z | z
    · rw [z]; decide
    · exact (Nat.log2_lt (by omega)).mpr h1
  omega
theorem len99 : ∀ n : Nat, n ≤ 99 → (Str.ofString (toString (n : Int))).length ≤ 2 := by decide +kernel
theorem len99' {n : Int} (h : 0 ≤ n ∧ n ≤ 99) : (Str.ofString (toString n)).length ≤ 2 := by
  obtain ⟨m, rfl⟩ := Int.eq_ofNat_of_zero_le h.1
  exact len99 m (by omega)
theorem sum_le_two : ∀ ns : List Int, (∀ n ∈ ns, 0 ≤ n ∧ n ≤ 99) → ((ns.map fun n => Str.ofString (toString n)).map (·.length)).sum ≤ 2 * ns.length
  | [], _ => by simp
  | n :: ns, h => by
    have h1 := len99' (h n List.mem_cons_self)
    have h2 := sum_le_two ns fun m hm => h m (List.mem_cons_of_mem _ hm)
    simp only [List.map_cons, List.sum_cons, List.length_cons]
    omega
theorem ok_events_text {M : Mo} {f : Addr} {fd : FuncData} (B : Blt M) (hm : M.mg "events_text" = some (.ref f)) (Fn : Fun M.K "events_text" "events_text" (topS 41) f fd) : DefD M "events_text" (topS 41) ["events"] 1 spEvText := by
  refine def_ok (N := ["events", "event"]) hm Fn ⟨rfl, rfl, rfl, by decide +kernel, rfl, by decide +kernel, by decide +kernel⟩ (fun _ _ _ _ _ _ us hl => match us, hl with | [_], _ => rfl) (fun ds O Q E ⟨d, e, _⟩ => by rw [e]; rfl) fun F ds O Qd Ed ⟨ns, e, hz, hn, q⟩ => ?_
  subst e
  repeat walk_at "dl"
  refine we_join ?_
  repeat walk_at "dl"
  refine ⟨_, rfl, ?_⟩
  repeat walk_at "dl"
  refine pi_tp ?_
  repeat walk_at "dl"
  refine ⟨_, rfl, lc_mapA ns D.int (fun n => .str (Str.ofString (toString n))) (Nat.le_trans hz (by decide)) (fun F0 n hm => ?_) ?_⟩
  · repeat walk_at "dl"
    exact ⟨log99 (hn n hm), rfl, rfl⟩
  · refine ⟨ns.map fun n => Str.ofString (toString n), .inl (by rw [List.map_map]; rfl), ?_, q⟩
    have h1 := sum_le_two ns hn
    rw [List.length_map]
    have h2 : (Str.ofString " ").length = 1 := by decide +kernel
    rw [h2]
    omega
theorem map_intOf (ns : List Int) : (ns.map D.int).map intOf = ns := by
  rw [List.map_map]
  have : ns.map (intOf ∘ D.int) = ns.map id := List.map_congr_left fun _ _ => rfl
  rw [this, List.map_id]
def outText (xs : List D) : Str := if xs.isEmpty then Str.ofString "none" else evText (xs.map intOf)
def spOutText (er : ErrA) : SpD := fun ds O Q E => ∃ d, ds = [d] ∧ AskOut O d ∧ (∀ xs, d = .tup xs → xs.length ≤ 1000) ∧ (∀ xs, d = .tup xs → isOut d = true → Q (.str (outText xs)) O) ∧ (isOut d = false → E (giv er.outcome d) O)
theorem ok_outcome_text {M : Mo} {er : ErrA} {f : Addr} {fd : FuncData} (B : Blt M) (Nm : Names M) (Er : Errs M er) (h_is_outcome : DefD M "is_outcome" (topS 40) ["value"] 4 spOut) (h_events_text : DefD M "events_text" (topS 41) ["events"] 1 spEvText) (hm : M.mg "outcome_text" = some (.ref f)) (Fn : Fun M.K "outcome_text" "outcome_text" (topS 42) f fd) : DefD M "outcome_text" (topS 42) ["outcome"] 5 (spOutText er) := by
  obtain ⟨t1, g1⟩ := Nm.none
  refine def_ok (N := ["outcome"]) hm Fn ⟨rfl, rfl, rfl, by decide +kernel, rfl, by decide +kernel, by decide +kernel⟩ (fun _ _ _ _ _ _ us hl => match us, hl with | [_], _ => rfl) (fun ds O Q E ⟨d, e, _⟩ => by rw [e]; rfl) fun F ds O Qd Ed ⟨d, e, hd, hz, q, qe⟩ => ?_
  subst e
  repeat walk_at "dl"
  refine ⟨d, rfl, hd, ?_⟩
  repeat walk_at "dl"
  refine if2 (fun h => ?_) (fun h => ?_)
  · have h : isOut d = false := by simpa using h
    repeat walk_at "dl"
    refine ws_raise Er.outcome (Nat.le_of_ble_eq_true rfl) rfl rfl ?_
    repeat walk_at "dl"
    exact qe h
  · have h : isOut d = true := by simpa using h
    obtain ⟨xs, rfl⟩ : ∃ xs, d = .tup xs := by
      cases d with
      | tup xs => exact ⟨xs, rfl⟩
      | _ => cases h
    have q := q xs rfl h
    have hz := hz xs rfl
    have hev : xs.all isEv = true := by
      have h : (xs.all isEv && ascI (xs.map intOf)) = true := h
      exact (Bool.and_eq_true_iff.mp h).1
    obtain ⟨ns, rfl⟩ : ∃ ns : List Int, xs = ns.map D.int := ⟨_, evs_int hev⟩
    have en : (ns.map D.int).map intOf = ns := map_intOf ns
    repeat walk_at "dl"
    refine q_eqd (Lay.le (lay_tup lays_ints (n := 0)) (by decide)) (Lay.le (lay_tup (n := 0) (fun d hd => nomatch hd)) (by decide)) ?_
    rw [eqD_tup, show ([] : List D) = ([] : List Int).map D.int from rfl, eqDs_ints]
    repeat walk_at "dl"
    refine if2 (fun h2 => ?_) (fun h2 => ?_)
    · have h2 : ns = [] := of_decide_eq_true h2
      subst h2
      repeat walk_at "dl"
      exact q
    · have h2 : ns ≠ [] := of_decide_eq_false h2
      have e2 : outText (ns.map D.int) = evText ns := by
        unfold outText
        rw [en]
        cases ns with
        | nil => exact absurd rfl h2
        | cons _ _ => rfl
      rw [e2] at q
      repeat walk_at "dl"
      refine ⟨ns, rfl, by rw [List.length_map] at hz; exact hz, fun n hn => ?_, q⟩
      obtain ⟨_, h3, h4⟩ := ev_int (List.all_eq_true.mp hev (.int n) (List.mem_map.mpr ⟨n, hn, rfl⟩))
      exact ⟨h3, h4⟩
/-- what an outcome's words are read as -/
def outIn (ws : List Str) : Option (List Int) := if ws = [Str.ofString "none"] then some [] else match cntsO ws with
  | some ns => if isOut (.tup (ns.map fun n : Nat => D.int (n : Int))) = true then some (ns.map fun n : Nat => (n : Int)) else none
  | none => none
def outD : Option (List Int) → D
  | some ns => .tup (ns.map .int)
  | none => .non
def GoodS (w : Str) : Prop := w.length ≤ 10000 ∧ PyData.strOk w = true
def spOutIn : SpD := fun ds O Q _ => ∃ ws : List Str, ds = [.lst (ws.map .str)] ∧ ws.length ≤ 20000 ∧ (∀ w ∈ ws, GoodS w) ∧ Q (outD (outIn ws)) O
theorem ok_outcome_in {M : Mo} {f : Addr} {fd : FuncData} (B : Blt M) (Nm : Names M) (h_counts_in : DefD M "counts_in" (topS 34) ["words"] 2 spCnts) (h_is_outcome : DefD M "is_outcome" (topS 40) ["value"] 4 spOut) (hm : M.mg "outcome_in" = some (.ref f)) (Fn : Fun M.K "outcome_in" "outcome_in" (topS 43) f fd) : DefD M "outcome_in" (topS 43) ["words"] 5 spOutIn := by
  obtain ⟨t1, g1⟩ := Nm.none
  refine def_ok (N := ["words", "found"]) hm Fn ⟨rfl, rfl, rfl, by decide +kernel, rfl, by decide +kernel, by decide +kernel⟩ (fun _ _ _ _ _ _ us hl => match us, hl with | [_], _ => rfl) (fun ds O Q E ⟨d, e, _⟩ => by rw [e]; rfl) fun F ds O Qd Ed ⟨ws, e, hz, hw, q⟩ => ?_
  subst e
  repeat walk_at "dl"
  refine q_eqd (Lay.le (lay_lst (n := 0) (lays_strs fun z h => (hw z h).2)) (by decide)) (Lay.le (lay_lst (n := 0) (lays_strs (ns := [Str.ofString "none"]) fun z h => by rw [List.mem_singleton.mp h]; decide +kernel)) (by decide)) ?_
  rw [eqD_lst, show ([D.str (Str.ofString "none")] : List D) = [Str.ofString "none"].map D.str from rfl, eqDs_strs (fun z h => (hw z h).2) (fun z h => by rw [List.mem_singleton.mp h]; decide +kernel)]
  repeat walk_at "dl"
  refine if2 (fun h => ?_) (fun h => ?_)
  · have h : ws = [Str.ofString "none"] := of_decide_eq_true h
    have e : outIn ws = some [] := if_pos h
    rw [e] at q
    repeat walk_at "dl"
    exact q
  · have h : ws ≠ [Str.ofString "none"] := of_decide_eq_false h
    repeat walk_at "dl"
    refine ⟨ws, rfl, Nat.le_trans hz (by decide), fun w hm => Nat.le_trans (hw w hm).1 (by decide), ?_⟩
    have e : outIn ws = match cntsO ws with | some ns => if isOut (.tup (ns.map fun n : Nat => D.int (n : Int))) = true then some (ns.map fun n : Nat => (n : Int)) else none | none => none := if_neg h
    cases hc : cntsO ws with
    | none =>
      rw [hc] at e
      rw [e] at q
      repeat walk_at "dl"
      refine q_nisn (fun v hv => nomatch hv) ?_
      repeat walk_at "dl"
      exact q
    | some ns =>
      rw [hc] at e
      have e : outIn ws = if isOut (cntsD (some ns)) = true then some (ns.map fun n : Nat => (n : Int)) else none := e
      repeat walk_at "dl"
      refine q_nisn (fun v hv => nomatch hv) ?_
      repeat walk_at "dl"
      refine ⟨_, rfl, ⟨⟨_, rfl⟩, fun xs hx => ?_⟩, ?_⟩
      · cases hx
        have hl : ns.length = ws.length := by
          unfold cntsO at hc
          split at hc
          · cases hc; rw [List.length_map]
          · cases hc
        refine ⟨by rw [List.length_map, hl]; exact Nat.le_trans hz (by decide), fun x hx => ?_⟩
        obtain ⟨n, _, rfl⟩ := List.mem_map.mp hx
        exact ⟨_, rfl⟩
      · repeat walk_at "dl"
        refine if2 (fun h2 => ?_) (fun h2 => ?_)
        · rw [e, if_pos h2] at q
          repeat walk_at "dl"
          have e3 : outD (some (ns.map fun n : Nat => (n : Int))) = .tup (ns.map fun n : Nat => D.int (n : Int)) := by
            show D.tup ((ns.map fun n : Nat => (n : Int)).map D.int) = _
            rw [List.map_map]; rfl
          rw [e3] at q
          exact q
        · rw [e, if_neg (by rw [h2]; decide)] at q
          repeat walk_at "dl"
          exact q
theorem joinL_mem {s p : List Nat} {c : Nat} : ∀ {ps : List (List Nat)}, p ∈ ps → c ∈ p → c ∈ TL.joinL s ps
  | [q], h, hc => by
    rw [List.mem_singleton] at h
    subst h; exact hc
  | q :: r :: t, h, hc => by
    rcases List.mem_cons.mp h with h | h
    · subst h
      exact List.mem_append_left _ hc
    · exact List.mem_append_right _ (List.mem_append_right _ (joinL_mem h hc))
theorem pat_chars {x y w : Str} {c : Nat} (h : w ∈ Txt.split x y) (hc : c ∈ w.cps.toList) : c ∈ x.cps.toList := by
  have e := TL.tl_join y (Txt.split x y)
  rw [PySem.StrLaws.join_split] at e
  have m : c ∈ TL.joinL (TL.tl y) ((Txt.split x y).map TL.tl) := joinL_mem (List.mem_map.mpr ⟨w, h, rfl⟩) hc
  rw [← e] at m
  exact m
/-- read_outcome of a value -/
def readOut : D → Option (List Int)
  | .str z => outIn (Txt.split z (Str.ofString " "))
  | _ => none
def spReadOut (er : ErrA) : SpD := fun ds O Q E => ∃ d t, ds = [d] ∧ tyD O d = some t ∧ (∀ z, d = .str z → GoodS z) ∧ (∀ ns, readOut d = some ns → Q (.tup (ns.map .int)) O) ∧ (readOut d = none → E (giv er.text d) O)
theorem ty_str {O : Opens} {d : D} (h : tyD O d = some .str) : ∃ ds, d = .str ds := by
  cases d with
  | str i => exact ⟨i, rfl⟩
  | raw v =>
    cases v with
    | ref a =>
      have h : (match O a with | some (.lst _) => some Ty.list | some (.dic _ _) => some .dict | _ => none) = some .str := h
      split at h <;> cases h
    | _ => cases h
  | _ => cases h
theorem readOut_not {O : Opens} {d : D} {t : Ty} (h : tyD O d = some t) (m : t ≠ .str) : readOut d = none := by
  cases d with
  | str i => cases h; exact absurd rfl m
  | _ => rfl
theorem ok_read_outcome {M : Mo} {er : ErrA} {f : Addr} {fd : FuncData} (B : Blt M) (Er : Errs M er) (h_outcome_in : DefD M "outcome_in" (topS 43) ["words"] 5 spOutIn) (hm : M.mg "read_outcome" = some (.ref f)) (Fn : Fun M.K "read_outcome" "read_outcome" (topS 44) f fd) : DefD M "read_outcome" (topS 44) ["text"] 6 (spReadOut er) := by
  refine def_ok (N := ["text", "found"]) hm Fn ⟨rfl, rfl, rfl, by decide +kernel, rfl, by decide +kernel, by decide +kernel⟩ (fun _ _ _ _ _ _ us hl => match us, hl with | [_], _ => rfl) (fun ds O Q E ⟨d, t, e, _⟩ => by rw [e]; rfl) fun F ds O Qd Ed ⟨d, t, e, ht, hg, q, qe⟩ => ?_
  subst e
  by_cases hs : t = .str
  · subst hs
    obtain ⟨z, rfl⟩ := ty_str ht
    obtain ⟨hz, hk⟩ := hg z rfl
    repeat walk_at "dl"
    refine we_split ?_
    repeat walk_at "dl"
    refine ⟨z, rfl, ?_⟩
    repeat walk_at "dl"
    refine ⟨_, rfl, by decide +kernel, Nat.le_trans (Nat.add_le_add_right hz 2) (by decide), ?_⟩
    repeat walk_at "dl"
    refine ⟨Txt.split z (Str.ofString " "), rfl, Nat.le_trans (split_le _ _) (by omega), fun w hw => ⟨Nat.le_trans (part_short hw) hz, ?_⟩, ?_⟩
    · unfold PyData.strOk
      rw [← Array.all_toList]
      refine List.all_eq_true.mpr fun c hc => ?_
      unfold PyData.strOk at hk
      rw [← Array.all_toList] at hk
      exact List.all_eq_true.mp hk c (pat_chars hw hc)
    · have er_ : readOut (.str z) = outIn (Txt.split z (Str.ofString " ")) := rfl
      cases ho : outIn (Txt.split z (Str.ofString " ")) with
      | none =>
        rw [ho] at er_
        repeat walk_at "dl"
        refine q_isn (fun v hv => nomatch hv) ?_
        repeat walk_at "dl"
        refine ws_raise Er.text (Nat.le_of_ble_eq_true rfl) rfl rfl ?_
        repeat walk_at "dl"
        exact qe er_
      | some ns =>
        rw [ho] at er_
        repeat walk_at "dl"
        refine q_isn (fun v hv => nomatch hv) ?_
        repeat walk_at "dl"
        exact q ns er_
  · have er_ := readOut_not ht hs
    repeat walk_at "dl"
    refine iff_ (by cases t <;> first | rfl | exact absurd rfl hs) ?_
    repeat walk_at "dl"
    refine q_isn (fun v hv => nomatch hv) ?_
    repeat walk_at "dl"
    refine ws_raise Er.text (Nat.le_of_ble_eq_true rfl) rfl rfl ?_
    repeat walk_at "dl"
    exact qe er_
end K0

namespace K0
open PySem PySem.Spec PyProof.Rows L2 DL PySem.NumText
local macro_rules | `(tactic| walk_at "vis") => `(tactic| first | exact .inl rfl | exact .inr (.inl rfl) | exact .inr (.inr rfl))
local macro_rules | `(tactic| walk_at "loc") => `(tactic| first | exact .inl rfl | exact .inr rfl)
local macro_rules | `(tactic| walk_at "dlName") => `(tactic| first
  | ((with_reducible show We _ (Expr.Name "int" _) _ _ _); refine we_tyInt (by assumption) rfl ?_)
  | ((with_reducible show We _ (Expr.Name "bool" _) _ _ _); refine we_tyBool (by assumption) rfl ?_)
  | ((with_reducible show We _ (Expr.Name "str" _) _ _ _); refine we_tyStr (by assumption) rfl ?_)
  | ((with_reducible show We _ (Expr.Name "list" _) _ _ _); refine we_tyList (by assumption) rfl ?_)
  | ((with_reducible show We _ (Expr.Name "tuple" _) _ _ _); refine we_tyTuple (by assumption) rfl ?_)
  | ((with_reducible show We _ (Expr.Name "dict" _) _ _ _); refine we_tyDict (by assumption) rfl ?_)
  | (refine we_nm rfl rfl ?v ?_; (case v => walk_at "vis"))
  | refine we_gstr (by assumption) rfl ?_ | refine we_gint (by assumption) rfl ?_)
local macro_rules | `(tactic| walk_at "dlCall") => `(tactic| first
  | ((with_reducible show We _ (Expr.Call (Expr.Name "isinstance" _) _ [] _) _ _ _); refine we_isi (by assumption) rfl ?_)
  | ((with_reducible show We _ (Expr.Call (Expr.Name "len" _) _ [] _) _ _ _); refine we_len (by assumption) rfl ?_)
  | ((with_reducible show We _ (Expr.Call (Expr.Name "all" _) _ [] _) _ _ _); refine we_all (by assumption) rfl rfl ?_)
  | ((with_reducible show We _ (Expr.Call (Expr.Name "abs" _) _ [] _) _ _ _); refine we_abs (by assumption) rfl ?_)
  | ((with_reducible show We _ (Expr.Call (Expr.Name "int" _) _ [] _) _ _ _); refine we_int_ (by assumption) rfl ?_)
  | ((with_reducible show We _ (Expr.Call (Expr.Name "str" _) _ [] _) _ _ _); refine we_str_ (by assumption) rfl ?_)
  | ((with_reducible show We _ (Expr.Call (Expr.Name "tuple" _) _ [] _) _ _ _); refine we_tuple_ (by assumption) rfl ?_)
  | ((with_reducible show We _ (Expr.Call (Expr.Name "list" _) _ [] _) _ _ _); refine we_list_ (by assumption) rfl ?_)
  | ((with_reducible show We _ (Expr.Call (Expr.Name "sum" _) _ [] _) _ _ _); refine we_sum (by assumption) rfl rfl ?_)
  | ((with_reducible show We _ (Expr.Call (Expr.Name "max" _) _ [] _) _ _ _); refine we_max (by assumption) rfl rfl ?_)
  | ((with_reducible show We _ (Expr.Call (Expr.Name "min" _) _ [] _) _ _ _); refine we_min (by assumption) rfl rfl ?_)
  | (refine' we_call ?hd ?hk ?hg ?hh ?_; (case hd => assumption); (case hk => exact Nat.le_of_ble_eq_true rfl); (case hg => rfl); (case hh => rfl)))
local macro_rules | `(tactic| walk_at "dlE") => `(tactic| first
  | ((with_reducible show We _ (Expr.Name _ _) _ _ _); walk_at "dlName")
  | ((with_reducible show We _ (Expr.Constant _ _ _) _ _ _); first | refine we_int ?_ | refine we_str ?_ | refine we_bl ?_ | refine we_non ?_)
  | ((with_reducible show We _ (Expr.Call (Expr.Name _ _) _ [] _) _ _ _); walk_at "dlCall")
  | ((with_reducible show We _ (Expr.BoolOp _ _ _) _ _ _); first | refine we_and ?_ | refine we_or ?_ | refine we_one ?_)
  | ((with_reducible show We _ (Expr.UnaryOp _ _ _) _ _ _); first | refine we_not ?_ | refine we_neg ?_)
  | ((with_reducible show We _ (Expr.Compare _ [_] _ _) _ _ _); refine we_cmp ?_)
  | ((with_reducible show We _ (Expr.Compare _ [_, _] _ _) _ _ _); refine we_chain ?_)
  | ((with_reducible show We _ (Expr.BinOp _ _ _ _) _ _ _); refine we_bin ?_)
  | ((with_reducible show We _ (Expr.IfExp _ _ _ _) _ _ _); refine we_if ?_)
  | ((with_reducible show We _ (Expr.Tuple _ _ _) _ _ _); refine we_tup ?_)
  | ((with_reducible show We _ (Expr.List _ _) _ _ _); refine we_lst ?_)
  | ((with_reducible show We _ (Expr.Subscript _ (Expr.Slice _ _ none _) _) _ _ _); refine we_slice ?_)
  | ((with_reducible show We _ (Expr.Subscript _ _ _) _ _ _); refine we_ix ?_)
  | ((with_reducible show We _ (Expr.JoinedStr _ _) _ _ _); refine we_joined ?_)
  | ((with_reducible show We _ (Expr.FormattedValue _ _ _ _) _ _ _); refine we_fmt ?_)
  | ((with_reducible show We _ (Expr.ListComp _ _ _ _) _ _ _); refine we_lc rfl (by kernel_rfl) ?_))
local macro_rules | `(tactic| walk_at "dlT") => `(tactic| first
  | ((with_reducible show WT _ (Expr.UnaryOp _ _ _) _ _ _); refine wt_not ?_)
  | ((with_reducible show WT _ (Expr.Compare _ [_] _ _) _ _ _); refine wt_cmp ?_)
  | ((with_reducible show WT _ (Expr.Compare _ [_, _] _ _) _ _ _); refine wt_chain ?_)
  | ((with_reducible show WT _ (Expr.BoolOp _ _ _) _ _ _); refine WW.wt ?_)
  | refine wt_val ?_)
local macro_rules | `(tactic| walk_at "dlS") => `(tactic| first
  | ((with_reducible show WS _ (Stmt.Return _ _) _ _ _); first | refine ws_ret ?_ | refine ws_retN ?_)
  | ((with_reducible show WS _ (Stmt.If _ _ _ _) _ _ _); refine ws_if ?_)
  | ((with_reducible show WS _ (Stmt.Assign [Expr.Name _ _] _ _) _ _ _); (refine ws_nm rfl ?v ?_; (case v => walk_at "loc")))
  | ((with_reducible show WS _ (Stmt.Assign [Expr.Tuple [Expr.Name _ _, Expr.Name _ _] _ _] (Expr.Tuple [_, _] _ _) _) _ _ _); (refine ws_pr rfl rfl rfl (by kernel_rfl) rfl rfl ?_ ?hw; (case hw => (intro env he; obtain ⟨⟩ := env; cases he; kernel_rfl))))
  | ((with_reducible show WS _ (Stmt.Assign [Expr.Tuple _ _ _] _ _) _ _ _); refine ws_asg ?_)
  | ((with_reducible show WS _ (Stmt.Expr _ _) _ _ _); refine ws_expr ?_)
  | ((with_reducible show WS _ (Stmt.Pass _) _ _ _); refine ws_pass ?_))
local macro_rules | `(tactic| walk_at "dlQ") => `(tactic| first
  | ((with_reducible show BinQ _ _ _ _ _); first | refine q_addi ?_ | refine q_subi ?_ | refine q_subb ?_)
  | ((with_reducible show CmpQ _ _ _ _ _); first | refine q_lti ?_ | refine q_lei ?_ | refine q_gti ?_ | refine q_gei ?_ | refine q_eqi ?_ | refine q_nei ?_ | refine q_eqs ?_ | refine q_nes ?_ | refine q_insg ?_ | refine q_nisg ?_)
  | ((with_reducible show IsiQ _ _ _); refine q_isi (by first | assumption | rfl) ?_)
  | ((with_reducible show LenQ _ _ _); first | refine q_lent ?_ | refine q_lenl ?_ | refine q_lens (by assumption) ?_ | refine q_lenr ?_)
  | ((with_reducible show TruQ _ _ _); refine q_trub ?_)
  | ((with_reducible show LcF _ _ _); refine q_lcf ?_)
  | ((with_reducible show TupQ _ _ _); first | refine q_tupl ?_ | refine q_tupt ?_)
  | ((with_reducible show LstQ _ _ _); first | refine q_lstl ?_ | refine q_lstt ?_)
  | ((with_reducible show AbsQ _ _ _); refine q_abs ?_)
  | ((with_reducible show IxQ _ _ _ _); first | refine q_ixt rfl ?_ | refine q_ixl rfl ?_)
  | ((with_reducible show SlQ _ _ _ _ _); first | refine q_slt ?_ | refine q_sll ?_ | refine q_sls (by assumption) ?_ | refine q_slr ?_)
  | ((with_reducible show IntQ _ _ _); first | refine q_inti ?_ | refine q_intb ?_)
  | ((with_reducible show if _ = true then _ else _); first | refine ift rfl ?_ | refine iff_ rfl ?_)
  | ((with_reducible show ∃ k, D.bl _ = D.bl k ∧ _); refine ⟨_, rfl, ?_⟩)
  | ((with_reducible show BlQ _ _ _); refine ⟨_, rfl, ?_⟩)
  | ((with_reducible show _ ≤ sizeLine ∧ _); refine ⟨by first | exact Nat.zero_le _ | exact Nat.le_of_ble_eq_true rfl | assumption, ?_⟩))
local macro_rules | `(tactic| walk_at "dl") => `(tactic| first
  | ((with_reducible show We _ _ _ _ _); walk_at "dlE")
  | ((with_reducible show WA _ _ _ _ _); first | refine wa_cons ?_ | refine wa_nil ?_)
  | ((with_reducible show WT _ _ _ _ _); walk_at "dlT")
  | ((with_reducible show WW _ _ _ _ _); first | refine ww_and ?_ | refine ww_or ?_ | refine ww_and1 ?_ | refine ww_or1 ?_)
  | ((with_reducible show WS _ _ _ _ _); walk_at "dlS")
  | ((with_reducible show WSs _ _ _ _ _); first | refine wss_cons ?_ | refine wss_nil ?_)
  | ((with_reducible show ChQ _ _ _ _ _ _ _ _ _); (show We _ _ _ _ _))
  | ((with_reducible show PiD _ _ (Expr.Call (Expr.Name "range" _) [_] _ _) _ _ _); refine pi_rg (by assumption) rfl ?_)
  | ((with_reducible show PiD _ _ (Expr.Call (Expr.Name "range" _) [_, _] _ _) _ _ _); refine pi_rg2 (by assumption) rfl ?_)
  | ((with_reducible show WGo _ _ (Expr.Name _ _) _ _ _ _); refine wgo_nb rfl (by walk_at "loc") (by kernel_rfl) ?_)
  | ((with_reducible show WG _ (Expr.Tuple _ _ _) _ _ _ _); refine wg_tup rfl rfl ?_)
  | ((with_reducible show WGs _ _ _ _ _ _); first | refine wgs_cons ?_ | refine wgs_nil ?_)
  | ((with_reducible show WGo _ _ (Expr.Tuple _ _ _) _ _ _ _); refine wgo_tup rfl rfl ?_)
  | ((with_reducible show WGso _ _ _ _ _ _ _); first | refine wgso_cons ?_ | refine wgso_nil ?_)
  | ((with_reducible show WG _ (Expr.Name _ _) _ _ _ _); refine wg_nm rfl (by walk_at "loc") ?_)
  | ((with_reducible show WO _ _ _ _ _); first | refine wo_none ?_ | refine wo_some ?_)
  | ((with_reducible show WI _ _ _ _ _); first | refine wi_nil ?_ | refine wi_one ?_)
  | ((with_reducible show WJ _ _ _ _ _ _); first | refine wj_cons ?_ | refine wj_nil ?_)
  | walk_at "dlQ")
/-! ### fractions -/
def fr (p : Int × Int) : D := .tup [.int p.1, .int p.2]
def gI (a b : Int) : Nat := Nat.gcd a.natAbs b.natAbs
def isFrac : D → Bool
  | .tup [.int a, .int b] => decide (1 ≤ b) && (gI a b == 1)
  | _ => false
def AskFr (O : Opens) (d : D) : Prop := (∃ t, tyD O d = some t) ∧ ∀ x y, d = .tup [x, y] → (∃ t, tyD O x = some t) ∧ ∃ t, tyD O y = some t
def spFrac : SpD := fun ds O Q _ => ∃ d, ds = [d] ∧ AskFr O d ∧ Q (.bl (isFrac d)) O
theorem abs_nat (a : Int) : (if a < 0 then -a else a) = ((a.natAbs : Nat) : Int) := by split <;> omega
theorem nat_of {b : Int} (h : 0 ≤ b) : b = ((b.natAbs : Nat) : Int) := by omega
theorem isTup2 {d : D} (h : isTup d 2 = true) : ∃ x y, d = .tup [x, y] := by
  cases d with
  | tup ds =>
    have h : ((ds.length : Int) == 2) = true := h
    have h2 : ds.length = 2 := by have := eq_of_beq h; omega
    match ds, h2 with
    | [x, y], _ => exact ⟨x, y, rfl⟩
  | _ => cases h
theorem frac_not2 {d : D} (h : isTup d 2 = false) : isFrac d = false := by
  cases d with
  | tup ds =>
    match ds, h with
    | [], _ => rfl
    | [x], _ => cases x <;> rfl
    | [x, y], h => exact absurd h (by show (((2 : Nat) : Int) == 2) ≠ false; decide)
    | x :: y :: z :: r, _ =>
      cases x with
      | int _ => cases y <;> rfl
      | _ => rfl
  | _ => rfl
theorem frac_not {O : Opens} {x y : D} {t s : Ty} (h1 : tyD O x = some t) (h2 : tyD O y = some s) (h : ¬ (t = .int ∧ s = .int)) : isFrac (.tup [x, y]) = false := by
  cases x with
  | int a =>
    cases y with
    | int b => cases h1; cases h2; exact absurd ⟨rfl, rfl⟩ h
    | _ => rfl
  | _ => rfl
theorem ok_is_fraction {M : Mo} {f : Addr} {fd : FuncData} (B : Blt M) (h_is_tuple : DefD M "is_tuple" (topS 30) ["value", "many"] 1 spTup) (h_is_integer : DefD M "is_integer" (topS 28) ["value"] 1 (spTy fun t => decide (t = .int))) (h_common : DefD M "common" (topS 32) ["one", "other"] 1 spCommon)
    (hm : M.mg "is_fraction" = some (.ref f)) (Fn : Fun M.K "is_fraction" "is_fraction" (topS 45) f fd) : DefD M "is_fraction" (topS 45) ["value"] 2 spFrac := by
  refine def_ok (N := ["value"]) hm Fn ⟨rfl, rfl, rfl, by decide +kernel, rfl, by decide +kernel, by decide +kernel⟩ (fun _ _ _ _ _ _ us hl => match us, hl with | [_], _ => rfl) (fun ds O Q E ⟨d, e, _⟩ => by rw [e]; rfl) fun F ds O Qd Ed ⟨d, e, ⟨⟨t, ht⟩, hx⟩, q⟩ => ?_
  subst e
  repeat walk_at "dl"
  refine ⟨d, t, 2, rfl, ht, ?_⟩
  repeat walk_at "dl"
  refine if2 (fun h => ?_) (fun h => ?_)
  · have h : isTup d 2 = false := by simpa using h
    rw [frac_not2 h] at q
    repeat walk_at "dl"
    exact q
  · have h : isTup d 2 = true := by simpa using h
    obtain ⟨x, y, rfl⟩ := isTup2 h
    obtain ⟨⟨tx, hx1⟩, ty, hy1⟩ := hx x y rfl
    repeat walk_at "dl"
    refine ⟨x, tx, rfl, hx1, ?_⟩
    repeat walk_at "dl"
    refine if2 (fun h1 => ?_) (fun h1 => ?_)
    · have h1 : ¬ tx = .int := by simpa using h1
      rw [frac_not hx1 hy1 fun z => h1 z.1] at q
      repeat walk_at "dl"
      exact q
    · have h1 : tx = .int := by simpa using h1
      repeat walk_at "dl"
      refine ⟨y, ty, rfl, hy1, ?_⟩
      repeat walk_at "dl"
      refine if2 (fun h2 => ?_) (fun h2 => ?_)
      · have h2 : ¬ ty = .int := by simpa using h2
        rw [frac_not hx1 hy1 fun z => h2 z.2] at q
        repeat walk_at "dl"
        exact q
      · have h2 : ty = .int := by simpa using h2
        subst h1 h2
        obtain ⟨a, rfl⟩ := ty_int hx1
        obtain ⟨b, rfl⟩ := ty_int hy1
        repeat walk_at "dl"
        refine if2 (fun h3 => ?_) (fun h3 => ?_)
        · have h3 : 1 ≤ b := of_decide_eq_true h3
          repeat walk_at "dl"
          refine ⟨a.natAbs, b.natAbs, by rw [abs_nat, ← nat_of (b := b) (by omega)], ?_⟩
          repeat walk_at "dl"
          have e : isFrac (.tup [.int a, .int b]) = (((gI a b : Nat) : Int) == 1) := by
            show (decide (1 ≤ b) && (gI a b == 1)) = _
            rw [decide_eq_true h3, Bool.true_and]
            by_cases z : gI a b = 1
            · rw [z]; rfl
            · have z1 : (gI a b == 1) = false := by simpa using z
              have z2 : (((gI a b : Nat) : Int) == 1) = false := by
                refine beq_false_of_ne fun w => z ?_
                omega
              rw [z1, z2]
          rw [e] at q
          exact q
        · have h3 : ¬ 1 ≤ b := of_decide_eq_false h3
          have e : isFrac (.tup [.int a, .int b]) = false := by
            show (decide (1 ≤ b) && (gI a b == 1)) = _
            rw [decide_eq_false h3]; rfl
          rw [e] at q
          exact q
/-- small numbers -/
def Sm (i : Int) : Prop := i.natAbs < 2 ^ 2000
def lowI (t b : Int) : Int × Int := (t / (gI t b : Int), b / (gI t b : Int))
theorem gI_pos {t b : Int} (h : 1 ≤ b) : 0 < gI t b := Nat.gcd_pos_of_pos_right _ (by omega)
theorem gI_le {t b : Int} (h : 1 ≤ b) : gI t b ≤ b.natAbs := Nat.gcd_le_right _ (by omega)
theorem div_ok {t b : Int} (h : 1 ≤ b) (hb : Sm b) (i : Int) : CDivW i (gI t b : Int) := by
  have h1 := gI_pos (t := t) h
  have h2 := gI_le (t := t) h
  refine wide_div (b := 2000) (by omega) ?_ (by decide) (by decide)
  unfold Sm at hb
  rw [Int.natAbs_natCast]
  exact Nat.lt_of_le_of_lt h2 hb
def spLow : SpD := fun ds O Q _ => ∃ t b : Int, ds = [.int t, .int b] ∧ 1 ≤ b ∧ Sm b ∧ Q (fr (lowI t b)) O
theorem ok_low {M : Mo} {f : Addr} {fd : FuncData} (B : Blt M) (h_common : DefD M "common" (topS 32) ["one", "other"] 1 spCommon) (hm : M.mg "low" = some (.ref f)) (Fn : Fun M.K "low" "low" (topS 46) f fd) : DefD M "low" (topS 46) ["top", "base"] 2 spLow := by
  refine def_ok (N := ["top", "base", "divisor"]) hm Fn ⟨rfl, rfl, rfl, by decide +kernel, rfl, by decide +kernel, by decide +kernel⟩ (fun _ _ _ _ _ _ us hl => match us, hl with | [_, _], _ => rfl) (fun ds O Q E ⟨t, b, e, _⟩ => by rw [e]; rfl) fun F ds O Qd Ed ⟨t, b, e, hb, sb, q⟩ => ?_
  subst e
  repeat walk_at "dl"
  refine ⟨t.natAbs, b.natAbs, by rw [abs_nat, ← nat_of (b := b) (by omega)], ?_⟩
  repeat walk_at "dl"
  refine q_divi (div_ok hb sb t) ?_
  repeat walk_at "dl"
  refine q_divi (div_ok hb sb b) ?_
  repeat walk_at "dl"
  exact q
/-- lowest(top, base) -/
def isInt : D → Bool
  | .int _ => true
  | _ => false
def isBase : D → Bool
  | .int b => decide (1 ≤ b)
  | _ => false
def spLowest (er : ErrA) : SpD := fun ds O Q E => ∃ x y, ds = [x, y] ∧ (∃ t, tyD O x = some t) ∧ (∃ t, tyD O y = some t) ∧ (∀ t b, x = .int t → y = .int b → 1 ≤ b → Sm b ∧ Q (fr (lowI t b)) O) ∧ (isInt x = false → E (giv er.num x) O) ∧ (isInt x = true → isBase y = false → E (giv er.num y) O)
theorem isInt_ty {O : Opens} {x : D} {t : Ty} (h : tyD O x = some t) : isInt x = decide (t = .int) := by
  cases x with
  | raw v =>
    cases v with
    | ref a =>
      have h : (match O a with | some (.lst _) => some Ty.list | some (.dic _ _) => some .dict | _ => none) = some t := h
      split at h
      · cases h; rfl
      · cases h; rfl
      · cases h
    | _ => cases h
  | _ => cases h <;> rfl
theorem ok_lowest {M : Mo} {er : ErrA} {f : Addr} {fd : FuncData} (B : Blt M) (Er : Errs M er) (h_is_integer : DefD M "is_integer" (topS 28) ["value"] 1 (spTy fun t => decide (t = .int))) (h_low : DefD M "low" (topS 46) ["top", "base"] 2 spLow) (hm : M.mg "lowest" = some (.ref f)) (Fn : Fun M.K "lowest" "lowest" (topS 47) f fd) :
    DefD M "lowest" (topS 47) ["top", "base"] 3 (spLowest er) := by
  refine def_ok (N := ["top", "base"]) hm Fn ⟨rfl, rfl, rfl, by decide +kernel, rfl, by decide +kernel, by decide +kernel⟩ (fun _ _ _ _ _ _ us hl => match us, hl with | [_, _], _ => rfl) (fun ds O Q E ⟨t, b, e, _⟩ => by rw [e]; rfl) fun F ds O Qd Ed ⟨x, y, e, ⟨tx, hx⟩, ⟨ty, hy⟩, q, q1, q2⟩ => ?_
  subst e
  have i1 := isInt_ty hx
  have i2 := isInt_ty hy
  repeat walk_at "dl"
  refine ⟨x, tx, rfl, hx, ?_⟩
  repeat walk_at "dl"
  refine if2 (fun h => ?_) (fun h => ?_)
  · have h : isInt x = false := by rw [i1]; simpa using h
    repeat walk_at "dl"
    refine ws_raise Er.num (Nat.le_of_ble_eq_true rfl) rfl rfl ?_
    repeat walk_at "dl"
    exact q1 h
  · have h : isInt x = true := by rw [i1]; simpa using h
    repeat walk_at "dl"
    refine ⟨y, ty, rfl, hy, ?_⟩
    repeat walk_at "dl"
    refine if2 (fun h2 => ?_) (fun h2 => ?_)
    · have h2 : isInt y = false := by rw [i2]; simpa using h2
      repeat walk_at "dl"
      refine ws_raise Er.num (Nat.le_of_ble_eq_true rfl) rfl rfl ?_
      repeat walk_at "dl"
      refine q2 h ?_
      cases y <;> first | rfl | cases h2
    · have h2 : isInt y = true := by rw [i2]; simpa using h2
      obtain ⟨t, rfl⟩ : ∃ t, x = .int t := by cases x <;> first | exact ⟨_, rfl⟩ | cases h
      obtain ⟨b, rfl⟩ : ∃ t, y = .int t := by cases y <;> first | exact ⟨_, rfl⟩ | cases h2
      repeat walk_at "dl"
      refine if2 (fun h3 => ?_) (fun h3 => ?_)
      · have h3 : b < 1 := of_decide_eq_true h3
        repeat walk_at "dl"
        refine ws_raise Er.num (Nat.le_of_ble_eq_true rfl) rfl rfl ?_
        repeat walk_at "dl"
        exact q2 rfl (decide_eq_false (by omega))
      · have h3 : ¬ b < 1 := of_decide_eq_false h3
        obtain ⟨sb, q⟩ := q t b rfl rfl (by omega)
        repeat walk_at "dl"
        exact ⟨t, b, rfl, by omega, sb, q⟩
end K0

namespace K0
open PySem PySem.Spec PyProof.Rows L2 DL PySem.NumText
local macro_rules | `(tactic| walk_at "vis") => `(tactic| first | exact .inl rfl | exact .inr (.inl rfl) | exact .inr (.inr rfl))
local macro_rules | `(tactic| walk_at "loc") => `(tactic| first | exact .inl rfl | exact .inr rfl)
local macro_rules | `(tactic| walk_at "dlName") => `(tactic| first
  | ((with_reducible show We _ (Expr.Name "int" _) _ _ _); refine we_tyInt (by assumption) rfl ?_)
  | ((with_reducible show We _ (Expr.Name "bool" _) _ _ _); refine we_tyBool (by assumption) rfl ?_)
  | ((with_reducible show We _ (Expr.Name "str" _) _ _ _); refine we_tyStr (by assumption) rfl ?_)
  | ((with_reducible show We _ (Expr.Name "list" _) _ _ _); refine we_tyList (by assumption) rfl ?_)
  | ((with_reducible show We _ (Expr.Name "tuple" _) _ _ _); refine we_tyTuple (by assumption) rfl ?_)
  | ((with_reducible show We _ (Expr.Name "dict" _) _ _ _); refine we_tyDict (by assumption) rfl ?_)
  | (refine we_nm rfl rfl ?v ?_; (case v => walk_at "vis"))
  | refine we_gstr (by assumption) rfl ?_ | refine we_gint (by assumption) rfl ?_)
local macro_rules | `(tactic| walk_at "dlCall") => `(tactic| first
  | ((with_reducible show We _ (Expr.Call (Expr.Name "isinstance" _) _ [] _) _ _ _); refine we_isi (by assumption) rfl ?_)
  | ((with_reducible show We _ (Expr.Call (Expr.Name "len" _) _ [] _) _ _ _); refine we_len (by assumption) rfl ?_)
  | ((with_reducible show We _ (Expr.Call (Expr.Name "all" _) _ [] _) _ _ _); refine we_all (by assumption) rfl rfl ?_)
  | ((with_reducible show We _ (Expr.Call (Expr.Name "abs" _) _ [] _) _ _ _); refine we_abs (by assumption) rfl ?_)
  | ((with_reducible show We _ (Expr.Call (Expr.Name "int" _) _ [] _) _ _ _); refine we_int_ (by assumption) rfl ?_)
  | ((with_reducible show We _ (Expr.Call (Expr.Name "str" _) _ [] _) _ _ _); refine we_str_ (by assumption) rfl ?_)
  | ((with_reducible show We _ (Expr.Call (Expr.Name "tuple" _) _ [] _) _ _ _); refine we_tuple_ (by assumption) rfl ?_)
  | ((with_reducible show We _ (Expr.Call (Expr.Name "list" _) _ [] _) _ _ _); refine we_list_ (by assumption) rfl ?_)
  | ((with_reducible show We _ (Expr.Call (Expr.Name "sum" _) _ [] _) _ _ _); refine we_sum (by assumption) rfl rfl ?_)
  | ((with_reducible show We _ (Expr.Call (Expr.Name "max" _) _ [] _) _ _ _); refine we_max (by assumption) rfl rfl ?_)
  | ((with_reducible show We _ (Expr.Call (Expr.Name "min" _) _ [] _) _ _ _); refine we_min (by assumption) rfl rfl ?_)
  | (refine' we_call ?hd ?hk ?hg ?hh ?_; (case hd => assumption); (case hk => exact Nat.le_of_ble_eq_true rfl); (case hg => rfl); (case hh => rfl)))
local macro_rules | `(tactic| walk_at "dlE") => `(tactic| first
  | ((with_reducible show We _ (Expr.Name _ _) _ _ _); walk_at "dlName")
  | ((with_reducible show We _ (Expr.Constant _ _ _) _ _ _); first | refine we_int ?_ | refine we_str ?_ | refine we_bl ?_ | refine we_non ?_)
  | ((with_reducible show We _ (Expr.Call (Expr.Name _ _) _ [] _) _ _ _); walk_at "dlCall")
  | ((with_reducible show We _ (Expr.BoolOp _ _ _) _ _ _); first | refine we_and ?_ | refine we_or ?_ | refine we_one ?_)
  | ((with_reducible show We _ (Expr.UnaryOp _ _ _) _ _ _); first | refine we_not ?_ | refine we_neg ?_)
  | ((with_reducible show We _ (Expr.Compare _ [_] _ _) _ _ _); refine we_cmp ?_)
  | ((with_reducible show We _ (Expr.Compare _ [_, _] _ _) _ _ _); refine we_chain ?_)
  | ((with_reducible show We _ (Expr.BinOp _ _ _ _) _ _ _); refine we_bin ?_)
  | ((with_reducible show We _ (Expr.IfExp _ _ _ _) _ _ _); refine we_if ?_)
  | ((with_reducible show We _ (Expr.Tuple _ _ _) _ _ _); refine we_tup ?_)
  | ((with_reducible show We _ (Expr.List _ _) _ _ _); refine we_lst ?_)
  | ((with_reducible show We _ (Expr.Subscript _ (Expr.Slice _ _ none _) _) _ _ _); refine we_slice ?_)
  | ((with_reducible show We _ (Expr.Subscript _ _ _) _ _ _); refine we_ix ?_)
  | ((with_reducible show We _ (Expr.JoinedStr _ _) _ _ _); refine we_joined ?_)
  | ((with_reducible show We _ (Expr.FormattedValue _ _ _ _) _ _ _); refine we_fmt ?_)
  | ((with_reducible show We _ (Expr.ListComp _ _ _ _) _ _ _); refine we_lc rfl (by kernel_rfl) ?_))
local macro_rules | `(tactic| walk_at "dlT") => `(tactic| first
  | ((with_reducible show WT _ (Expr.UnaryOp _ _ _) _ _ _); refine wt_not ?_)
  | ((with_reducible show WT _ (Expr.Compare _ [_] _ _) _ _ _); refine wt_cmp ?_)
  | ((with_reducible show WT _ (Expr.Compare _ [_, _] _ _) _ _ _); refine wt_chain ?_)
  | ((with_reducible show WT _ (Expr.BoolOp _ _ _) _ _ _); refine WW.wt ?_)
  | refine wt_val ?_)
local macro_rules | `(tactic| walk_at "dlS") => `(tactic| first
  | ((with_reducible show WS _ (Stmt.Return _ _) _ _ _); first | refine ws_ret ?_ | refine ws_retN ?_)
  | ((with_reducible show WS _ (Stmt.If _ _ _ _) _ _ _); refine ws_if ?_)
  | ((with_reducible show WS _ (Stmt.Assign [Expr.Name _ _] _ _) _ _ _); (refine ws_nm rfl ?v ?_; (case v => walk_at "loc")))
  | ((with_reducible show WS _ (Stmt.Assign [Expr.Tuple [Expr.Name _ _, Expr.Name _ _] _ _] (Expr.Tuple [_, _] _ _) _) _ _ _); (refine ws_pr rfl rfl rfl (by kernel_rfl) rfl rfl ?_ ?hw; (case hw => (intro env he; obtain ⟨⟩ := env; cases he; kernel_rfl))))
  | ((with_reducible show WS _ (Stmt.Assign [Expr.Tuple _ _ _] _ _) _ _ _); refine ws_asg ?_)
  | ((with_reducible show WS _ (Stmt.Expr _ _) _ _ _); refine ws_expr ?_)
  | ((with_reducible show WS _ (Stmt.Pass _) _ _ _); refine ws_pass ?_))
local macro_rules | `(tactic| walk_at "dlQ") => `(tactic| first
  | ((with_reducible show BinQ _ _ _ _ _); first | refine q_addi ?_ | refine q_subi ?_ | refine q_subb ?_)
  | ((with_reducible show CmpQ _ _ _ _ _); first | refine q_lti ?_ | refine q_lei ?_ | refine q_gti ?_ | refine q_gei ?_ | refine q_eqi ?_ | refine q_nei ?_ | refine q_eqs ?_ | refine q_nes ?_ | refine q_insg ?_ | refine q_nisg ?_)
  | ((with_reducible show IsiQ _ _ _); refine q_isi (by first | assumption | rfl) ?_)
  | ((with_reducible show LenQ _ _ _); first | refine q_lent ?_ | refine q_lenl ?_ | refine q_lens (by assumption) ?_ | refine q_lenr ?_)
  | ((with_reducible show TruQ _ _ _); refine q_trub ?_)
  | ((with_reducible show LcF _ _ _); refine q_lcf ?_)
  | ((with_reducible show TupQ _ _ _); first | refine q_tupl ?_ | refine q_tupt ?_)
  | ((with_reducible show LstQ _ _ _); first | refine q_lstl ?_ | refine q_lstt ?_)
  | ((with_reducible show AbsQ _ _ _); refine q_abs ?_)
  | ((with_reducible show IxQ _ _ _ _); first | refine q_ixt rfl ?_ | refine q_ixl rfl ?_)
  | ((with_reducible show SlQ _ _ _ _ _); first | refine q_slt ?_ | refine q_sll ?_ | refine q_sls (by assumption) ?_ | refine q_slr ?_)
  | ((with_reducible show IntQ _ _ _); first | refine q_inti ?_ | refine q_intb ?_)
  | ((with_reducible show if _ = true then _ else _); first | refine ift rfl ?_ | refine iff_ rfl ?_)
  | ((with_reducible show ∃ k, D.bl _ = D.bl k ∧ _); refine ⟨_, rfl, ?_⟩)
  | ((with_reducible show BlQ _ _ _); refine ⟨_, rfl, ?_⟩)
  | ((with_reducible show _ ≤ sizeLine ∧ _); refine ⟨by first | exact Nat.zero_le _ | exact Nat.le_of_ble_eq_true rfl | assumption, ?_⟩))
local macro_rules | `(tactic| walk_at "dl") => `(tactic| first
  | ((with_reducible show We _ _ _ _ _); walk_at "dlE")
  | ((with_reducible show WA _ _ _ _ _); first | refine wa_cons ?_ | refine wa_nil ?_)
  | ((with_reducible show WT _ _ _ _ _); walk_at "dlT")
  | ((with_reducible show WW _ _ _ _ _); first | refine ww_and ?_ | refine ww_or ?_ | refine ww_and1 ?_ | refine ww_or1 ?_)
  | ((with_reducible show WS _ _ _ _ _); walk_at "dlS")
  | ((with_reducible show WSs _ _ _ _ _); first | refine wss_cons ?_ | refine wss_nil ?_)
  | ((with_reducible show ChQ _ _ _ _ _ _ _ _ _); (show We _ _ _ _ _))
  | ((with_reducible show PiD _ _ (Expr.Call (Expr.Name "range" _) [_] _ _) _ _ _); refine pi_rg (by assumption) rfl ?_)
  | ((with_reducible show PiD _ _ (Expr.Call (Expr.Name "range" _) [_, _] _ _) _ _ _); refine pi_rg2 (by assumption) rfl ?_)
  | ((with_reducible show WGo _ _ (Expr.Name _ _) _ _ _ _); refine wgo_nb rfl (by walk_at "loc") (by kernel_rfl) ?_)
  | ((with_reducible show WG _ (Expr.Tuple _ _ _) _ _ _ _); refine wg_tup rfl rfl ?_)
  | ((with_reducible show WGs _ _ _ _ _ _); first | refine wgs_cons ?_ | refine wgs_nil ?_)
  | ((with_reducible show WGo _ _ (Expr.Tuple _ _ _) _ _ _ _); refine wgo_tup rfl rfl ?_)
  | ((with_reducible show WGso _ _ _ _ _ _ _); first | refine wgso_cons ?_ | refine wgso_nil ?_)
  | ((with_reducible show WG _ (Expr.Name _ _) _ _ _ _); refine wg_nm rfl (by walk_at "loc") ?_)
  | ((with_reducible show WO _ _ _ _ _); first | refine wo_none ?_ | refine wo_some ?_)
  | ((with_reducible show WI _ _ _ _ _); first | refine wi_nil ?_ | refine wi_one ?_)
  | ((with_reducible show WJ _ _ _ _ _ _); first | refine wj_cons ?_ | refine wj_nil ?_)
  | walk_at "dlQ")
def spChk (er : ErrA) : SpD := fun ds O Q E => ∃ x, ds = [x] ∧ AskFr O x ∧ (isFrac x = true → Q .non O) ∧ (isFrac x = false → E (giv er.frac x) O)
theorem ok_check_fraction {M : Mo} {er : ErrA} {f : Addr} {fd : FuncData} (Er : Errs M er) (h_is_fraction : DefD M "is_fraction" (topS 45) ["value"] 2 spFrac) (hm : M.mg "check_fraction" = some (.ref f)) (Fn : Fun M.K "check_fraction" "check_fraction" (topS 48) f fd) : DefD M "check_fraction" (topS 48) ["fraction"] 3 (spChk er) := by
  refine def_ok (N := ["fraction"]) hm Fn ⟨rfl, rfl, rfl, by decide +kernel, rfl, by decide +kernel, by decide +kernel⟩ (fun _ _ _ _ _ _ us hl => match us, hl with | [_], _ => rfl) (fun ds O Q E ⟨t, e, _⟩ => by rw [e]; rfl) fun F ds O Qd Ed ⟨x, e, hx, q, q1⟩ => ?_
  subst e
  repeat walk_at "dl"
  refine ⟨x, rfl, hx, ?_⟩
  repeat walk_at "dl"
  refine if2 (fun h => ?_) (fun h => ?_)
  · have h : isFrac x = false := by simpa using h
    repeat walk_at "dl"
    refine ws_raise Er.frac (Nat.le_of_ble_eq_true rfl) rfl rfl ?_
    repeat walk_at "dl"
    exact q1 h
  · have h : isFrac x = true := by simpa using h
    repeat walk_at "dl"
    exact q h
def spTwo (er : ErrA) : SpD := fun ds O Q E => ∃ x y, ds = [x, y] ∧ AskFr O x ∧ AskFr O y ∧ (isFrac x = true → isFrac y = true → Q .non O) ∧ (isFrac x = false → E (giv er.frac x) O) ∧ (isFrac x = true → isFrac y = false → E (giv er.frac y) O)
theorem ok_check_two {M : Mo} {er : ErrA} {f : Addr} {fd : FuncData} (h_check_fraction : DefD M "check_fraction" (topS 48) ["fraction"] 3 (spChk er)) (hm : M.mg "check_two" = some (.ref f)) (Fn : Fun M.K "check_two" "check_two" (topS 49) f fd) : DefD M "check_two" (topS 49) ["one", "other"] 4 (spTwo er) := by
  refine def_ok (N := ["one", "other"]) hm Fn ⟨rfl, rfl, rfl, by decide +kernel, rfl, by decide +kernel, by decide +kernel⟩ (fun _ _ _ _ _ _ us hl => match us, hl with | [_, _], _ => rfl) (fun ds O Q E ⟨t, b, e, _⟩ => by rw [e]; rfl) fun F ds O Qd Ed ⟨x, y, e, hx, hy, q, q1, q2⟩ => ?_
  subst e
  repeat walk_at "dl"
  refine ⟨x, rfl, hx, fun h => ?_, q1⟩
  repeat walk_at "dl"
  exact ⟨y, rfl, hy, fun h2 => wss_nil (q h h2), q2 h⟩
def Sm9 (i : Int) : Prop := i.natAbs < 2 ^ 900
theorem mul9 {a b : Int} (ha : Sm9 a) (hb : Sm9 b) : CMulW a b := wide_mul (a := 900) (b := 900) ha hb (by decide) (by decide) (by decide)
theorem sm_mul {a b : Int} (ha : Sm9 a) (hb : Sm9 b) : Sm (a * b) := by
  unfold Sm Sm9 at *
  rw [Int.natAbs_mul]
  refine Nat.lt_of_lt_of_le (Nat.mul_lt_mul'' ha hb) ?_
  rw [← Nat.pow_add]
  exact Nat.pow_le_pow_right (by decide) (by decide)
theorem mul_pos1 {a b : Int} (ha : 1 ≤ a) (hb : 1 ≤ b) : 1 ≤ a * b := by
  have := Int.mul_pos (a := a) (b := b) (by omega) (by omega)
  omega
theorem frac_of {x : D} (h : isFrac x = true) : ∃ a b, x = .tup [.int a, .int b] ∧ 1 ≤ b := by
  unfold isFrac at h
  split at h
  · rw [Bool.and_eq_true, decide_eq_true_iff] at h
    exact ⟨_, _, rfl, h.1⟩
  · cases h
def spBin (er : ErrA) (g : Int → Int → Int → Int → D) : SpD := fun ds O Q E => ∃ x y, ds = [x, y] ∧ AskFr O x ∧ AskFr O y ∧ (∀ a b c d, x = .tup [.int a, .int b] → y = .tup [.int c, .int d] → isFrac x = true → isFrac y = true → Sm9 a ∧ Sm9 b ∧ Sm9 c ∧ Sm9 d ∧ Q (g a b c d) O) ∧ (isFrac x = false → E (giv er.frac x) O) ∧ (isFrac x = true → isFrac y = false → E (giv er.frac y) O)
def plusI (a b c d : Int) : D := fr (lowI (a * d + c * b) (b * d))
theorem ok_plus {M : Mo} {er : ErrA} {f : Addr} {fd : FuncData} (h_check_two : DefD M "check_two" (topS 49) ["one", "other"] 4 (spTwo er)) (h_low : DefD M "low" (topS 46) ["top", "base"] 2 spLow) (hm : M.mg "plus" = some (.ref f)) (Fn : Fun M.K "plus" "plus" (topS 50) f fd) : DefD M "plus" (topS 50) ["one", "other"] 5 (spBin er plusI) := by
  refine def_ok (N := ["one", "other"]) hm Fn ⟨rfl, rfl, rfl, by decide +kernel, rfl, by decide +kernel, by decide +kernel⟩ (fun _ _ _ _ _ _ us hl => match us, hl with | [_, _], _ => rfl) (fun ds O Q E ⟨t, b, e, _⟩ => by rw [e]; rfl) fun F ds O Qd Ed ⟨x, y, e, hx, hy, q, q1, q2⟩ => ?_
  subst e
  repeat walk_at "dl"
  refine ⟨x, y, rfl, hx, hy, fun fx fy => ?_, q1, q2⟩
  obtain ⟨a, b, rfl, hb⟩ := frac_of fx
  obtain ⟨c, d, rfl, hd⟩ := frac_of fy
  obtain ⟨sa, sb, sc, sd, q⟩ := q a b c d rfl rfl fx fy
  repeat walk_at "dl"
  refine q_muli (mul9 sa sd) ?_
  repeat walk_at "dl"
  refine q_muli (mul9 sc sb) ?_
  repeat walk_at "dl"
  refine q_muli (mul9 sb sd) ?_
  repeat walk_at "dl"
  exact ⟨_, _, rfl, mul_pos1 hb hd, sm_mul sb sd, q⟩
def minusI (a b c d : Int) : D := fr (lowI (a * d - c * b) (b * d))
theorem ok_minus {M : Mo} {er : ErrA} {f : Addr} {fd : FuncData} (h_check_two : DefD M "check_two" (topS 49) ["one", "other"] 4 (spTwo er)) (h_low : DefD M "low" (topS 46) ["top", "base"] 2 spLow) (hm : M.mg "minus" = some (.ref f)) (Fn : Fun M.K "minus" "minus" (topS 51) f fd) : DefD M "minus" (topS 51) ["one", "other"] 5 (spBin er minusI) := by
  refine def_ok (N := ["one", "other"]) hm Fn ⟨rfl, rfl, rfl, by decide +kernel, rfl, by decide +kernel, by decide +kernel⟩ (fun _ _ _ _ _ _ us hl => match us, hl with | [_, _], _ => rfl) (fun ds O Q E ⟨t, b, e, _⟩ => by rw [e]; rfl) fun F ds O Qd Ed ⟨x, y, e, hx, hy, q, q1, q2⟩ => ?_
  subst e
  repeat walk_at "dl"
  refine ⟨x, y, rfl, hx, hy, fun fx fy => ?_, q1, q2⟩
  obtain ⟨a, b, rfl, hb⟩ := frac_of fx
  obtain ⟨c, d, rfl, hd⟩ := frac_of fy
  obtain ⟨sa, sb, sc, sd, q⟩ := q a b c d rfl rfl fx fy
  repeat walk_at "dl"
  refine q_muli (mul9 sa sd) ?_
  repeat walk_at "dl"
  refine q_muli (mul9 sc sb) ?_
  repeat walk_at "dl"
  refine q_muli (mul9 sb sd) ?_
  repeat walk_at "dl"
  exact ⟨_, _, rfl, mul_pos1 hb hd, sm_mul sb sd, q⟩
def timesI (a b c d : Int) : D := fr (lowI (a * c) (b * d))
theorem ok_times {M : Mo} {er : ErrA} {f : Addr} {fd : FuncData} (h_check_two : DefD M "check_two" (topS 49) ["one", "other"] 4 (spTwo er)) (h_low : DefD M "low" (topS 46) ["top", "base"] 2 spLow) (hm : M.mg "times" = some (.ref f)) (Fn : Fun M.K "times" "times" (topS 52) f fd) : DefD M "times" (topS 52) ["one", "other"] 5 (spBin er timesI) := by
  refine def_ok (N := ["one", "other"]) hm Fn ⟨rfl, rfl, rfl, by decide +kernel, rfl, by decide +kernel, by decide +kernel⟩ (fun _ _ _ _ _ _ us hl => match us, hl with | [_, _], _ => rfl) (fun ds O Q E ⟨t, b, e, _⟩ => by rw [e]; rfl) fun F ds O Qd Ed ⟨x, y, e, hx, hy, q, q1, q2⟩ => ?_
  subst e
  repeat walk_at "dl"
  refine ⟨x, y, rfl, hx, hy, fun fx fy => ?_, q1, q2⟩
  obtain ⟨a, b, rfl, hb⟩ := frac_of fx
  obtain ⟨c, d, rfl, hd⟩ := frac_of fy
  obtain ⟨sa, sb, sc, sd, q⟩ := q a b c d rfl rfl fx fy
  repeat walk_at "dl"
  refine q_muli (mul9 sa sc) ?_
  repeat walk_at "dl"
  refine q_muli (mul9 sb sd) ?_
  repeat walk_at "dl"
  exact ⟨_, _, rfl, mul_pos1 hb hd, sm_mul sb sd, q⟩
def comparedI (a b c d : Int) : D := .int (PyProof.Rows.b2i (decide (0 < a * d - c * b)) - PyProof.Rows.b2i (decide (a * d - c * b < 0)))
theorem ok_compared {M : Mo} {er : ErrA} {f : Addr} {fd : FuncData} (h_check_two : DefD M "check_two" (topS 49) ["one", "other"] 4 (spTwo er)) (hm : M.mg "compared" = some (.ref f)) (Fn : Fun M.K "compared" "compared" (topS 53) f fd) : DefD M "compared" (topS 53) ["one", "other"] 5 (spBin er comparedI) := by
  refine def_ok (N := ["one", "other", "gap"]) hm Fn ⟨rfl, rfl, rfl, by decide +kernel, rfl, by decide +kernel, by decide +kernel⟩ (fun _ _ _ _ _ _ us hl => match us, hl with | [_, _], _ => rfl) (fun ds O Q E ⟨t, b, e, _⟩ => by rw [e]; rfl) fun F ds O Qd Ed ⟨x, y, e, hx, hy, q, q1, q2⟩ => ?_
  subst e
  repeat walk_at "dl"
  refine ⟨x, y, rfl, hx, hy, fun fx fy => ?_, q1, q2⟩
  obtain ⟨a, b, rfl, hb⟩ := frac_of fx
  obtain ⟨c, d, rfl, hd⟩ := frac_of fy
  obtain ⟨sa, sb, sc, sd, q⟩ := q a b c d rfl rfl fx fy
  repeat walk_at "dl"
  refine q_muli (mul9 sa sd) ?_
  repeat walk_at "dl"
  refine q_muli (mul9 sc sb) ?_
  repeat walk_at "dl"
  exact q
def frText (a b : Int) : Str := if b = 1 then Str.ofString (toString a) else Str.ofString (toString a) ++ Str.ofString "/" ++ Str.ofString (toString b)
def spFrText (er : ErrA) : SpD := fun ds O Q E => ∃ x, ds = [x] ∧ AskFr O x ∧ (∀ a b, x = .tup [.int a, .int b] → isFrac x = true → Sm9 a ∧ Sm9 b ∧ Q (.str (frText a b)) O) ∧ (isFrac x = false → E (giv er.frac x) O)
theorem log9 {i : Int} (h : Sm9 i) : i.natAbs.log2 < 1920 := by
  unfold Sm9 at h
  rcases Nat.eq_zero_or_pos i.natAbs with z | z
  · rw [z]; decide
  · have := (Nat.log2_lt (by omega)).mpr h
    omega
theorem str_len {x y : Str} : (x ++ y).length = x.length + y.length := by
  show (x.cps ++ y.cps).size = _
  rw [Array.size_append]; rfl
theorem empty_app {x : Str} : Str.empty ++ x = x := by
  show (⟨#[] ++ x.cps⟩ : Str) = x
  rw [Array.empty_append]
theorem ok_fraction_text {M : Mo} {er : ErrA} {f : Addr} {fd : FuncData} (B : Blt M) (h_check_fraction : DefD M "check_fraction" (topS 48) ["fraction"] 3 (spChk er)) (hm : M.mg "fraction_text" = some (.ref f)) (Fn : Fun M.K "fraction_text" "fraction_text" (topS 54) f fd) : DefD M "fraction_text" (topS 54) ["fraction"] 4 (spFrText er) := by
  refine def_ok (N := ["fraction", "top", "base"]) hm Fn ⟨rfl, rfl, rfl, by decide +kernel, rfl, by decide +kernel, by decide +kernel⟩ (fun _ _ _ _ _ _ us hl => match us, hl with | [_], _ => rfl) (fun ds O Q E ⟨t, e, _⟩ => by rw [e]; rfl) fun F ds O Qd Ed ⟨x, e, hx, q, q1⟩ => ?_
  subst e
  repeat walk_at "dl"
  refine ⟨x, rfl, hx, fun fx => ?_, q1⟩
  obtain ⟨a, b, rfl, hb⟩ := frac_of fx
  obtain ⟨sa, sb, q⟩ := q a b rfl fx
  repeat walk_at "dl"
  refine if2 (fun h => ?_) (fun h => ?_)
  · have h : b = 1 := eq_of_beq h
    repeat walk_at "dl"
    refine q_stri (log9 sa) ?_
    unfold frText at q
    rw [if_pos h] at q
    exact q
  · have h : ¬ b = 1 := fun z => by rw [z] at h; cases h
    have l1 := PyProof.Rows.int_text_len_1921 (log9 sa)
    have l2 := PyProof.Rows.int_text_len_1921 (log9 sb)
    have l3 : (Str.ofString "/").length = 1 := by decide +kernel
    repeat walk_at "dl"
    refine .inr ⟨a, rfl, log9 sa, _, rfl, ?_, ?_⟩
    · rw [str_len]; show 0 + _ ≤ 16777216; omega
    repeat walk_at "dl"
    refine ⟨_, rfl, ?_, ?_⟩
    · rw [str_len, str_len, l3]; show 0 + _ + 1 ≤ 16777216; omega
    repeat walk_at "dl"
    refine .inr ⟨b, rfl, log9 sb, _, rfl, ?_, ?_⟩
    · rw [str_len, str_len, str_len, l3]; show 0 + _ + 1 + _ ≤ 16777216; omega
    repeat walk_at "dl"
    rw [empty_app]
    unfold frText at q
    rw [if_neg h] at q
    exact q
/-! ### fraction_in -/
abbrev slash : Str := Str.ofString "/"
def bodyIn (z : Str) : Str := if Txt.startswith z (Str.ofString "-") = true then cutS z (some 1) none else z
def baseIn (z : Str) : Option Nat := if ((Txt.partition (bodyIn z) slash).2.1 == slash) = true then cntO (Txt.partition (bodyIn z) slash).2.2 else some 1
def signIn (z : Str) (t b : Nat) : Option (Int × Int) :=
  let n : Int := if Txt.startswith z (Str.ofString "-") = true then -(t : Int) else t
  if (Txt.startswith z (Str.ofString "-") && (t == 0)) = true then none else if (isFrac (fr (n, (b : Int))) && (((Txt.partition (bodyIn z) slash).2.1 == Str.ofString "") == (((b : Nat) : Int) == 1))) = true then some (n, (b : Int)) else none
def fracIn (z : Str) : Option (Int × Int) := match cntO (Txt.partition (bodyIn z) slash).1, baseIn z with
  | some t, some b => signIn z t b
  | _, _ => none
def frD : Option (Int × Int) → D
  | some p => fr p
  | none => .non
def spFracIn : SpD := fun ds O Q _ => ∃ z : Str, ds = [.str z] ∧ GoodS z ∧ Q (frD (fracIn z)) O
theorem q_iso {O : Opens} {Q : DK} {o : Option Nat} (h : Q (.bl o.isNone) O) : CmpQ .Is (optD o) .non O Q := by
  cases o with
  | none => exact q_isn (fun v hv => nomatch hv) h
  | some n => exact q_isn (fun v hv => nomatch hv) h
theorem sub_len (x : Str) (a b : Nat) : (PySem.Builtin.Str.strSub x a b).length ≤ x.length := by
  rw [len_cps, len_cps, PySem.StrLaws.strSub_toList, List.length_take, List.length_drop]
  omega
theorem part_len (x y : Str) : (Txt.partition x y).1.length ≤ x.length ∧ (Txt.partition x y).2.2.length ≤ x.length ∧ ((Txt.partition x y).2.1 = y ∨ (Txt.partition x y).2.1 = Str.empty) := by
  unfold Txt.partition
  split
  · exact ⟨sub_len _ _ _, sub_len _ _ _, .inl rfl⟩
  · exact ⟨Nat.le_refl _, Nat.zero_le _, .inr rfl⟩
theorem body_len (z : Str) : (bodyIn z).length ≤ z.length := by
  unfold bodyIn
  split
  · exact cutS_length _ _ _
  · exact Nat.le_refl _
theorem ok_fraction_in {M : Mo} {f : Addr} {fd : FuncData} (B : Blt M) (h_count_in : DefD M "count_in" (topS 33) ["word"] 1 spCnt) (h_is_fraction : DefD M "is_fraction" (topS 45) ["value"] 2 spFrac) (hm : M.mg "fraction_in" = some (.ref f)) (Fn : Fun M.K "fraction_in" "fraction_in" (topS 55) f fd) : DefD M "fraction_in" (topS 55) ["text"] 3 spFracIn := by
  refine def_ok (N := ["text", "below", "first", "sign", "second", "top", "base", "found"]) hm Fn ⟨rfl, rfl, rfl, by decide +kernel, rfl, by decide +kernel, by decide +kernel⟩ (fun _ _ _ _ _ _ us hl => match us, hl with | [_], _ => rfl) (fun ds O Q E ⟨t, e, _⟩ => by rw [e]; rfl) fun F ds O Qd Ed ⟨z, e, ⟨hz, hk⟩, q⟩ => ?_
  subst e
  have hz' : z.length ≤ sizeLine := Nat.le_trans hz (by decide)
  repeat walk_at "dl"
  refine we_startswith ?_
  repeat walk_at "dl"
  refine ⟨z, rfl, ?_⟩
  repeat walk_at "dl"
  refine ⟨_, rfl, ?_⟩
  repeat walk_at "dl"
  refine we_partition ?_
  repeat walk_at "dl"
  have bd : ∀ c, c = Txt.startswith z (Str.ofString "-") → (c = true → cutS z (some 1) none = bodyIn z) ∧ (c = false → z = bodyIn z) := fun c hc => ⟨fun h => by unfold bodyIn; rw [if_pos (hc ▸ h)], fun h => by unfold bodyIn; rw [if_neg (by rw [← hc, h]; decide)]⟩
  refine we_both (.str (bodyIn z)) (fun h => ?_) (fun h => ?_) ?_
  · repeat walk_at "dl"
    refine ⟨_, rfl, ?_⟩
    repeat walk_at "dl"
    exact ⟨by rw [(bd _ rfl).1 h], rfl⟩
  · repeat walk_at "dl"
    exact ⟨by rw [← (bd _ rfl).2 h], rfl⟩
  have hb : (bodyIn z).length ≤ sizeLine := Nat.le_trans (body_len z) hz'
  obtain ⟨p1, p2, p3⟩ := part_len (bodyIn z) slash
  refine ⟨_, rfl, ?_⟩
  repeat walk_at "dl"
  refine ⟨_, rfl, by decide +kernel, hb, ?_⟩
  repeat walk_at "dl"
  refine ⟨_, rfl, Nat.le_trans p1 hb, ?_⟩
  repeat walk_at "dl"
  refine we_both (optD (baseIn z)) (fun h => ?_) (fun h => ?_) ?_
  · repeat walk_at "dl"
    refine ⟨_, rfl, Nat.le_trans p2 hb, ?_, rfl⟩
    unfold baseIn
    rw [if_pos h]
  · repeat walk_at "dl"
    refine ⟨?_, rfl⟩
    unfold baseIn
    rw [if_neg (by rw [show ((Txt.partition (bodyIn z) slash).2.1 == slash) = false from h]; decide)]; rfl
  have ef : fracIn z = match cntO (Txt.partition (bodyIn z) slash).1, baseIn z with | some t, some b => signIn z t b | _, _ => none := rfl
  have none_ : fracIn z = none → Qd .non O := fun h => by rw [h] at q; exact q
  cases ht : cntO (Txt.partition (bodyIn z) slash).1 with
  | none =>
    rw [ht] at ef
    have ef : fracIn z = none := ef
    repeat walk_at "dl"
    refine q_iso ?_
    repeat walk_at "dl"
    exact none_ ef
  | some t =>
    rw [ht] at ef
    cases hbb : baseIn z with
    | none =>
      rw [hbb] at ef
      have ef : fracIn z = none := ef
      repeat walk_at "dl"
      refine q_iso ?_
      repeat walk_at "dl"
      refine q_iso ?_
      repeat walk_at "dl"
      exact none_ ef
    | some b =>
      rw [hbb] at ef
      have ef : fracIn z = signIn z t b := ef
      repeat walk_at "dl"
      refine q_iso ?_
      repeat walk_at "dl"
      refine q_iso ?_
      repeat walk_at "dl"
      unfold signIn at ef
      have fin : ∀ n : Int, (fracIn z = if (isFrac (fr (n, (b : Int))) && (((Txt.partition (bodyIn z) slash).2.1 == Str.ofString "") == (((b : Nat) : Int) == 1))) = true then some (n, (b : Int)) else none) →
          (isFrac (.tup [.int n, .int (b : Int)]) = true → (((Txt.partition (bodyIn z) slash).2.1 == Str.ofString "") == (((b : Nat) : Int) == 1)) = true → Qd (.tup [.int n, .int (b : Int)]) O) ∧ (isFrac (.tup [.int n, .int (b : Int)]) = false ∨ (((Txt.partition (bodyIn z) slash).2.1 == Str.ofString "") == (((b : Nat) : Int) == 1)) = false → Qd .non O) := by
        intro n h
        refine ⟨fun h1 h2 => ?_, fun h1 => none_ ?_⟩
        · rw [h2, show isFrac (fr (n, (b : Int))) = true from h1, if_pos (by rfl)] at h
          rw [h] at q
          exact q
        · rw [h]
          rcases h1 with h1 | h1
          · rw [show isFrac (fr (n, (b : Int))) = false from h1]; rfl
          · rw [h1, Bool.and_false]; rfl
      have ask : ∀ n : Int, AskFr O (.tup [.int n, .int (b : Int)]) := fun n => ⟨⟨_, rfl⟩, fun x y e => by cases e; exact ⟨⟨_, rfl⟩, _, rfl⟩⟩
      generalize Txt.startswith z (Str.ofString "-") = sw at ef ⊢
      cases sw with
      | true =>
        repeat walk_at "dl"
        refine if2 (fun h0 => ?_) (fun h0 => ?_)
        · repeat walk_at "dl"
          refine none_ (ef.trans ?_)
          have h1 : t = 0 := by have := eq_of_beq h0; omega
          subst h1; rfl
        · have h1 : (t == 0) = false := by
            refine beq_false_of_ne fun w => ?_
            subst w; cases h0
          have ef : fracIn z = _ := ef
          simp only [Bool.true_and, h1, if_true] at ef
          obtain ⟨k1, k2⟩ := fin (-(t : Int)) (by rw [ef]; rfl)
          repeat walk_at "dl"
          refine ⟨_, rfl, ?_⟩
          repeat walk_at "dl"
          refine ⟨_, rfl, ask _, ?_⟩
          repeat walk_at "dl"
          refine if2 (fun h5 => ?_) (fun h5 => ?_)
          · repeat walk_at "dl"
            refine q_eqd lay_bl lay_bl ?_
            rw [eqD_bl]
            repeat walk_at "dl"
            refine if2 (fun h6 => ?_) (fun h6 => ?_)
            · repeat walk_at "dl"
              exact k1 h5 h6
            · repeat walk_at "dl"
              exact k2 (.inr h6)
          · repeat walk_at "dl"
            exact k2 (.inl h5)
      | false =>
        obtain ⟨k1, k2⟩ := fin (t : Int) ef
        repeat walk_at "dl"
        refine ⟨_, rfl, ask _, ?_⟩
        repeat walk_at "dl"
        refine if2 (fun h5 => ?_) (fun h5 => ?_)
        · repeat walk_at "dl"
          refine q_eqd lay_bl lay_bl ?_
          rw [eqD_bl]
          repeat walk_at "dl"
          refine if2 (fun h6 => ?_) (fun h6 => ?_)
          · repeat walk_at "dl"
            exact k1 h5 h6
          · repeat walk_at "dl"
            exact k2 (.inr h6)
        · repeat walk_at "dl"
          exact k2 (.inl h5)
/-- read_fraction -/
def readFr : D → Option (Int × Int)
  | .str z => fracIn z
  | _ => none
def spReadFr (er : ErrA) : SpD := fun ds O Q E => ∃ d t, ds = [d] ∧ tyD O d = some t ∧ (∀ z, d = .str z → GoodS z) ∧ (∀ p, readFr d = some p → Q (fr p) O) ∧ (readFr d = none → E (giv er.text d) O)
theorem readFr_not {O : Opens} {d : D} {t : Ty} (h : tyD O d = some t) (m : t ≠ .str) : readFr d = none := by
  cases d with
  | str i => cases h; exact absurd rfl m
  | _ => rfl
theorem ok_read_fraction {M : Mo} {er : ErrA} {f : Addr} {fd : FuncData} (B : Blt M) (Er : Errs M er) (h_fraction_in : DefD M "fraction_in" (topS 55) ["text"] 3 spFracIn) (hm : M.mg "read_fraction" = some (.ref f)) (Fn : Fun M.K "read_fraction" "read_fraction" (topS 56) f fd) : DefD M "read_fraction" (topS 56) ["text"] 4 (spReadFr er) := by
  refine def_ok (N := ["text", "found"]) hm Fn ⟨rfl, rfl, rfl, by decide +kernel, rfl, by decide +kernel, by decide +kernel⟩ (fun _ _ _ _ _ _ us hl => match us, hl with | [_], _ => rfl) (fun ds O Q E ⟨d, t, e, _⟩ => by rw [e]; rfl) fun F ds O Qd Ed ⟨d, t, e, ht, hg, q, qe⟩ => ?_
  subst e
  by_cases hs : t = .str
  · subst hs
    obtain ⟨z, rfl⟩ := ty_str ht
    repeat walk_at "dl"
    refine ⟨z, rfl, hg z rfl, ?_⟩
    cases ho : fracIn z with
    | none =>
      repeat walk_at "dl"
      refine q_isn (fun v hv => by cases hv) ?_
      repeat walk_at "dl"
      refine ws_raise Er.text (Nat.le_of_ble_eq_true rfl) rfl rfl ?_
      repeat walk_at "dl"
      exact qe ho
    | some p =>
      repeat walk_at "dl"
      refine q_isn (fun v hv => by cases hv) ?_
      repeat walk_at "dl"
      exact q p ho
  · have er_ := readFr_not ht hs
    repeat walk_at "dl"
    refine iff_ (by cases t <;> first | rfl | exact absurd rfl hs) ?_
    repeat walk_at "dl"
    refine q_isn (fun v hv => by cases hv) ?_
    repeat walk_at "dl"
    refine ws_raise Er.text (Nat.le_of_ble_eq_true rfl) rfl rfl ?_
    repeat walk_at "dl"
    exact qe er_
end K0

namespace K0
open PySem PySem.Spec PyProof.Rows L2 DL PySem.NumText
local macro_rules | `(tactic| walk_at "vis") => `(tactic| first | exact .inl rfl | exact .inr (.inl rfl) | exact .inr (.inr rfl))
local macro_rules | `(tactic| walk_at "loc") => `(tactic| first | exact .inl rfl | exact .inr rfl)
local macro_rules | `(tactic| walk_at "dlName") => `(tactic| first
  | ((with_reducible show We _ (Expr.Name "int" _) _ _ _); refine we_tyInt (by assumption) rfl ?_)
  | ((with_reducible show We _ (Expr.Name "bool" _) _ _ _); refine we_tyBool (by assumption) rfl ?_)
  | ((with_reducible show We _ (Expr.Name "str" _) _ _ _); refine we_tyStr (by assumption) rfl ?_)
  | ((with_reducible show We _ (Expr.Name "list" _) _ _ _); refine we_tyList (by assumption) rfl ?_)
  | ((with_reducible show We _ (Expr.Name "tuple" _) _ _ _); refine we_tyTuple (by assumption) rfl ?_)
  | ((with_reducible show We _ (Expr.Name "dict" _) _ _ _); refine we_tyDict (by assumption) rfl ?_)
  | (refine we_nm rfl rfl ?v ?_; (case v => walk_at "vis"))
  | refine we_gstr (by assumption) rfl ?_ | refine we_gint (by assumption) rfl ?_)
local macro_rules | `(tactic| walk_at "dlCall") => `(tactic| first
  | ((with_reducible show We _ (Expr.Call (Expr.Name "isinstance" _) _ [] _) _ _ _); refine we_isi (by assumption) rfl ?_)
  | ((with_reducible show We _ (Expr.Call (Expr.Name "len" _) _ [] _) _ _ _); refine we_len (by assumption) rfl ?_)
  | ((with_reducible show We _ (Expr.Call (Expr.Name "all" _) _ [] _) _ _ _); refine we_all (by assumption) rfl rfl ?_)
  | ((with_reducible show We _ (Expr.Call (Expr.Name "abs" _) _ [] _) _ _ _); refine we_abs (by assumption) rfl ?_)
  | ((with_reducible show We _ (Expr.Call (Expr.Name "int" _) _ [] _) _ _ _); refine we_int_ (by assumption) rfl ?_)
  | ((with_reducible show We _ (Expr.Call (Expr.Name "str" _) _ [] _) _ _ _); refine we_str_ (by assumption) rfl ?_)
  | ((with_reducible show We _ (Expr.Call (Expr.Name "tuple" _) _ [] _) _ _ _); refine we_tuple_ (by assumption) rfl ?_)
  | ((with_reducible show We _ (Expr.Call (Expr.Name "list" _) _ [] _) _ _ _); refine we_list_ (by assumption) rfl ?_)
  | ((with_reducible show We _ (Expr.Call (Expr.Name "sum" _) _ [] _) _ _ _); refine we_sum (by assumption) rfl rfl ?_)
  | ((with_reducible show We _ (Expr.Call (Expr.Name "max" _) _ [] _) _ _ _); refine we_max (by assumption) rfl rfl ?_)
  | ((with_reducible show We _ (Expr.Call (Expr.Name "min" _) _ [] _) _ _ _); refine we_min (by assumption) rfl rfl ?_)
  | (refine' we_call ?hd ?hk ?hg ?hh ?_; (case hd => assumption); (case hk => exact Nat.le_of_ble_eq_true rfl); (case hg => rfl); (case hh => rfl)))
local macro_rules | `(tactic| walk_at "dlE") => `(tactic| first
  | ((with_reducible show We _ (Expr.Name _ _) _ _ _); walk_at "dlName")
  | ((with_reducible show We _ (Expr.Constant _ _ _) _ _ _); first | refine we_int ?_ | refine we_str ?_ | refine we_bl ?_ | refine we_non ?_)
  | ((with_reducible show We _ (Expr.Call (Expr.Name _ _) _ [] _) _ _ _); walk_at "dlCall")
  | ((with_reducible show We _ (Expr.BoolOp _ _ _) _ _ _); first | refine we_and ?_ | refine we_or ?_ | refine we_one ?_)
  | ((with_reducible show We _ (Expr.UnaryOp _ _ _) _ _ _); first | refine we_not ?_ | refine we_neg ?_)
  | ((with_reducible show We _ (Expr.Compare _ [_] _ _) _ _ _); refine we_cmp ?_)
  | ((with_reducible show We _ (Expr.Compare _ [_, _] _ _) _ _ _); refine we_chain ?_)
  | ((with_reducible show We _ (Expr.BinOp _ _ _ _) _ _ _); refine we_bin ?_)
  | ((with_reducible show We _ (Expr.IfExp _ _ _ _) _ _ _); refine we_if ?_)
  | ((with_reducible show We _ (Expr.Tuple _ _ _) _ _ _); refine we_tup ?_)
  | ((with_reducible show We _ (Expr.List _ _) _ _ _); refine we_lst ?_)
  | ((with_reducible show We _ (Expr.Subscript _ (Expr.Slice _ _ none _) _) _ _ _); refine we_slice ?_)
  | ((with_reducible show We _ (Expr.Subscript _ _ _) _ _ _); refine we_ix ?_)
  | ((with_reducible show We _ (Expr.JoinedStr _ _) _ _ _); refine we_joined ?_)
  | ((with_reducible show We _ (Expr.FormattedValue _ _ _ _) _ _ _); refine we_fmt ?_)
  | ((with_reducible show We _ (Expr.ListComp _ _ _ _) _ _ _); refine we_lc rfl (by kernel_rfl) ?_))
local macro_rules | `(tactic| walk_at "dlT") => `(tactic| first
  | ((with_reducible show WT _ (Expr.UnaryOp _ _ _) _ _ _); refine wt_not ?_)
  | ((with_reducible show WT _ (Expr.Compare _ [_] _ _) _ _ _); refine wt_cmp ?_)
  | ((with_reducible show WT _ (Expr.Compare _ [_, _] _ _) _ _ _); refine wt_chain ?_)
  | ((with_reducible show WT _ (Expr.BoolOp _ _ _) _ _ _); refine WW.wt ?_)
  | refine wt_val ?_)
local macro_rules | `(tactic| walk_at "dlS") => `(tactic| first
  | ((with_reducible show WS _ (Stmt.Return _ _) _ _ _); first | refine ws_ret ?_ | refine ws_retN ?_)
  | ((with_reducible show WS _ (Stmt.If _ _ _ _) _ _ _); refine ws_if ?_)
  | ((with_reducible show WS _ (Stmt.Assign [Expr.Name _ _] _ _) _ _ _); (refine ws_nm rfl ?v ?_; (case v => walk_at "loc")))
  | ((with_reducible show WS _ (Stmt.Assign [Expr.Tuple [Expr.Name _ _, Expr.Name _ _] _ _] (Expr.Tuple [_, _] _ _) _) _ _ _); (refine ws_pr rfl rfl rfl (by kernel_rfl) rfl rfl ?_ ?hw; (case hw => (intro env he; obtain ⟨⟩ := env; cases he; kernel_rfl))))
  | ((with_reducible show WS _ (Stmt.Assign [Expr.Tuple _ _ _] _ _) _ _ _); refine ws_asg ?_)
  | ((with_reducible show WS _ (Stmt.Expr _ _) _ _ _); refine ws_expr ?_)
  | ((with_reducible show WS _ (Stmt.Pass _) _ _ _); refine ws_pass ?_))
local macro_rules | `(tactic| walk_at "dlQ") => `(tactic| first
  | ((with_reducible show BinQ _ _ _ _ _); first | refine q_addi ?_ | refine q_subi ?_ | refine q_subb ?_)
  | ((with_reducible show CmpQ _ _ _ _ _); first | refine q_lti ?_ | refine q_lei ?_ | refine q_gti ?_ | refine q_gei ?_ | refine q_eqi ?_ | refine q_nei ?_ | refine q_eqs ?_ | refine q_nes ?_ | refine q_insg ?_ | refine q_nisg ?_)
  | ((with_reducible show IsiQ _ _ _); refine q_isi (by first | assumption | rfl) ?_)
  | ((with_reducible show LenQ _ _ _); first | refine q_lent ?_ | refine q_lenl ?_ | refine q_lens (by assumption) ?_ | refine q_lenr ?_)
  | ((with_reducible show TruQ _ _ _); refine q_trub ?_)
  | ((with_reducible show LcF _ _ _); refine q_lcf ?_)
  | ((with_reducible show TupQ _ _ _); first | refine q_tupl ?_ | refine q_tupt ?_)
  | ((with_reducible show LstQ _ _ _); first | refine q_lstl ?_ | refine q_lstt ?_)
  | ((with_reducible show AbsQ _ _ _); refine q_abs ?_)
  | ((with_reducible show IxQ _ _ _ _); first | refine q_ixt rfl ?_ | refine q_ixl rfl ?_)
  | ((with_reducible show SlQ _ _ _ _ _); first | refine q_slt ?_ | refine q_sll ?_ | refine q_sls (by assumption) ?_ | refine q_slr ?_)
  | ((with_reducible show IntQ _ _ _); first | refine q_inti ?_ | refine q_intb ?_)
  | ((with_reducible show if _ = true then _ else _); first | refine ift rfl ?_ | refine iff_ rfl ?_)
  | ((with_reducible show ∃ k, D.bl _ = D.bl k ∧ _); refine ⟨_, rfl, ?_⟩)
  | ((with_reducible show BlQ _ _ _); refine ⟨_, rfl, ?_⟩)
  | ((with_reducible show _ ≤ sizeLine ∧ _); refine ⟨by first | exact Nat.zero_le _ | exact Nat.le_of_ble_eq_true rfl | assumption, ?_⟩))
local macro_rules | `(tactic| walk_at "dl") => `(tactic| first
  | ((with_reducible show We _ _ _ _ _); walk_at "dlE")
  | ((with_reducible show WA _ _ _ _ _); first | refine wa_cons ?_ | refine wa_nil ?_)
  | ((with_reducible show WT _ _ _ _ _); walk_at "dlT")
  | ((with_reducible show WW _ _ _ _ _); first | refine ww_and ?_ | refine ww_or ?_ | refine ww_and1 ?_ | refine ww_or1 ?_)
  | ((with_reducible show WS _ _ _ _ _); walk_at "dlS")
  | ((with_reducible show WSs _ _ _ _ _); first | refine wss_cons ?_ | refine wss_nil ?_)
  | ((with_reducible show ChQ _ _ _ _ _ _ _ _ _); (show We _ _ _ _ _))
  | ((with_reducible show PiD _ _ (Expr.Call (Expr.Name "range" _) [_] _ _) _ _ _); refine pi_rg (by assumption) rfl ?_)
  | ((with_reducible show PiD _ _ (Expr.Call (Expr.Name "range" _) [_, _] _ _) _ _ _); refine pi_rg2 (by assumption) rfl ?_)
  | ((with_reducible show WGo _ _ (Expr.Name _ _) _ _ _ _); refine wgo_nb rfl (by walk_at "loc") (by kernel_rfl) ?_)
  | ((with_reducible show WG _ (Expr.Tuple _ _ _) _ _ _ _); refine wg_tup rfl rfl ?_)
  | ((with_reducible show WGs _ _ _ _ _ _); first | refine wgs_cons ?_ | refine wgs_nil ?_)
  | ((with_reducible show WGo _ _ (Expr.Tuple _ _ _) _ _ _ _); refine wgo_tup rfl rfl ?_)
  | ((with_reducible show WGso _ _ _ _ _ _ _); first | refine wgso_cons ?_ | refine wgso_nil ?_)
  | ((with_reducible show WG _ (Expr.Name _ _) _ _ _ _); refine wg_nm rfl (by walk_at "loc") ?_)
  | ((with_reducible show WO _ _ _ _ _); first | refine wo_none ?_ | refine wo_some ?_)
  | ((with_reducible show WI _ _ _ _ _); first | refine wi_nil ?_ | refine wi_one ?_)
  | ((with_reducible show WJ _ _ _ _ _ _); first | refine wj_cons ?_ | refine wj_nil ?_)
  | walk_at "dlQ")
/-! ### is_name -/
def lowB (c : Nat) : Bool := decide (97 ≤ c) && decide (c ≤ 122)
def isName : D → Bool
  | .str z => decide (1 ≤ z.length) && decide (z.length ≤ 8) && z.cps.toList.all lowB
  | _ => false
def spName : SpD := fun ds O Q _ => ∃ d t, ds = [d] ∧ tyD O d = some t ∧ (∀ z, d = .str z → z.length ≤ sizeLine) ∧ Q (.bl (isName d)) O
theorem isName_not {O : Opens} {d : D} {t : Ty} (h : tyD O d = some t) (m : t ≠ .str) : isName d = false := by
  cases d with
  | str i => cases h; exact absurd rfl m
  | _ => rfl
theorem q_les {i j : Str} {O : Opens} {Q : DK} (h : Q (.bl (!decide (j.cps.toList < i.cps.toList))) O) : CmpQ .LtE (.str i) (.str j) O Q := h
theorem lt_one {a b : Nat} : decide ((#[a] : Array Nat).toList < (#[b] : Array Nat).toList) = decide (a < b) := by
  have e : ((#[a] : Array Nat).toList < (#[b] : Array Nat).toList) ↔ a < b := by
    show ([a] : List Nat) < [b] ↔ a < b
    rw [List.cons_lt_cons_iff]
    constructor
    · rintro (h | ⟨_, h⟩)
      · exact h
      · exact absurd h (by simp)
    · exact .inl
  by_cases h : a < b
  · rw [decide_eq_true h, decide_eq_true (e.mpr h)]
  · rw [decide_eq_false h, decide_eq_false fun z => h (e.mp z)]
theorem ok_is_name {M : Mo} {f : Addr} {fd : FuncData} (B : Blt M) (Nm : Names M) (hm : M.mg "is_name" = some (.ref f)) (Fn : Fun M.K "is_name" "is_name" (topS 57) f fd) : DefD M "is_name" (topS 57) ["value"] 1 spName := by
  obtain ⟨t1, g1⟩ := Nm.mostLetters
  refine def_ok (N := ["value", "letter"]) hm Fn ⟨rfl, rfl, rfl, by decide +kernel, rfl, by decide +kernel, by decide +kernel⟩ (fun _ _ _ _ _ _ us hl => match us, hl with | [_], _ => rfl) (fun ds O Q E ⟨t, b, e, _⟩ => by rw [e]; rfl) fun F ds O Qd Ed ⟨d, t, e, ht, hz, q⟩ => ?_
  subst e
  by_cases hs : t = .str
  · subst hs
    obtain ⟨z, rfl⟩ := ty_str ht
    have hz := hz z rfl
    have no : (decide (1 ≤ z.length) && decide (z.length ≤ 8)) = false → Qd (.bl false) O := fun h => by
      have e : isName (.str z) = false := by show (decide (1 ≤ z.length) && decide (z.length ≤ 8) && _) = false; rw [h]; rfl
      rw [e] at q; exact q
    repeat walk_at "dl"
    refine if2 (fun h1 => ?_) (fun h1 => ?_)
    · have g1 : 1 ≤ z.length := by have := of_decide_eq_true h1; omega
      repeat walk_at "dl"
      refine if2 (fun h2 => ?_) (fun h2 => ?_)
      · have h2 : decide ((z.length : Int) ≤ 8) = false := by simpa using h2
        repeat walk_at "dl"
        refine no ?_
        rw [show decide (z.length ≤ 8) = false from decide_eq_false fun w => of_decide_eq_false h2 (by omega), Bool.and_false]
      · have h2 : decide ((z.length : Int) ≤ 8) = true := by simpa using h2
        have g2 : z.length ≤ 8 := by have := of_decide_eq_true h2; omega
        repeat walk_at "dl"
        refine pi_st ?_
        repeat walk_at "dl"
        refine ⟨z, rfl, lc_mapA z.cps.toList (fun c => D.str ⟨#[c]⟩) (fun c => .bl (lowB c)) (by rw [← len_cps]; exact hz) (fun F0 c hc => ?_) ?_⟩
        · repeat walk_at "dl"
          refine q_les ?_
          have e1 : Str.ofString "a" = ⟨#[97]⟩ := by decide +kernel
          have e2 : Str.ofString "z" = ⟨#[122]⟩ := by decide +kernel
          rw [e1, lt_one]
          repeat walk_at "dl"
          refine if2 (fun h3 => ?_) (fun h3 => ?_)
          · have h3 : ¬ c < 97 := by simpa using h3
            repeat walk_at "dl"
            refine q_les ?_
            rw [e2, lt_one]
            refine ⟨?_, rfl⟩
            unfold lowB
            rw [decide_eq_true (show 97 ≤ c by omega), Bool.true_and]
            by_cases w : c ≤ 122
            · rw [decide_eq_true w, decide_eq_false (by omega)]; rfl
            · rw [decide_eq_false w, decide_eq_true (by omega)]; rfl
          · have h3 : c < 97 := by simpa using h3
            refine ⟨?_, rfl⟩
            unfold lowB
            rw [decide_eq_false (show ¬ 97 ≤ c by omega)]; rfl
        · refine ⟨z.cps.toList.map lowB, by rw [List.map_map]; rfl, ?_⟩
          have e : (z.cps.toList.map lowB).all id = isName (.str z) := by
            show _ = (decide (1 ≤ z.length) && decide (z.length ≤ 8) && z.cps.toList.all lowB)
            rw [List.all_map, decide_eq_true g1, decide_eq_true g2]; rfl
          rw [e]
          exact q
    · have h1 : ¬ (1 ≤ z.length) := fun w => of_decide_eq_false h1 (by omega)
      repeat walk_at "dl"
      exact no (by rw [decide_eq_false h1]; rfl)
  · rw [isName_not ht hs] at q
    repeat walk_at "dl"
    refine ift (by cases t <;> first | rfl | exact absurd rfl hs) ?_
    repeat walk_at "dl"
    exact q
/-! ### the __init__s -/
theorem ini_given {M : Mo} {E fI : Addr} {fd : FuncData} (hu : UpC M "EvenError" E) (Fn : Fun M.K "__init__" "GivenError.__init__" (inClass (topS 2) 0) fI fd) :
    FnOk M.P M.w M.K M.mg M.base (L2.CX M.P M.w) 1 fI fd ["self", "given"] (lift M.K (spIni M.K "given")) ∧ (∀ us : List Value, us.length = 2 → bindArgs fd ⟨us, []⟩ = pure ([("self" : Str), "given"].zip us)) ∧ ∀ self (us : List Value), (self :: us).length = 2 → bindArgs fd ⟨[self], [("given" : Str)].zip us⟩ = pure ([("self" : Str), "given"].zip (self :: us)) := by
  refine ⟨met_ok (N := ["self", "given"]) Fn ⟨rfl, rfl, rfl, by decide +kernel, rfl, by decide +kernel, by decide +kernel⟩ (fun ds O Q E ⟨a, b, c, e, _⟩ => by rw [e]; rfl) fun F ds O Qd Ed ⟨a, C, x, e, ho, T, no, q⟩ => ?_, fun us hl => ?_, fun self us hl => ?_⟩
  · subst e
    repeat walk_at "dl"
    refine we_upI hu rfl ?_
    repeat walk_at "dl"
    refine ⟨a, C, rfl, T, ho, ?_⟩
    repeat walk_at "dl"
    refine ws_ost ?_
    repeat walk_at "dl"
    exact ⟨a, C, rfl, T, no, ho, fun dx n ne => wss_nil (q dx n ne)⟩
  · obtain ⟨oc, od, kV, doc, pm, an, cdv, ct, osl, rfl, lk, hcd⟩ := Fn.ex
    match us, hl with
    | [_, _], _ => rfl
  · obtain ⟨oc, od, kV, doc, pm, an, cdv, ct, osl, rfl, lk, hcd⟩ := Fn.ex
    match us, hl with
    | [_], _ => rfl
theorem ini_knot {M : Mo} {E fI : Addr} {fd : FuncData} (hu : UpC M "EvenError" E) (Fn : Fun M.K "__init__" "Knotted.__init__" (inClass (topS 18) 0) fI fd) :
    FnOk M.P M.w M.K M.mg M.base (L2.CX M.P M.w) 1 fI fd ["self", "knot"] (lift M.K (spIni M.K "knot")) ∧ (∀ us : List Value, us.length = 2 → bindArgs fd ⟨us, []⟩ = pure ([("self" : Str), "knot"].zip us)) ∧ ∀ self (us : List Value), (self :: us).length = 2 → bindArgs fd ⟨[self], [("knot" : Str)].zip us⟩ = pure ([("self" : Str), "knot"].zip (self :: us)) := by
  refine ⟨met_ok (N := ["self", "knot"]) Fn ⟨rfl, rfl, rfl, by decide +kernel, rfl, by decide +kernel, by decide +kernel⟩ (fun ds O Q E ⟨a, b, c, e, _⟩ => by rw [e]; rfl) fun F ds O Qd Ed ⟨a, C, x, e, ho, T, no, q⟩ => ?_, fun us hl => ?_, fun self us hl => ?_⟩
  · subst e
    repeat walk_at "dl"
    refine we_upI hu rfl ?_
    repeat walk_at "dl"
    refine ⟨a, C, rfl, T, ho, ?_⟩
    repeat walk_at "dl"
    refine ws_ost ?_
    repeat walk_at "dl"
    exact ⟨a, C, rfl, T, no, ho, fun dx n ne => wss_nil (q dx n ne)⟩
  · obtain ⟨oc, od, kV, doc, pm, an, cdv, ct, osl, rfl, lk, hcd⟩ := Fn.ex
    match us, hl with
    | [_, _], _ => rfl
  · obtain ⟨oc, od, kV, doc, pm, an, cdv, ct, osl, rfl, lk, hcd⟩ := Fn.ex
    match us, hl with
    | [_], _ => rfl
theorem ini_count {M : Mo} {E fI : Addr} {fd : FuncData} (hu : UpC M "EvenError" E) (Fn : Fun M.K "__init__" "TooMany.__init__" (inClass (topS 19) 0) fI fd) :
    FnOk M.P M.w M.K M.mg M.base (L2.CX M.P M.w) 1 fI fd ["self", "count"] (lift M.K (spIni M.K "count")) ∧ (∀ us : List Value, us.length = 2 → bindArgs fd ⟨us, []⟩ = pure ([("self" : Str), "count"].zip us)) ∧ ∀ self (us : List Value), (self :: us).length = 2 → bindArgs fd ⟨[self], [("count" : Str)].zip us⟩ = pure ([("self" : Str), "count"].zip (self :: us)) := by
  refine ⟨met_ok (N := ["self", "count"]) Fn ⟨rfl, rfl, rfl, by decide +kernel, rfl, by decide +kernel, by decide +kernel⟩ (fun ds O Q E ⟨a, b, c, e, _⟩ => by rw [e]; rfl) fun F ds O Qd Ed ⟨a, C, x, e, ho, T, no, q⟩ => ?_, fun us hl => ?_, fun self us hl => ?_⟩
  · subst e
    repeat walk_at "dl"
    refine we_upI hu rfl ?_
    repeat walk_at "dl"
    refine ⟨a, C, rfl, T, ho, ?_⟩
    repeat walk_at "dl"
    refine ws_ost ?_
    repeat walk_at "dl"
    exact ⟨a, C, rfl, T, no, ho, fun dx n ne => wss_nil (q dx n ne)⟩
  · obtain ⟨oc, od, kV, doc, pm, an, cdv, ct, osl, rfl, lk, hcd⟩ := Fn.ex
    match us, hl with
    | [_, _], _ => rfl
  · obtain ⟨oc, od, kV, doc, pm, an, cdv, ct, osl, rfl, lk, hcd⟩ := Fn.ex
    match us, hl with
    | [_], _ => rfl
/-- what the written part says of one class -/
structure ClsF (K : PySem.W.Frag) (C fI : Addr) (f : Str) : Prop where
  T : OexC K C
  no : PySem.W.findIn K (.ref C) f = some none
  rd : XfC K C
  is : ExcC K C
  iC : PySem.W.findIn K (.ref C) "__init__" = some (some (.ref fI))
theorem xcls {M : Mo} {x f : Str} {C fI : Addr} {fd : FuncData} (g : M.mg x = some (.ref C)) (c : ClsF M.K C fI f) (tI : PySem.W.typeIn M.K (.ref fI) = some (.type "function"))
    (h : FnOk M.P M.w M.K M.mg M.base (L2.CX M.P M.w) 1 fI fd ["self", f] (lift M.K (spIni M.K f)) ∧ (∀ us : List Value, us.length = 2 → bindArgs fd ⟨us, []⟩ = pure ([("self" : Str), f].zip us)) ∧ ∀ self (us : List Value), (self :: us).length = 2 → bindArgs fd ⟨[self], [f].zip us⟩ = pure ([("self" : Str), f].zip (self :: us))) : XCls M x C f 1 :=
  ⟨g, c.T, c.no, c.rd, c.is, fI, fd, c.iC, tI, h.1, h.2.1, h.2.2⟩
end K0

namespace K0
open PySem PySem.Spec PyProof.Rows L2 DL PySem.NumText
local macro_rules | `(tactic| walk_at "vis") => `(tactic| first | exact .inl rfl | exact .inr (.inl rfl) | exact .inr (.inr rfl))
local macro_rules | `(tactic| walk_at "loc") => `(tactic| first | exact .inl rfl | exact .inr rfl)
local macro_rules | `(tactic| walk_at "dlName") => `(tactic| first
  | ((with_reducible show We _ (Expr.Name "int" _) _ _ _); refine we_tyInt (by assumption) rfl ?_)
  | ((with_reducible show We _ (Expr.Name "bool" _) _ _ _); refine we_tyBool (by assumption) rfl ?_)
  | ((with_reducible show We _ (Expr.Name "str" _) _ _ _); refine we_tyStr (by assumption) rfl ?_)
  | ((with_reducible show We _ (Expr.Name "list" _) _ _ _); refine we_tyList (by assumption) rfl ?_)
  | ((with_reducible show We _ (Expr.Name "tuple" _) _ _ _); refine we_tyTuple (by assumption) rfl ?_)
  | ((with_reducible show We _ (Expr.Name "dict" _) _ _ _); refine we_tyDict (by assumption) rfl ?_)
  | (refine we_nm rfl rfl ?v ?_; (case v => walk_at "vis"))
  | refine we_gstr (by assumption) rfl ?_ | refine we_gint (by assumption) rfl ?_)
local macro_rules | `(tactic| walk_at "dlCall") => `(tactic| first
  | ((with_reducible show We _ (Expr.Call (Expr.Name "isinstance" _) _ [] _) _ _ _); refine we_isi (by assumption) rfl ?_)
  | ((with_reducible show We _ (Expr.Call (Expr.Name "len" _) _ [] _) _ _ _); refine we_len (by assumption) rfl ?_)
  | ((with_reducible show We _ (Expr.Call (Expr.Name "all" _) _ [] _) _ _ _); refine we_all (by assumption) rfl rfl ?_)
  | ((with_reducible show We _ (Expr.Call (Expr.Name "abs" _) _ [] _) _ _ _); refine we_abs (by assumption) rfl ?_)
  | ((with_reducible show We _ (Expr.Call (Expr.Name "int" _) _ [] _) _ _ _); refine we_int_ (by assumption) rfl ?_)
  | ((with_reducible show We _ (Expr.Call (Expr.Name "str" _) _ [] _) _ _ _); refine we_str_ (by assumption) rfl ?_)
  | ((with_reducible show We _ (Expr.Call (Expr.Name "tuple" _) _ [] _) _ _ _); refine we_tuple_ (by assumption) rfl ?_)
  | ((with_reducible show We _ (Expr.Call (Expr.Name "list" _) _ [] _) _ _ _); refine we_list_ (by assumption) rfl ?_)
  | ((with_reducible show We _ (Expr.Call (Expr.Name "sum" _) _ [] _) _ _ _); refine we_sum (by assumption) rfl rfl ?_)
  | ((with_reducible show We _ (Expr.Call (Expr.Name "max" _) _ [] _) _ _ _); refine we_max (by assumption) rfl rfl ?_)
  | ((with_reducible show We _ (Expr.Call (Expr.Name "min" _) _ [] _) _ _ _); refine we_min (by assumption) rfl rfl ?_)
  | (refine' we_call ?hd ?hk ?hg ?hh ?_; (case hd => assumption); (case hk => exact Nat.le_of_ble_eq_true rfl); (case hg => rfl); (case hh => rfl)))
local macro_rules | `(tactic| walk_at "dlE") => `(tactic| first
  | ((with_reducible show We _ (Expr.Name _ _) _ _ _); walk_at "dlName")
  | ((with_reducible show We _ (Expr.Constant _ _ _) _ _ _); first | refine we_int ?_ | refine we_str ?_ | refine we_bl ?_ | refine we_non ?_)
  | ((with_reducible show We _ (Expr.Call (Expr.Name _ _) _ [] _) _ _ _); walk_at "dlCall")
  | ((with_reducible show We _ (Expr.BoolOp _ _ _) _ _ _); first | refine we_and ?_ | refine we_or ?_ | refine we_one ?_)
  | ((with_reducible show We _ (Expr.UnaryOp _ _ _) _ _ _); first | refine we_not ?_ | refine we_neg ?_)
  | ((with_reducible show We _ (Expr.Compare _ [_] _ _) _ _ _); refine we_cmp ?_)
  | ((with_reducible show We _ (Expr.Compare _ [_, _] _ _) _ _ _); refine we_chain ?_)
  | ((with_reducible show We _ (Expr.BinOp _ _ _ _) _ _ _); refine we_bin ?_)
  | ((with_reducible show We _ (Expr.IfExp _ _ _ _) _ _ _); refine we_if ?_)
  | ((with_reducible show We _ (Expr.Tuple _ _ _) _ _ _); refine we_tup ?_)
  | ((with_reducible show We _ (Expr.List _ _) _ _ _); refine we_lst ?_)
  | ((with_reducible show We _ (Expr.Subscript _ (Expr.Slice _ _ none _) _) _ _ _); refine we_slice ?_)
  | ((with_reducible show We _ (Expr.Subscript _ _ _) _ _ _); refine we_ix ?_)
  | ((with_reducible show We _ (Expr.JoinedStr _ _) _ _ _); refine we_joined ?_)
  | ((with_reducible show We _ (Expr.FormattedValue _ _ _ _) _ _ _); refine we_fmt ?_)
  | ((with_reducible show We _ (Expr.ListComp _ _ _ _) _ _ _); refine we_lc rfl (by kernel_rfl) ?_))
local macro_rules | `(tactic| walk_at "dlT") => `(tactic| first
  | ((with_reducible show WT _ (Expr.UnaryOp _ _ _) _ _ _); refine wt_not ?_)
  | ((with_reducible show WT _ (Expr.Compare _ [_] _ _) _ _ _); refine wt_cmp ?_)
  | ((with_reducible show WT _ (Expr.Compare _ [_, _] _ _) _ _ _); refine wt_chain ?_)
  | ((with_reducible show WT _ (Expr.BoolOp _ _ _) _ _ _); refine WW.wt ?_)
  | refine wt_val ?_)
local macro_rules | `(tactic| walk_at "dlS") => `(tactic| first
  | ((with_reducible show WS _ (Stmt.Return _ _) _ _ _); first | refine ws_ret ?_ | refine ws_retN ?_)
  | ((with_reducible show WS _ (Stmt.If _ _ _ _) _ _ _); refine ws_if ?_)
  | ((with_reducible show WS _ (Stmt.Assign [Expr.Name _ _] _ _) _ _ _); (refine ws_nm rfl ?v ?_; (case v => walk_at "loc")))
  | ((with_reducible show WS _ (Stmt.Assign [Expr.Tuple [Expr.Name _ _, Expr.Name _ _] _ _] (Expr.Tuple [_, _] _ _) _) _ _ _); (refine ws_pr rfl rfl rfl (by kernel_rfl) rfl rfl ?_ ?hw; (case hw => (intro env he; obtain ⟨⟩ := env; cases he; kernel_rfl))))
  | ((with_reducible show WS _ (Stmt.Assign [Expr.Tuple _ _ _] _ _) _ _ _); refine ws_asg ?_)
  | ((with_reducible show WS _ (Stmt.Expr _ _) _ _ _); refine ws_expr ?_)
  | ((with_reducible show WS _ (Stmt.Pass _) _ _ _); refine ws_pass ?_))
local macro_rules | `(tactic| walk_at "dlQ") => `(tactic| first
  | ((with_reducible show BinQ _ _ _ _ _); first | refine q_addi ?_ | refine q_subi ?_ | refine q_subb ?_)
  | ((with_reducible show CmpQ _ _ _ _ _); first | refine q_lti ?_ | refine q_lei ?_ | refine q_gti ?_ | refine q_gei ?_ | refine q_eqi ?_ | refine q_nei ?_ | refine q_eqs ?_ | refine q_nes ?_ | refine q_insg ?_ | refine q_nisg ?_)
  | ((with_reducible show IsiQ _ _ _); refine q_isi (by first | assumption | rfl) ?_)
  | ((with_reducible show LenQ _ _ _); first | refine q_lent ?_ | refine q_lenl ?_ | refine q_lens (by assumption) ?_ | refine q_lenr ?_)
  | ((with_reducible show TruQ _ _ _); refine q_trub ?_)
  | ((with_reducible show LcF _ _ _); refine q_lcf ?_)
  | ((with_reducible show TupQ _ _ _); first | refine q_tupl ?_ | refine q_tupt ?_)
  | ((with_reducible show LstQ _ _ _); first | refine q_lstl ?_ | refine q_lstt ?_)
  | ((with_reducible show AbsQ _ _ _); refine q_abs ?_)
  | ((with_reducible show IxQ _ _ _ _); first | refine q_ixt rfl ?_ | refine q_ixl rfl ?_)
  | ((with_reducible show SlQ _ _ _ _ _); first | refine q_slt ?_ | refine q_sll ?_ | refine q_sls (by assumption) ?_ | refine q_slr ?_)
  | ((with_reducible show IntQ _ _ _); first | refine q_inti ?_ | refine q_intb ?_)
  | ((with_reducible show if _ = true then _ else _); first | refine ift rfl ?_ | refine iff_ rfl ?_)
  | ((with_reducible show ∃ k, D.bl _ = D.bl k ∧ _); refine ⟨_, rfl, ?_⟩)
  | ((with_reducible show BlQ _ _ _); refine ⟨_, rfl, ?_⟩)
  | ((with_reducible show ∃ i, D.int _ = D.int i ∧ _); refine ⟨_, rfl, ?_⟩)
  | ((with_reducible show ∃ i, D.str _ = D.str i ∧ _); refine ⟨_, rfl, ?_⟩)
  | ((with_reducible show _ ≤ sizeLine ∧ _); refine ⟨by first | exact Nat.zero_le _ | exact Nat.le_of_ble_eq_true rfl | assumption, ?_⟩))
local macro_rules | `(tactic| walk_at "dl") => `(tactic| first
  | ((with_reducible show We _ _ _ _ _); walk_at "dlE")
  | ((with_reducible show WA _ _ _ _ _); first | refine wa_cons ?_ | refine wa_nil ?_)
  | ((with_reducible show WT _ _ _ _ _); walk_at "dlT")
  | ((with_reducible show WW _ _ _ _ _); first | refine ww_and ?_ | refine ww_or ?_ | refine ww_and1 ?_ | refine ww_or1 ?_)
  | ((with_reducible show WS _ _ _ _ _); walk_at "dlS")
  | ((with_reducible show WSs _ _ _ _ _); first | refine wss_cons ?_ | refine wss_nil ?_)
  | ((with_reducible show ChQ _ _ _ _ _ _ _ _ _); (show We _ _ _ _ _))
  | ((with_reducible show PiD _ _ (Expr.Call (Expr.Name "range" _) [_] _ _) _ _ _); refine pi_rg (by assumption) rfl ?_)
  | ((with_reducible show PiD _ _ (Expr.Call (Expr.Name "range" _) [_, _] _ _) _ _ _); refine pi_rg2 (by assumption) rfl ?_)
  | ((with_reducible show WGo _ _ (Expr.Name _ _) _ _ _ _); refine wgo_nb rfl (by walk_at "loc") (by kernel_rfl) ?_)
  | ((with_reducible show WG _ (Expr.Tuple _ _ _) _ _ _ _); refine wg_tup rfl rfl ?_)
  | ((with_reducible show WGs _ _ _ _ _ _); first | refine wgs_cons ?_ | refine wgs_nil ?_)
  | ((with_reducible show WGo _ _ (Expr.Tuple _ _ _) _ _ _ _); refine wgo_tup rfl rfl ?_)
  | ((with_reducible show WGso _ _ _ _ _ _ _); first | refine wgso_cons ?_ | refine wgso_nil ?_)
  | ((with_reducible show WG _ (Expr.Name _ _) _ _ _ _); refine wg_nm rfl (by walk_at "loc") ?_)
  | ((with_reducible show WO _ _ _ _ _); first | refine wo_none ?_ | refine wo_some ?_)
  | ((with_reducible show WI _ _ _ _ _); first | refine wi_nil ?_ | refine wi_one ?_)
  | ((with_reducible show WJ _ _ _ _ _ _); first | refine wj_cons ?_ | refine wj_nil ?_)
  | walk_at "dlQ")
section
open PySem PySem.Spec PyProof.Rows L2 DL PySem.NumText
/-! ### the law's box -/
def spCell : SpD := fun ds O Q _ => ∃ (ns : List Int) (k : Nat), ds = [.rls (ns.map .int), .int (k : Int)] ∧ k ≤ 1000 ∧ ∀ r : Int, Q (.int r) O
theorem cut_ints {ns : List Int} {lo hi : Option Int} : ∃ ms : List Int, DL.cutD (ns.map D.int) lo hi = ms.map D.int := by
  unfold DL.cutD
  rw [← List.map_drop, ← List.map_take]
  exact ⟨_, rfl⟩
theorem small_mul {a b : Int} {k : Nat} (ha : a.natAbs < 2 ^ 64) (hb : b.natAbs < 2 ^ 64) : CMulW a b := wide_mul (a := 64) (b := 64) ha hb (by decide) (by decide) (by decide)
theorem ok_cell {M : Mo} {f : Addr} {fd : FuncData} (B : Blt M) (hm : M.mg "_law_cell" = some (.ref f)) (Fn : Fun M.K "_law_cell" "_law_cell" (topS 59) f fd) : DefD M "_law_cell" (topS 59) ["script", "k"] 1 spCell := by
  refine def_ok (N := ["script", "k"]) hm Fn ⟨rfl, rfl, rfl, by decide +kernel, rfl, by decide +kernel, by decide +kernel⟩ (fun _ _ _ _ _ _ us hl => match us, hl with | [_, _], _ => rfl) (fun ds O Q E ⟨t, b, e, _⟩ => by rw [e]; rfl) fun F ds O Qd Ed ⟨ns, k, e, hk, q⟩ => ?_
  subst e
  repeat walk_at "dl"
  refine if2 (fun h => ?_) (fun h => ?_)
  · have h : (k : Int) < ((ns.map D.int).length : Int) := of_decide_eq_true h
    rw [List.length_map] at h
    repeat walk_at "dl"
    refine q_ixr (at_getI (ns := ns) (i := k) rfl (by omega)) ?_
    repeat walk_at "dl"
    exact q _
  · repeat walk_at "dl"
    refine q_muli (wide_mul (a := 64) (b := 64) (by decide) (by omega) (by decide) (by decide) (by decide)) ?_
    repeat walk_at "dl"
    obtain ⟨ms, hms⟩ := cut_ints (ns := ns) (lo := none) (hi := some 1)
    refine ⟨ms, by rw [hms], ?_⟩
    repeat walk_at "dl"
    refine q_modi (by decide) ?_
    repeat walk_at "dl"
    exact q _
def BoxL (L : List D) (n : Nat) : Prop := ∃ (g : Int) (b : Bool) (c e : Int), L = [.int g, .bl b, .int c, .int e] ∧ 0 ≤ g ∧ 0 ≤ c ∧ c < 2147483629 ∧ 0 ≤ e ∧ e ≤ (n : Int)
/-- the box stands at a -/
def Bx (a : Addr) (n : Nat) (O : Opens) : Prop := ∃ L, O a = some (.lst L) ∧ BoxL L n
theorem Bx.le {a : Addr} {n m : Nat} {O : Opens} (h : Bx a n O) (k : n ≤ m) : Bx a m O := by
  obtain ⟨L, h1, g, b, c, e, h2, h3, h4, h5, h6, h7⟩ := h
  exact ⟨L, h1, g, b, c, e, h2, h3, h4, h5, h6, by omega⟩
/-- all but a is as it was -/
def But (a : Addr) (O O' : Opens) : Prop := ∀ b, b ≠ a → O' b = O b
theorem But.refl {a : Addr} {O : Opens} : But a O O := fun _ _ => rfl
theorem But.trans {a : Addr} {O O1 O2 : Opens} (h : But a O O1) (k : But a O1 O2) : But a O O2 := fun b hb => (k b hb).trans (h b hb)
theorem But.up {a : Addr} {O : Opens} {u : OO} : But a O (O.up a u) := fun _ hb => Opens.up_ne hb
def spBox : SpD := fun ds O Q _ => ∃ r : Int, ds = [.int r] ∧ ∀ p O', O p = none → Bx p 0 O' → But p O O' → Q (.raw (.ref p)) O'
theorem ok_box {M : Mo} {f : Addr} {fd : FuncData} (B : Blt M) (hm : M.mg "_law_box" = some (.ref f)) (Fn : Fun M.K "_law_box" "_law_box" (topS 60) f fd) : DefD M "_law_box" (topS 60) ["great"] 1 spBox := by
  refine def_ok (N := ["great"]) hm Fn ⟨rfl, rfl, rfl, by decide +kernel, rfl, by decide +kernel, by decide +kernel⟩ (fun _ _ _ _ _ _ us hl => match us, hl with | [_], _ => rfl) (fun ds O Q E ⟨t, e, _⟩ => by rw [e]; rfl) fun F ds O Qd Ed ⟨r, e, q⟩ => ?_
  subst e
  have ab : (0 : Int) ≤ if r < 0 then -r else r := by split <;> omega
  walk_at "dl"; walk_at "dl"
  refine we_lstO ?_
  repeat walk_at "dl"
  refine q_powi ⟨by decide, by decide, by decide⟩ ?_
  repeat walk_at "dl"
  refine q_modi (by decide) ?_
  repeat walk_at "dl"
  refine fun p hp => q p _ hp ⟨_, Opens.up_same, _, _, _, _, rfl, ab, Int.emod_nonneg _ (by decide), Int.emod_lt_of_pos _ (by decide), by decide, by decide⟩ But.up
def spTake : SpD := fun ds O Q _ => ∃ (a : Addr) (many : Int) (n : Nat), ds = [.raw (.ref a), .int many] ∧ Bx a n O ∧ n ≤ 1000000 ∧ 1 ≤ many ∧ many < 2 ^ 64 ∧ ∀ r O', 0 ≤ r → r < many → Bx a (n + 1) O' → But a O O' → Q (.int r) O'
theorem ok_take {M : Mo} {f : Addr} {fd : FuncData} (B : Blt M) (hm : M.mg "_law_take" = some (.ref f)) (Fn : Fun M.K "_law_take" "_law_take" (topS 61) f fd) : DefD M "_law_take" (topS 61) ["box", "many"] 1 spTake := by
  refine def_ok (N := ["box", "many", "digit"]) hm Fn ⟨rfl, rfl, rfl, by decide +kernel, rfl, by decide +kernel, by decide +kernel⟩ (fun _ _ _ _ _ _ us hl => match us, hl with | [_, _], _ => rfl) (fun ds O Q E ⟨t, b, n, e, _⟩ => by rw [e]; rfl) fun F ds O Qd Ed ⟨a, many, n, e, ⟨L, ho, g, b, c, k, hL, g0, c0, c1, k0, k1⟩, hn, m1, m2, q⟩ => ?_
  subst e hL
  repeat walk_at "dl"
  refine q_ixo ho rfl ?_
  have slow : WSs (bodyG M ["box", "many", "digit"] (defScope (topS 61)) 0 F Ed) ((defBody (topS 61)).drop 1) (startD ["box", "many", "digit"] [.raw (.ref a), .int many]) O { nx := fun _ O' => Qd .non O', rt := Qd } := by
    repeat walk_at "dl"
    refine ws_asg ?_
    repeat walk_at "dl"
    refine q_ixo ho rfl ?_
    repeat walk_at "dl"
    refine wg_sub ?_
    repeat walk_at "dl"
    refine ⟨a, _, 3, 3, rfl, rfl, ho, rfl, ?_⟩
    repeat walk_at "dl"
    refine ws_asg ?_
    repeat walk_at "dl"
    refine q_ixo Opens.up_same rfl ?_
    repeat walk_at "dl"
    refine q_muli (wide_mul (a := 64) (b := 64) (by omega) (by decide) (by decide) (by decide) (by decide)) ?_
    repeat walk_at "dl"
    refine q_ixo Opens.up_same rfl ?_
    repeat walk_at "dl"
    refine q_muli (wide_mul (a := 64) (b := 64) (by decide) (by omega) (by decide) (by decide) (by decide)) ?_
    repeat walk_at "dl"
    refine q_modi (by decide) ?_
    repeat walk_at "dl"
    refine wg_sub ?_
    repeat walk_at "dl"
    refine ⟨a, _, 2, 2, rfl, rfl, Opens.up_same, rfl, ?_⟩
    rw [Opens.up_up]
    repeat walk_at "dl"
    refine q_ixo Opens.up_same rfl ?_
    repeat walk_at "dl"
    refine q_divi (wide_div (b := 64) (by decide) (by decide) (by decide) (by decide)) ?_
    repeat walk_at "dl"
    refine q_modi (by omega) ?_
    refine q _ _ (Int.emod_nonneg _ (by omega)) (Int.emod_lt_of_pos _ (by omega)) ⟨_, Opens.up_same, _, _, _, _, rfl, g0, Int.emod_nonneg _ (by decide), Int.emod_lt_of_pos _ (by decide), by omega, by omega⟩ But.up
  repeat walk_at "dl"
  refine if2 (fun hb => ?_) (fun hb => ?_)
  · repeat walk_at "dl"
    refine q_ixo ho rfl ?_
    repeat walk_at "dl"
    refine if2 (fun hg => ?_) (fun hg => ?_)
    · repeat walk_at "dl"
      refine q_ixo ho rfl ?_
      repeat walk_at "dl"
      refine q_modi (by omega) ?_
      repeat walk_at "dl"
      refine ws_asg ?_
      repeat walk_at "dl"
      refine q_ixo ho rfl ?_
      repeat walk_at "dl"
      refine q_divi (wide_div (b := 64) (by omega) (by omega) (by decide) (by decide)) ?_
      repeat walk_at "dl"
      refine wg_sub ?_
      repeat walk_at "dl"
      refine ⟨a, _, 0, 0, rfl, rfl, ho, rfl, ?_⟩
      repeat walk_at "dl"
      exact q _ _ (Int.emod_nonneg _ (by omega)) (Int.emod_lt_of_pos _ (by omega)) ⟨_, Opens.up_same, _, _, _, _, rfl, Int.ediv_nonneg g0 (by omega), c0, c1, k0, by omega⟩ But.up
    · repeat first | exact slow | walk_at "dl"
  · repeat first | exact slow | walk_at "dl"
/-! ### sameness -/
inductive Plain : Nat → D → Prop
  | non {n} : Plain n .non
  | bl {n b} : Plain n (.bl b)
  | int {n i} : Plain n (.int i)
  | str {n z} (h : z.length ≤ 100000) : Plain n (.str z)
  | tup {n xs} (hl : xs.length ≤ 100000) (h : ∀ x ∈ xs, Plain n x) : Plain (n + 1) (.tup xs)
  | lst {n xs} (hl : xs.length ≤ 100000) (h : ∀ x ∈ xs, Plain n x) : Plain (n + 1) (.lst xs)
def spSame (n : Nat) : SpD := fun ds O Q _ => ∃ d, ds = [d, d] ∧ Plain n d ∧ Q (.bl true) O
theorem cut_one {z : Str} {k c : Nat} (h : z.cps[k]? = some c) : cutS z (some (k : Int)) (some ((k : Int) + 1)) = ⟨#[c]⟩ := by
  have hk : k < z.cps.size := (Array.getElem?_eq_some_iff.mp h).1
  have hk' : k < z.length := hk
  have e1 : HT.sIx z.length 0 (some (k : Int)) = k := by
    rw [HT.sIx_nat]; omega
  have e2 : HT.sIx z.length z.length (some ((k : Int) + 1)) = k + 1 := by
    have e : ((k : Int) + 1) = ((k + 1 : Nat) : Int) := by omega
    rw [e, HT.sIx_nat]; omega
  unfold cutS
  rw [e1, e2, Nat.add_sub_cancel_left]
  have e3 : (z.cps.toList.drop k).take 1 = [c] := by
    have hc : z.cps.toList[k]? = some c := by rw [Array.getElem?_toList]; exact h
    rw [List.take_one, List.head?_drop, hc]; rfl
  rw [e3]
theorem lay_nil {n : Nat} : Lay (n + 1) (.lst []) := lay_lst (fun d hd => nomatch hd)
theorem fil_none {α : Type} (xs : List α) (f : α → D) : ((xs.filter fun _ => false).map f) = [] := by
  induction xs with
  | nil => rfl
  | cons a r ih => rw [List.filter_cons, if_neg (by decide)]; exact ih
theorem same_step {M : Mo} {f : Addr} {fd : FuncData} (B : Blt M) (hm : M.mg "_law_same" = some (.ref f)) (Fn : Fun M.K "_law_same" "_law_same" (topS 62) f fd) (n : Nat) (ih : ∀ m, n = m + 1 → DefD M "_law_same" (topS 62) ["told", "due"] n (spSame m)) : DefD M "_law_same" (topS 62) ["told", "due"] (n + 1) (spSame n) := by
  refine def_ok (N := ["told", "due", "k", "key"]) hm Fn ⟨rfl, rfl, rfl, by decide +kernel, rfl, by decide +kernel, by decide +kernel⟩ (fun _ _ _ _ _ _ us hl => match us, hl with | [_, _], _ => rfl) (fun ds O Q E ⟨t, e, _⟩ => by rw [e]; rfl) fun F ds O Qd Ed ⟨d, e, hp, q⟩ => ?_
  subst e
  cases hp with
  | non =>
    repeat walk_at "dl"
    refine q_isn (fun v hv => nomatch hv) ?_
    repeat walk_at "dl"
    refine q_isn (fun v hv => nomatch hv) ?_
    exact q
  | @bl _ b =>
    repeat walk_at "dl"
    refine q_isn (fun v hv => nomatch hv) ?_
    repeat walk_at "dl"
    refine q_isb ?_
    repeat walk_at "dl"
    refine q_isb ?_
    refine q_eqd lay_bl lay_bl ?_
    rw [eqD_bl, beq_self_eq_true]
    exact q
  | @int _ i =>
    repeat walk_at "dl"
    refine q_isn (fun v hv => nomatch hv) ?_
    repeat walk_at "dl"
    show Qd (.bl ((i - i) == 0)) O
    rw [Int.sub_self]
    exact q
  | @str _ z h =>
    have h' := Nat.le_trans h (show 100000 ≤ sizeLine by decide)
    repeat walk_at "dl"
    refine q_isn (fun v hv => nomatch hv) ?_
    repeat walk_at "dl"
    refine ift (beq_self_eq_true _) ?_
    repeat walk_at "dl"
    refine ⟨by omega, by omega, ?_⟩
    refine lc_filA (List.range z.length) (fun i : Nat => D.int (i : Int)) (fun _ => false) (fun i => .int (i : Int)) (by rw [List.length_range]; exact h') (fun F0 i hi => ?_) ?_
    · have hi := List.mem_range.mp hi
      have hx : z.cps[i]? = some (z.cps[i]'hi) := Array.getElem?_eq_getElem hi
      repeat walk_at "dl"
      refine q_ixs h' (at_nat rfl (by rw [Array.getElem?_toList]; exact hx)) ?_
      repeat walk_at "dl"
      refine ⟨?_, rfl, fun z => nomatch z⟩
      rw [cut_one hx, beq_self_eq_true]; rfl
    · rw [fil_none]
      repeat walk_at "dl"
      refine q_eqd (lay_nil (n := 63)) (lay_nil (n := 63)) ?_
      exact q
  | @tup m xs hl h =>
    have hl' : xs.length ≤ 16777216 := Nat.le_trans hl (by decide)
    have rec_ := ih m rfl
    repeat walk_at "dl"
    refine q_isn (fun v hv => nomatch hv) ?_
    repeat walk_at "dl"
    refine q_isit (bs := [.list, .tuple]) rfl ?_
    repeat walk_at "dl"
    refine q_isit (bs := [.list, .tuple]) rfl ?_
    repeat walk_at "dl"
    refine q_ned lay_bl lay_bl ?_
    repeat walk_at "dl"
    refine iff_ (by rw [beq_self_eq_true]; rfl) ?_
    repeat walk_at "dl"
    refine ⟨by omega, by omega, ?_⟩
    refine lc_filA (List.range xs.length) (fun i : Nat => D.int (i : Int)) (fun _ => false) (fun i => .int (i : Int)) (by rw [List.length_range]; exact hl') (fun F0 i hi => ?_) ?_
    · have hi := List.mem_range.mp hi
      have hx : xs[i]? = some xs[i] := List.getElem?_eq_getElem hi
      repeat walk_at "dl"
      refine we_call rec_ (Nat.le_refl _) rfl rfl ?_
      repeat walk_at "dl"
      refine q_ixt (at_nat rfl hx) ?_
      repeat walk_at "dl"
      refine q_ixt (at_nat rfl hx) ?_
      repeat walk_at "dl"
      refine ⟨_, rfl, h _ (List.getElem_mem hi), rfl, rfl, fun z => nomatch z⟩
    · rw [fil_none]
      repeat walk_at "dl"
      refine q_eqd (lay_nil (n := 63)) (lay_nil (n := 63)) ?_
      exact q
  | @lst m xs hl h =>
    have hl' : xs.length ≤ 16777216 := Nat.le_trans hl (by decide)
    have rec_ := ih m rfl
    repeat walk_at "dl"
    refine q_isn (fun v hv => nomatch hv) ?_
    repeat walk_at "dl"
    refine q_isit (bs := [.list, .tuple]) rfl ?_
    repeat walk_at "dl"
    refine q_isit (bs := [.list, .tuple]) rfl ?_
    repeat walk_at "dl"
    refine q_ned lay_bl lay_bl ?_
    repeat walk_at "dl"
    refine iff_ (by rw [beq_self_eq_true]; rfl) ?_
    repeat walk_at "dl"
    refine ⟨by omega, by omega, ?_⟩
    refine lc_filA (List.range xs.length) (fun i : Nat => D.int (i : Int)) (fun _ => false) (fun i => .int (i : Int)) (by rw [List.length_range]; exact hl') (fun F0 i hi => ?_) ?_
    · have hi := List.mem_range.mp hi
      have hx : xs[i]? = some xs[i] := List.getElem?_eq_getElem hi
      repeat walk_at "dl"
      refine we_call rec_ (Nat.le_refl _) rfl rfl ?_
      repeat walk_at "dl"
      refine q_ixl (at_nat rfl hx) ?_
      repeat walk_at "dl"
      refine q_ixl (at_nat rfl hx) ?_
      repeat walk_at "dl"
      refine ⟨_, rfl, h _ (List.getElem_mem hi), rfl, rfl, fun z => nomatch z⟩
    · rw [fil_none]
      repeat walk_at "dl"
      refine q_eqd (lay_nil (n := 63)) (lay_nil (n := 63)) ?_
      exact q
theorem ok_same {M : Mo} {f : Addr} {fd : FuncData} (B : Blt M) (hm : M.mg "_law_same" = some (.ref f)) (Fn : Fun M.K "_law_same" "_law_same" (topS 62) f fd) : ∀ n, DefD M "_law_same" (topS 62) ["told", "due"] (n + 1) (spSame n)
  | 0 => same_step B hm Fn 0 fun m h => nomatch h
  | n + 1 => same_step B hm Fn (n + 1) fun m h => by cases h; exact ok_same B hm Fn n
end
end K0

namespace K0
open PySem PySem.Spec PyProof.Rows L2 DL PySem.NumText
local macro_rules | `(tactic| walk_at "vis") => `(tactic| first | exact .inl rfl | exact .inr (.inl rfl) | exact .inr (.inr rfl))
local macro_rules | `(tactic| walk_at "loc") => `(tactic| first | exact .inl rfl | exact .inr rfl)
local macro_rules | `(tactic| walk_at "dlName") => `(tactic| first
  | ((with_reducible show We _ (Expr.Name "int" _) _ _ _); refine we_tyInt (by assumption) rfl ?_)
  | ((with_reducible show We _ (Expr.Name "bool" _) _ _ _); refine we_tyBool (by assumption) rfl ?_)
  | ((with_reducible show We _ (Expr.Name "str" _) _ _ _); refine we_tyStr (by assumption) rfl ?_)
  | ((with_reducible show We _ (Expr.Name "list" _) _ _ _); refine we_tyList (by assumption) rfl ?_)
  | ((with_reducible show We _ (Expr.Name "tuple" _) _ _ _); refine we_tyTuple (by assumption) rfl ?_)
  | ((with_reducible show We _ (Expr.Name "dict" _) _ _ _); refine we_tyDict (by assumption) rfl ?_)
  | (refine we_nm rfl rfl ?v ?_; (case v => walk_at "vis"))
  | refine we_gstr (by assumption) rfl ?_ | refine we_gint (by assumption) rfl ?_)
local macro_rules | `(tactic| walk_at "dlCall") => `(tactic| first
  | ((with_reducible show We _ (Expr.Call (Expr.Name "len" _) _ [] _) _ _ _); refine we_len (by assumption) rfl ?_)
  | ((with_reducible show We _ (Expr.Call (Expr.Name "all" _) _ [] _) _ _ _); refine we_all (by assumption) rfl rfl ?_)
  | ((with_reducible show We _ (Expr.Call (Expr.Name "abs" _) _ [] _) _ _ _); refine we_abs (by assumption) rfl ?_)
  | ((with_reducible show We _ (Expr.Call (Expr.Name "int" _) _ [] _) _ _ _); refine we_int_ (by assumption) rfl ?_)
  | ((with_reducible show We _ (Expr.Call (Expr.Name "str" _) _ [] _) _ _ _); refine we_str_ (by assumption) rfl ?_)
  | ((with_reducible show We _ (Expr.Call (Expr.Name "tuple" _) _ [] _) _ _ _); refine we_tuple_ (by assumption) rfl ?_)
  | ((with_reducible show We _ (Expr.Call (Expr.Name "list" _) _ [] _) _ _ _); refine we_list_ (by assumption) rfl ?_)
  | ((with_reducible show We _ (Expr.Call (Expr.Name "sum" _) _ [] _) _ _ _); refine we_sum (by assumption) rfl rfl ?_)
  | ((with_reducible show We _ (Expr.Call (Expr.Name "max" _) _ [] _) _ _ _); refine we_max (by assumption) rfl rfl ?_)
  | ((with_reducible show We _ (Expr.Call (Expr.Name "min" _) _ [] _) _ _ _); refine we_min (by assumption) rfl rfl ?_)
  | (refine' we_call ?hd ?hk ?hg ?hh ?_; (case hd => assumption); (case hk => exact Nat.le_of_ble_eq_true rfl); (case hg => rfl); (case hh => rfl)))
local macro_rules | `(tactic| walk_at "dlE") => `(tactic| first
  | ((with_reducible show We _ (Expr.Name _ _) _ _ _); walk_at "dlName")
  | ((with_reducible show We _ (Expr.Constant _ _ _) _ _ _); first | refine we_int ?_ | refine we_str ?_ | refine we_bl ?_ | refine we_non ?_)
  | ((with_reducible show We _ (Expr.Call (Expr.Name _ _) _ [] _) _ _ _); walk_at "dlCall")
  | ((with_reducible show We _ (Expr.BoolOp _ _ _) _ _ _); first | refine we_and ?_ | refine we_or ?_ | refine we_one ?_)
  | ((with_reducible show We _ (Expr.UnaryOp _ _ _) _ _ _); first | refine we_not ?_ | refine we_neg ?_)
  | ((with_reducible show We _ (Expr.Compare _ [_] _ _) _ _ _); refine we_cmp ?_)
  | ((with_reducible show We _ (Expr.Compare _ [_, _] _ _) _ _ _); refine we_chain ?_)
  | ((with_reducible show We _ (Expr.BinOp _ _ _ _) _ _ _); refine we_bin ?_)
  | ((with_reducible show We _ (Expr.IfExp _ _ _ _) _ _ _); refine we_if ?_)
  | ((with_reducible show We _ (Expr.Tuple _ _ _) _ _ _); refine we_tup ?_)
  | ((with_reducible show We _ (Expr.List _ _) _ _ _); refine we_lst ?_)
  | ((with_reducible show We _ (Expr.Subscript _ (Expr.Slice _ _ none _) _) _ _ _); refine we_slice ?_)
  | ((with_reducible show We _ (Expr.Subscript _ _ _) _ _ _); refine we_ix ?_)
  | ((with_reducible show We _ (Expr.JoinedStr _ _) _ _ _); refine we_joined ?_)
  | ((with_reducible show We _ (Expr.FormattedValue _ _ _ _) _ _ _); refine we_fmt ?_)
  | ((with_reducible show We _ (Expr.ListComp _ _ _ _) _ _ _); refine we_lc rfl (by kernel_rfl) ?_))
local macro_rules | `(tactic| walk_at "dlT") => `(tactic| first
  | ((with_reducible show WT _ (Expr.UnaryOp _ _ _) _ _ _); refine wt_not ?_)
  | ((with_reducible show WT _ (Expr.Compare _ [_] _ _) _ _ _); refine wt_cmp ?_)
  | ((with_reducible show WT _ (Expr.Compare _ [_, _] _ _) _ _ _); refine wt_chain ?_)
  | ((with_reducible show WT _ (Expr.BoolOp _ _ _) _ _ _); refine WW.wt ?_)
  | refine wt_val ?_)
local macro_rules | `(tactic| walk_at "dlS") => `(tactic| first
  | ((with_reducible show WS _ (Stmt.Return _ _) _ _ _); first | refine ws_ret ?_ | refine ws_retN ?_)
  | ((with_reducible show WS _ (Stmt.If _ _ _ _) _ _ _); refine ws_if ?_)
  | ((with_reducible show WS _ (Stmt.Assign [Expr.Name _ _] _ _) _ _ _); (refine ws_nm rfl ?v ?_; (case v => walk_at "loc")))
  | ((with_reducible show WS _ (Stmt.Assign [Expr.Tuple [Expr.Name _ _, Expr.Name _ _] _ _] (Expr.Tuple [_, _] _ _) _) _ _ _); (refine ws_pr rfl rfl rfl (by kernel_rfl) rfl rfl ?_ ?hw; (case hw => (intro env he; obtain ⟨⟩ := env; cases he; kernel_rfl))))
  | ((with_reducible show WS _ (Stmt.Assign [Expr.Tuple _ _ _] _ _) _ _ _); refine ws_asg ?_)
  | ((with_reducible show WS _ (Stmt.Expr _ _) _ _ _); refine ws_expr ?_)
  | ((with_reducible show WS _ (Stmt.Pass _) _ _ _); refine ws_pass ?_))
local macro_rules | `(tactic| walk_at "dlQ") => `(tactic| first
  | ((with_reducible show BinQ _ _ _ _ _); first | refine q_addi ?_ | refine q_subi ?_ | refine q_subb ?_)
  | ((with_reducible show CmpQ _ _ _ _ _); first | refine q_lti ?_ | refine q_lei ?_ | refine q_gti ?_ | refine q_gei ?_ | refine q_eqi ?_ | refine q_nei ?_ | refine q_eqs ?_ | refine q_nes ?_ | refine q_insg ?_ | refine q_nisg ?_)
  | ((with_reducible show IsiQ _ _ _); refine q_isi (by first | assumption | rfl) ?_)
  | ((with_reducible show LenQ _ _ _); first | refine q_lent ?_ | refine q_lenl ?_ | refine q_lens (by assumption) ?_ | refine q_lenr ?_)
  | ((with_reducible show TruQ _ _ _); refine q_trub ?_)
  | ((with_reducible show LcF _ _ _); refine q_lcf ?_)
  | ((with_reducible show TupQ _ _ _); first | refine q_tupl ?_ | refine q_tupt ?_)
  | ((with_reducible show LstQ _ _ _); first | refine q_lstl ?_ | refine q_lstt ?_)
  | ((with_reducible show AbsQ _ _ _); refine q_abs ?_)
  | ((with_reducible show IxQ _ _ _ _); first | refine q_ixt rfl ?_ | refine q_ixl rfl ?_)
  | ((with_reducible show SlQ _ _ _ _ _); first | refine q_slt ?_ | refine q_sll ?_ | refine q_sls (by assumption) ?_ | refine q_slr ?_)
  | ((with_reducible show IntQ _ _ _); first | refine q_inti ?_ | refine q_intb ?_)
  | ((with_reducible show if _ = true then _ else _); first | refine ift rfl ?_ | refine iff_ rfl ?_)
  | ((with_reducible show ∃ k, D.bl _ = D.bl k ∧ _); refine ⟨_, rfl, ?_⟩)
  | ((with_reducible show BlQ _ _ _); refine ⟨_, rfl, ?_⟩)
  | ((with_reducible show ∃ i, D.int _ = D.int i ∧ _); refine ⟨_, rfl, ?_⟩)
  | ((with_reducible show ∃ i, D.str _ = D.str i ∧ _); refine ⟨_, rfl, ?_⟩)
  | ((with_reducible show _ ≤ sizeLine ∧ _); refine ⟨by first | exact Nat.zero_le _ | exact Nat.le_of_ble_eq_true rfl | assumption, ?_⟩))
local macro_rules | `(tactic| walk_at "dl") => `(tactic| first
  | ((with_reducible show We _ _ _ _ _); walk_at "dlE")
  | ((with_reducible show WA _ _ _ _ _); first | refine wa_cons ?_ | refine wa_nil ?_)
  | ((with_reducible show WT _ _ _ _ _); walk_at "dlT")
  | ((with_reducible show WW _ _ _ _ _); first | refine ww_and ?_ | refine ww_or ?_ | refine ww_and1 ?_ | refine ww_or1 ?_)
  | ((with_reducible show WS _ _ _ _ _); walk_at "dlS")
  | ((with_reducible show WSs _ _ _ _ _); first | refine wss_cons ?_ | refine wss_nil ?_)
  | ((with_reducible show ChQ _ _ _ _ _ _ _ _ _); (show We _ _ _ _ _))
  | ((with_reducible show PiD _ _ (Expr.Call (Expr.Name "range" _) [_] _ _) _ _ _); refine pi_rg (by assumption) rfl ?_)
  | ((with_reducible show PiD _ _ (Expr.Call (Expr.Name "range" _) [_, _] _ _) _ _ _); refine pi_rg2 (by assumption) rfl ?_)
  | ((with_reducible show WGo _ _ (Expr.Name _ _) _ _ _ _); refine wgo_nb rfl (by walk_at "loc") (by kernel_rfl) ?_)
  | ((with_reducible show WG _ (Expr.Tuple _ _ _) _ _ _ _); refine wg_tup rfl rfl ?_)
  | ((with_reducible show WGs _ _ _ _ _ _); first | refine wgs_cons ?_ | refine wgs_nil ?_)
  | ((with_reducible show WGo _ _ (Expr.Tuple _ _ _) _ _ _ _); refine wgo_tup rfl rfl ?_)
  | ((with_reducible show WGso _ _ _ _ _ _ _); first | refine wgso_cons ?_ | refine wgso_nil ?_)
  | ((with_reducible show WG _ (Expr.Name _ _) _ _ _ _); refine wg_nm rfl (by walk_at "loc") ?_)
  | ((with_reducible show WO _ _ _ _ _); first | refine wo_none ?_ | refine wo_some ?_)
  | ((with_reducible show WI _ _ _ _ _); first | refine wi_nil ?_ | refine wi_one ?_)
  | ((with_reducible show WJ _ _ _ _ _ _); first | refine wj_cons ?_ | refine wj_nil ?_)
  | walk_at "dlQ")
/-! ### the errors made, their kinds -/
def exg (C : Addr) (d : D) : D := .exc C ["given"] [d]
def spFirst (er : ErrA) : SpD := fun ds O Q _ => ∃ d0 d1 d2 d3 d4 d5 d6 d7 d8 d9 d10 d11 d12 d13 d14 d15 d16 d17 d18 d19 d20 d21, ds = [.lst [d0, d1, d2, d3, d4, d5, d6, d7, d8, d9, d10, d11, d12, d13, d14, d15, d16, d17, d18, d19, d20, d21]] ∧ Q (.lst [exg er.num d0, exg er.frac d1, exg er.text d2, exg er.name d3, exg er.event d4, exg er.events d5, exg er.outcome d6, exg er.sets d7, exg er.twins d8, exg er.lot d9, exg er.index d10, exg er.room d11, exg er.tally d12, exg er.log d13, exg er.total d14, exg er.counts d15, exg er.members d16, exg er.rows d17, exg er.costs d18, exg er.colors d19]) O
theorem ok_first {M : Mo} {er : ErrA} {f : Addr} {fd : FuncData} (Er : Errs M er) (hm : M.mg "_law_first" = some (.ref f)) (Fn : Fun M.K "_law_first" "_law_first" (topS 65) f fd) : DefD M "_law_first" (topS 65) ["v"] 3 (spFirst er) := by
  refine def_ok (N := ["v", "found"]) hm Fn ⟨rfl, rfl, rfl, by decide +kernel, rfl, by decide +kernel, by decide +kernel⟩ (fun _ _ _ _ _ _ us hl => match us, hl with | [_], _ => rfl) (fun ds O Q E ⟨_, _, _, _, _, _, _, _, _, _, _, _, _, _, _, _, _, _, _, _, _, _, e, _⟩ => by rw [e]; rfl) fun F ds O Qd Ed ⟨d0, d1, d2, d3, d4, d5, d6, d7, d8, d9, d10, d11, d12, d13, d14, d15, d16, d17, d18, d19, d20, d21, e, q⟩ => ?_
  subst e
  repeat walk_at "dl"
  refine we_mkx Er.num (Nat.le_of_ble_eq_true rfl) rfl rfl ?_
  repeat walk_at "dl"
  refine we_mkx Er.frac (Nat.le_of_ble_eq_true rfl) rfl rfl ?_
  repeat walk_at "dl"
  refine we_mkx Er.text (Nat.le_of_ble_eq_true rfl) rfl rfl ?_
  repeat walk_at "dl"
  refine we_mkx Er.name (Nat.le_of_ble_eq_true rfl) rfl rfl ?_
  repeat walk_at "dl"
  refine we_mkx Er.event (Nat.le_of_ble_eq_true rfl) rfl rfl ?_
  repeat walk_at "dl"
  refine we_mkx Er.events (Nat.le_of_ble_eq_true rfl) rfl rfl ?_
  repeat walk_at "dl"
  repeat walk_at "dl"
  refine we_mkx Er.outcome (Nat.le_of_ble_eq_true rfl) rfl rfl ?_
  repeat walk_at "dl"
  refine we_mkx Er.sets (Nat.le_of_ble_eq_true rfl) rfl rfl ?_
  repeat walk_at "dl"
  refine we_mkx Er.twins (Nat.le_of_ble_eq_true rfl) rfl rfl ?_
  repeat walk_at "dl"
  refine we_mkx Er.lot (Nat.le_of_ble_eq_true rfl) rfl rfl ?_
  repeat walk_at "dl"
  refine we_mkx Er.index (Nat.le_of_ble_eq_true rfl) rfl rfl ?_
  repeat walk_at "dl"
  refine we_mkx Er.room (Nat.le_of_ble_eq_true rfl) rfl rfl ?_
  repeat walk_at "dl"
  refine q_addl (Nat.le_of_ble_eq_true rfl) ?_
  repeat walk_at "dl"
  refine we_mkx Er.tally (Nat.le_of_ble_eq_true rfl) rfl rfl ?_
  repeat walk_at "dl"
  refine we_mkx Er.log (Nat.le_of_ble_eq_true rfl) rfl rfl ?_
  repeat walk_at "dl"
  refine we_mkx Er.total (Nat.le_of_ble_eq_true rfl) rfl rfl ?_
  repeat walk_at "dl"
  refine we_mkx Er.counts (Nat.le_of_ble_eq_true rfl) rfl rfl ?_
  repeat walk_at "dl"
  refine we_mkx Er.members (Nat.le_of_ble_eq_true rfl) rfl rfl ?_
  repeat walk_at "dl"
  refine q_addl (Nat.le_of_ble_eq_true rfl) ?_
  repeat walk_at "dl"
  refine we_mkx Er.rows (Nat.le_of_ble_eq_true rfl) rfl rfl ?_
  repeat walk_at "dl"
  refine we_mkx Er.costs (Nat.le_of_ble_eq_true rfl) rfl rfl ?_
  repeat walk_at "dl"
  refine we_mkx Er.colors (Nat.le_of_ble_eq_true rfl) rfl rfl ?_
  repeat walk_at "dl"
  refine q_addl (Nat.le_of_ble_eq_true rfl) ?_
  repeat walk_at "dl"
  exact q
theorem ok_second {M : Mo} {er : ErrA} {f : Addr} {fd : FuncData} (Er : Errs M er) (hm : M.mg "_law_second" = some (.ref f)) (Fn : Fun M.K "_law_second" "_law_second" (topS 66) f fd) : DefD M "_law_second" (topS 66) ["v"] 3 (spFirst er) := by
  refine def_ok (N := ["v", "found"]) hm Fn ⟨rfl, rfl, rfl, by decide +kernel, rfl, by decide +kernel, by decide +kernel⟩ (fun _ _ _ _ _ _ us hl => match us, hl with | [_], _ => rfl) (fun ds O Q E ⟨_, _, _, _, _, _, _, _, _, _, _, _, _, _, _, _, _, _, _, _, _, _, e, _⟩ => by rw [e]; rfl) fun F ds O Qd Ed ⟨d0, d1, d2, d3, d4, d5, d6, d7, d8, d9, d10, d11, d12, d13, d14, d15, d16, d17, d18, d19, d20, d21, e, q⟩ => ?_
  subst e
  repeat walk_at "dl"
  refine we_mkxK Er.num (Nat.le_of_ble_eq_true rfl) rfl rfl ?_
  repeat walk_at "dl"
  refine we_mkxK Er.frac (Nat.le_of_ble_eq_true rfl) rfl rfl ?_
  repeat walk_at "dl"
  refine we_mkxK Er.text (Nat.le_of_ble_eq_true rfl) rfl rfl ?_
  repeat walk_at "dl"
  refine we_mkxK Er.name (Nat.le_of_ble_eq_true rfl) rfl rfl ?_
  repeat walk_at "dl"
  repeat walk_at "dl"
  refine we_mkxK Er.event (Nat.le_of_ble_eq_true rfl) rfl rfl ?_
  repeat walk_at "dl"
  refine we_mkxK Er.events (Nat.le_of_ble_eq_true rfl) rfl rfl ?_
  repeat walk_at "dl"
  refine we_mkxK Er.outcome (Nat.le_of_ble_eq_true rfl) rfl rfl ?_
  repeat walk_at "dl"
  refine we_mkxK Er.sets (Nat.le_of_ble_eq_true rfl) rfl rfl ?_
  repeat walk_at "dl"
  refine q_addl (Nat.le_of_ble_eq_true rfl) ?_
  repeat walk_at "dl"
  refine we_mkxK Er.twins (Nat.le_of_ble_eq_true rfl) rfl rfl ?_
  repeat walk_at "dl"
  refine we_mkxK Er.lot (Nat.le_of_ble_eq_true rfl) rfl rfl ?_
  repeat walk_at "dl"
  refine we_mkxK Er.index (Nat.le_of_ble_eq_true rfl) rfl rfl ?_
  repeat walk_at "dl"
  refine we_mkxK Er.room (Nat.le_of_ble_eq_true rfl) rfl rfl ?_
  repeat walk_at "dl"
  refine q_addl (Nat.le_of_ble_eq_true rfl) ?_
  repeat walk_at "dl"
  refine we_mkxK Er.tally (Nat.le_of_ble_eq_true rfl) rfl rfl ?_
  repeat walk_at "dl"
  refine we_mkxK Er.log (Nat.le_of_ble_eq_true rfl) rfl rfl ?_
  repeat walk_at "dl"
  refine we_mkxK Er.total (Nat.le_of_ble_eq_true rfl) rfl rfl ?_
  repeat walk_at "dl"
  refine we_mkxK Er.counts (Nat.le_of_ble_eq_true rfl) rfl rfl ?_
  repeat walk_at "dl"
  refine q_addl (Nat.le_of_ble_eq_true rfl) ?_
  repeat walk_at "dl"
  refine we_mkxK Er.members (Nat.le_of_ble_eq_true rfl) rfl rfl ?_
  repeat walk_at "dl"
  refine we_mkxK Er.rows (Nat.le_of_ble_eq_true rfl) rfl rfl ?_
  repeat walk_at "dl"
  refine we_mkxK Er.costs (Nat.le_of_ble_eq_true rfl) rfl rfl ?_
  repeat walk_at "dl"
  refine we_mkxK Er.colors (Nat.le_of_ble_eq_true rfl) rfl rfl ?_
  repeat walk_at "dl"
  refine q_addl (Nat.le_of_ble_eq_true rfl) ?_
  repeat walk_at "dl"
  exact q
def clsAt (er : ErrA) : List Addr := [er.num, er.frac, er.text, er.name, er.event, er.events, er.outcome, er.sets, er.twins, er.lot, er.index, er.room, er.tally, er.log, er.total, er.counts, er.members, er.rows, er.costs, er.colors, er.knotted, er.toomany]
def fldAt : List Str := (List.replicate 20 ("given" : Str)) ++ [("knot" : Str), ("count" : Str)]
/-- which of the classes is which -/
structure Kin (M : Mo) (er : ErrA) : Prop where
  own : ∀ (i j : Nat) (C D : Addr), (clsAt er)[i]? = some C → (clsAt er)[j]? = some D → PySem.W.kitOne M.K (.ref C) (.ref D) = some (decide (j = i))
  is : ∀ (i : Nat) (C : Addr), (clsAt er)[i]? = some C → ExcC M.K C
def kinds (i : Nat) : List Bool := (List.range 22).map fun j => decide (j = i)
def spKinds (er : ErrA) : SpD := fun ds O Q _ => ∃ (i : Nat) (C : Addr) (f : Str) (d : D), ds = [.exc C [f] [d]] ∧ (clsAt er)[i]? = some C ∧ Q (.lst ((kinds i).map .bl)) O
theorem ok_kinds {M : Mo} {er : ErrA} {f : Addr} {fd : FuncData} (B : Blt M) (Er : Errs M er) (Kn : Kin M er) (hm : M.mg "_law_kinds" = some (.ref f)) (Fn : Fun M.K "_law_kinds" "_law_kinds" (topS 67) f fd) : DefD M "_law_kinds" (topS 67) ["error"] 1 (spKinds er) := by
  refine def_ok (N := ["error", "found"]) hm Fn ⟨rfl, rfl, rfl, by decide +kernel, rfl, by decide +kernel, by decide +kernel⟩ (fun _ _ _ _ _ _ us hl => match us, hl with | [_], _ => rfl) (fun ds O Q E ⟨_, _, _, _, e, _⟩ => by rw [e]; rfl) fun F ds O Qd Ed ⟨i, C, fl, d, e, hC, q⟩ => ?_
  subst e
  have is := Kn.is i C hC
  repeat walk_at "dl"
  refine we_isx B rfl ?_
  repeat walk_at "dl"
  refine we_cls rfl Er.num.g ?_
  refine ⟨_, _, rfl, is, Kn.own i 0 C er.num hC rfl, ?_⟩
  repeat walk_at "dl"
  refine we_isx B rfl ?_
  repeat walk_at "dl"
  refine we_cls rfl Er.frac.g ?_
  refine ⟨_, _, rfl, is, Kn.own i 1 C er.frac hC rfl, ?_⟩
  repeat walk_at "dl"
  refine we_isx B rfl ?_
  repeat walk_at "dl"
  refine we_cls rfl Er.text.g ?_
  refine ⟨_, _, rfl, is, Kn.own i 2 C er.text hC rfl, ?_⟩
  repeat walk_at "dl"
  refine we_isx B rfl ?_
  repeat walk_at "dl"
  refine we_cls rfl Er.name.g ?_
  refine ⟨_, _, rfl, is, Kn.own i 3 C er.name hC rfl, ?_⟩
  repeat walk_at "dl"
  repeat walk_at "dl"
  refine we_isx B rfl ?_
  repeat walk_at "dl"
  refine we_cls rfl Er.event.g ?_
  refine ⟨_, _, rfl, is, Kn.own i 4 C er.event hC rfl, ?_⟩
  repeat walk_at "dl"
  refine we_isx B rfl ?_
  repeat walk_at "dl"
  refine we_cls rfl Er.events.g ?_
  refine ⟨_, _, rfl, is, Kn.own i 5 C er.events hC rfl, ?_⟩
  repeat walk_at "dl"
  refine we_isx B rfl ?_
  repeat walk_at "dl"
  refine we_cls rfl Er.outcome.g ?_
  refine ⟨_, _, rfl, is, Kn.own i 6 C er.outcome hC rfl, ?_⟩
  repeat walk_at "dl"
  refine we_isx B rfl ?_
  repeat walk_at "dl"
  refine we_cls rfl Er.sets.g ?_
  refine ⟨_, _, rfl, is, Kn.own i 7 C er.sets hC rfl, ?_⟩
  repeat walk_at "dl"
  refine q_addl (Nat.le_of_ble_eq_true rfl) ?_
  repeat walk_at "dl"
  refine we_isx B rfl ?_
  repeat walk_at "dl"
  refine we_cls rfl Er.twins.g ?_
  refine ⟨_, _, rfl, is, Kn.own i 8 C er.twins hC rfl, ?_⟩
  repeat walk_at "dl"
  refine we_isx B rfl ?_
  repeat walk_at "dl"
  refine we_cls rfl Er.lot.g ?_
  refine ⟨_, _, rfl, is, Kn.own i 9 C er.lot hC rfl, ?_⟩
  repeat walk_at "dl"
  refine we_isx B rfl ?_
  repeat walk_at "dl"
  refine we_cls rfl Er.index.g ?_
  refine ⟨_, _, rfl, is, Kn.own i 10 C er.index hC rfl, ?_⟩
  repeat walk_at "dl"
  refine we_isx B rfl ?_
  repeat walk_at "dl"
  refine we_cls rfl Er.room.g ?_
  refine ⟨_, _, rfl, is, Kn.own i 11 C er.room hC rfl, ?_⟩
  repeat walk_at "dl"
  refine q_addl (Nat.le_of_ble_eq_true rfl) ?_
  repeat walk_at "dl"
  refine we_isx B rfl ?_
  repeat walk_at "dl"
  refine we_cls rfl Er.tally.g ?_
  refine ⟨_, _, rfl, is, Kn.own i 12 C er.tally hC rfl, ?_⟩
  repeat walk_at "dl"
  refine we_isx B rfl ?_
  repeat walk_at "dl"
  refine we_cls rfl Er.log.g ?_
  refine ⟨_, _, rfl, is, Kn.own i 13 C er.log hC rfl, ?_⟩
  repeat walk_at "dl"
  refine we_isx B rfl ?_
  repeat walk_at "dl"
  refine we_cls rfl Er.total.g ?_
  refine ⟨_, _, rfl, is, Kn.own i 14 C er.total hC rfl, ?_⟩
  repeat walk_at "dl"
  refine we_isx B rfl ?_
  repeat walk_at "dl"
  refine we_cls rfl Er.counts.g ?_
  refine ⟨_, _, rfl, is, Kn.own i 15 C er.counts hC rfl, ?_⟩
  repeat walk_at "dl"
  refine q_addl (Nat.le_of_ble_eq_true rfl) ?_
  repeat walk_at "dl"
  refine we_isx B rfl ?_
  repeat walk_at "dl"
  refine we_cls rfl Er.members.g ?_
  refine ⟨_, _, rfl, is, Kn.own i 16 C er.members hC rfl, ?_⟩
  repeat walk_at "dl"
  refine we_isx B rfl ?_
  repeat walk_at "dl"
  refine we_cls rfl Er.rows.g ?_
  refine ⟨_, _, rfl, is, Kn.own i 17 C er.rows hC rfl, ?_⟩
  repeat walk_at "dl"
  refine we_isx B rfl ?_
  repeat walk_at "dl"
  refine we_cls rfl Er.costs.g ?_
  refine ⟨_, _, rfl, is, Kn.own i 18 C er.costs hC rfl, ?_⟩
  repeat walk_at "dl"
  refine we_isx B rfl ?_
  repeat walk_at "dl"
  refine we_cls rfl Er.colors.g ?_
  refine ⟨_, _, rfl, is, Kn.own i 19 C er.colors hC rfl, ?_⟩
  repeat walk_at "dl"
  refine q_addl (Nat.le_of_ble_eq_true rfl) ?_
  repeat walk_at "dl"
  refine we_isx B rfl ?_
  repeat walk_at "dl"
  refine we_cls rfl Er.knotted.g ?_
  refine ⟨_, _, rfl, is, Kn.own i 20 C er.knotted hC rfl, ?_⟩
  repeat walk_at "dl"
  refine we_isx B rfl ?_
  repeat walk_at "dl"
  refine we_cls rfl Er.toomany.g ?_
  refine ⟨_, _, rfl, is, Kn.own i 21 C er.toomany hC rfl, ?_⟩
  repeat walk_at "dl"
  refine q_addl (Nat.le_of_ble_eq_true rfl) ?_
  repeat walk_at "dl"
  exact q
end K0

namespace K0
open PySem PySem.Spec PyProof.Rows L2 DL PySem.NumText
local macro_rules | `(tactic| walk_at "vis") => `(tactic| first | exact .inl rfl | exact .inr (.inl rfl) | exact .inr (.inr rfl))
local macro_rules | `(tactic| walk_at "loc") => `(tactic| first | exact .inl rfl | exact .inr rfl)
local macro_rules | `(tactic| walk_at "dlName") => `(tactic| first
  | ((with_reducible show We _ (Expr.Name "int" _) _ _ _); refine we_tyInt (by assumption) rfl ?_)
  | ((with_reducible show We _ (Expr.Name "bool" _) _ _ _); refine we_tyBool (by assumption) rfl ?_)
  | ((with_reducible show We _ (Expr.Name "str" _) _ _ _); refine we_tyStr (by assumption) rfl ?_)
  | ((with_reducible show We _ (Expr.Name "list" _) _ _ _); refine we_tyList (by assumption) rfl ?_)
  | ((with_reducible show We _ (Expr.Name "tuple" _) _ _ _); refine we_tyTuple (by assumption) rfl ?_)
  | ((with_reducible show We _ (Expr.Name "dict" _) _ _ _); refine we_tyDict (by assumption) rfl ?_)
  | (refine we_nm rfl rfl ?v ?_; (case v => walk_at "vis"))
  | refine we_gstr (by assumption) rfl ?_ | refine we_gint (by assumption) rfl ?_)
local macro_rules | `(tactic| walk_at "dlCall") => `(tactic| first
  | ((with_reducible show We _ (Expr.Call (Expr.Name "isinstance" _) _ [] _) _ _ _); refine we_isi (by assumption) rfl ?_)
  | ((with_reducible show We _ (Expr.Call (Expr.Name "len" _) _ [] _) _ _ _); refine we_len (by assumption) rfl ?_)
  | ((with_reducible show We _ (Expr.Call (Expr.Name "all" _) _ [] _) _ _ _); refine we_all (by assumption) rfl rfl ?_)
  | ((with_reducible show We _ (Expr.Call (Expr.Name "abs" _) _ [] _) _ _ _); refine we_abs (by assumption) rfl ?_)
  | ((with_reducible show We _ (Expr.Call (Expr.Name "int" _) _ [] _) _ _ _); refine we_int_ (by assumption) rfl ?_)
  | ((with_reducible show We _ (Expr.Call (Expr.Name "str" _) _ [] _) _ _ _); refine we_str_ (by assumption) rfl ?_)
  | ((with_reducible show We _ (Expr.Call (Expr.Name "tuple" _) _ [] _) _ _ _); refine we_tuple_ (by assumption) rfl ?_)
  | ((with_reducible show We _ (Expr.Call (Expr.Name "list" _) _ [] _) _ _ _); refine we_list_ (by assumption) rfl ?_)
  | ((with_reducible show We _ (Expr.Call (Expr.Name "sum" _) _ [] _) _ _ _); refine we_sum (by assumption) rfl rfl ?_)
  | ((with_reducible show We _ (Expr.Call (Expr.Name "max" _) _ [] _) _ _ _); refine we_max (by assumption) rfl rfl ?_)
  | ((with_reducible show We _ (Expr.Call (Expr.Name "min" _) _ [] _) _ _ _); refine we_min (by assumption) rfl rfl ?_)
  | (refine' we_call ?hd ?hk ?hg ?hh ?_; (case hd => assumption); (case hk => exact Nat.le_of_ble_eq_true rfl); (case hg => rfl); (case hh => rfl)))
local macro_rules | `(tactic| walk_at "dlE") => `(tactic| first
  | ((with_reducible show We _ (Expr.Name _ _) _ _ _); walk_at "dlName")
  | ((with_reducible show We _ (Expr.Constant _ _ _) _ _ _); first | refine we_int ?_ | refine we_str ?_ | refine we_bl ?_ | refine we_non ?_)
  | ((with_reducible show We _ (Expr.Call (Expr.Name _ _) _ [] _) _ _ _); walk_at "dlCall")
  | ((with_reducible show We _ (Expr.BoolOp _ _ _) _ _ _); first | refine we_and ?_ | refine we_or ?_ | refine we_one ?_)
  | ((with_reducible show We _ (Expr.UnaryOp _ _ _) _ _ _); first | refine we_not ?_ | refine we_neg ?_)
  | ((with_reducible show We _ (Expr.Compare _ [_] _ _) _ _ _); refine we_cmp ?_)
  | ((with_reducible show We _ (Expr.Compare _ [_, _] _ _) _ _ _); refine we_chain ?_)
  | ((with_reducible show We _ (Expr.BinOp _ _ _ _) _ _ _); refine we_bin ?_)
  | ((with_reducible show We _ (Expr.IfExp _ _ _ _) _ _ _); refine we_if ?_)
  | ((with_reducible show We _ (Expr.Tuple _ _ _) _ _ _); refine we_tup ?_)
  | ((with_reducible show We _ (Expr.List _ _) _ _ _); refine we_lst ?_)
  | ((with_reducible show We _ (Expr.Subscript _ (Expr.Slice _ _ none _) _) _ _ _); refine we_slice ?_)
  | ((with_reducible show We _ (Expr.Subscript _ _ _) _ _ _); refine we_ix ?_)
  | ((with_reducible show We _ (Expr.JoinedStr _ _) _ _ _); refine we_joined ?_)
  | ((with_reducible show We _ (Expr.FormattedValue _ _ _ _) _ _ _); refine we_fmt ?_)
  | ((with_reducible show We _ (Expr.ListComp _ _ _ _) _ _ _); refine we_lc rfl (by kernel_rfl) ?_))
local macro_rules | `(tactic| walk_at "dlT") => `(tactic| first
  | ((with_reducible show WT _ (Expr.UnaryOp _ _ _) _ _ _); refine wt_not ?_)
  | ((with_reducible show WT _ (Expr.Compare _ [_] _ _) _ _ _); refine wt_cmp ?_)
  | ((with_reducible show WT _ (Expr.Compare _ [_, _] _ _) _ _ _); refine wt_chain ?_)
  | ((with_reducible show WT _ (Expr.BoolOp _ _ _) _ _ _); refine WW.wt ?_)
  | refine wt_val ?_)
local macro_rules | `(tactic| walk_at "dlS") => `(tactic| first
  | ((with_reducible show WS _ (Stmt.Return _ _) _ _ _); first | refine ws_ret ?_ | refine ws_retN ?_)
  | ((with_reducible show WS _ (Stmt.If _ _ _ _) _ _ _); refine ws_if ?_)
  | ((with_reducible show WS _ (Stmt.Assign [Expr.Name _ _] _ _) _ _ _); (refine ws_nm rfl ?v ?_; (case v => walk_at "loc")))
  | ((with_reducible show WS _ (Stmt.Assign [Expr.Tuple [Expr.Name _ _, Expr.Name _ _] _ _] (Expr.Tuple [_, _] _ _) _) _ _ _); (refine ws_pr rfl rfl rfl (by kernel_rfl) rfl rfl ?_ ?hw; (case hw => (intro env he; obtain ⟨⟩ := env; cases he; kernel_rfl))))
  | ((with_reducible show WS _ (Stmt.Assign [Expr.Tuple _ _ _] _ _) _ _ _); refine ws_asg ?_)
  | ((with_reducible show WS _ (Stmt.Expr _ _) _ _ _); refine ws_expr ?_)
  | ((with_reducible show WS _ (Stmt.Pass _) _ _ _); refine ws_pass ?_))
local macro_rules | `(tactic| walk_at "dlQ") => `(tactic| first
  | ((with_reducible show BinQ _ _ _ _ _); first | refine q_addi ?_ | refine q_subi ?_ | refine q_subb ?_)
  | ((with_reducible show CmpQ _ _ _ _ _); first | refine q_lti ?_ | refine q_lei ?_ | refine q_gti ?_ | refine q_gei ?_ | refine q_eqi ?_ | refine q_nei ?_ | refine q_eqs ?_ | refine q_nes ?_ | refine q_insg ?_ | refine q_nisg ?_)
  | ((with_reducible show IsiQ _ _ _); refine q_isi (by first | assumption | rfl) ?_)
  | ((with_reducible show LenQ _ _ _); first | refine q_lent ?_ | refine q_lenl ?_ | refine q_lens (by assumption) ?_ | refine q_lenr ?_)
  | ((with_reducible show TruQ _ _ _); refine q_trub ?_)
  | ((with_reducible show LcF _ _ _); refine q_lcf ?_)
  | ((with_reducible show TupQ _ _ _); first | refine q_tupl ?_ | refine q_tupt ?_)
  | ((with_reducible show LstQ _ _ _); first | refine q_lstl ?_ | refine q_lstt ?_)
  | ((with_reducible show AbsQ _ _ _); refine q_abs ?_)
  | ((with_reducible show IxQ _ _ _ _); first | refine q_ixt rfl ?_ | refine q_ixl rfl ?_)
  | ((with_reducible show SlQ _ _ _ _ _); first | refine q_slt ?_ | refine q_sll ?_ | refine q_sls (by assumption) ?_ | refine q_slr ?_)
  | ((with_reducible show IntQ _ _ _); first | refine q_inti ?_ | refine q_intb ?_)
  | ((with_reducible show if _ = true then _ else _); first | refine ift rfl ?_ | refine iff_ rfl ?_)
  | ((with_reducible show ∃ k, D.bl _ = D.bl k ∧ _); refine ⟨_, rfl, ?_⟩)
  | ((with_reducible show BlQ _ _ _); refine ⟨_, rfl, ?_⟩)
  | ((with_reducible show ∃ i, D.int _ = D.int i ∧ _); refine ⟨_, rfl, ?_⟩)
  | ((with_reducible show ∃ i, D.str _ = D.str i ∧ _); refine ⟨_, rfl, ?_⟩)
  | ((with_reducible show _ ≤ sizeLine ∧ _); refine ⟨by first | exact Nat.zero_le _ | exact Nat.le_of_ble_eq_true rfl | assumption, ?_⟩))
local macro_rules | `(tactic| walk_at "dl") => `(tactic| first
  | ((with_reducible show We _ _ _ _ _); walk_at "dlE")
  | ((with_reducible show WA _ _ _ _ _); first | refine wa_cons ?_ | refine wa_nil ?_)
  | ((with_reducible show WT _ _ _ _ _); walk_at "dlT")
  | ((with_reducible show WW _ _ _ _ _); first | refine ww_and ?_ | refine ww_or ?_ | refine ww_and1 ?_ | refine ww_or1 ?_)
  | ((with_reducible show WS _ _ _ _ _); walk_at "dlS")
  | ((with_reducible show WSs _ _ _ _ _); first | refine wss_cons ?_ | refine wss_nil ?_)
  | ((with_reducible show ChQ _ _ _ _ _ _ _ _ _); (show We _ _ _ _ _))
  | ((with_reducible show PiD _ _ (Expr.Call (Expr.Name "range" _) [_] _ _) _ _ _); refine pi_rg (by assumption) rfl ?_)
  | ((with_reducible show PiD _ _ (Expr.Call (Expr.Name "range" _) [_, _] _ _) _ _ _); refine pi_rg2 (by assumption) rfl ?_)
  | ((with_reducible show WGo _ _ (Expr.Name _ _) _ _ _ _); refine wgo_nb rfl (by walk_at "loc") (by kernel_rfl) ?_)
  | ((with_reducible show WG _ (Expr.Tuple _ _ _) _ _ _ _); refine wg_tup rfl rfl ?_)
  | ((with_reducible show WGs _ _ _ _ _ _); first | refine wgs_cons ?_ | refine wgs_nil ?_)
  | ((with_reducible show WGo _ _ (Expr.Tuple _ _ _) _ _ _ _); refine wgo_tup rfl rfl ?_)
  | ((with_reducible show WGso _ _ _ _ _ _ _); first | refine wgso_cons ?_ | refine wgso_nil ?_)
  | ((with_reducible show WG _ (Expr.Name _ _) _ _ _ _); refine wg_nm rfl (by walk_at "loc") ?_)
  | ((with_reducible show WO _ _ _ _ _); first | refine wo_none ?_ | refine wo_some ?_)
  | ((with_reducible show WI _ _ _ _ _); first | refine wi_nil ?_ | refine wi_one ?_)
  | ((with_reducible show WJ _ _ _ _ _ _); first | refine wj_cons ?_ | refine wj_nil ?_)
  | walk_at "dlQ")
section
open PySem PySem.Spec PyProof.Rows L2 DL PySem.NumText
/-! ### what is given, what is kept -/
def notLst : D → Bool
  | .lst _ => false
  | _ => true
def Giv (a : Addr) (m : Nat) (O : Opens) (d : D) : Prop := (Plain 4 d ∧ notLst d = true) ∨ (∃ p ds, d = .raw (.ref p) ∧ p ≠ a ∧ O p = some (.lst ds) ∧ ds.length ≤ m) ∨ ∃ p ks ds, d = .raw (.ref p) ∧ p ≠ a ∧ O p = some (.dic ks ds) ∧ ks.length ≤ m
/-- what was open, but a, is as it was -/
def Grow (a : Addr) (O O' : Opens) : Prop := ∀ b u, b ≠ a → O b = some u → O' b = some u
theorem Grow.refl {a : Addr} {O : Opens} : Grow a O O := fun _ _ _ h => h
theorem Grow.trans {a : Addr} {O O1 O2 : Opens} (h : Grow a O O1) (k : Grow a O1 O2) : Grow a O O2 := fun b u hb e => k b u hb (h b u hb e)
theorem Grow.but {a : Addr} {O O' : Opens} (h : But a O O') : Grow a O O' := fun b u hb e => (h b hb).trans e
theorem Grow.new {a p : Addr} {O : Opens} {u : OO} (h : O p = none) : Grow a O (O.up p u) := fun b w _ e => by
  rw [Opens.up_ne fun z => by rw [z, h] at e; cases e]; exact e
theorem Giv.mono {a : Addr} {m n : Nat} {O O' : Opens} {d : D} (g : Grow a O O') (k : m ≤ n) (h : Giv a m O d) : Giv a n O' d := by
  rcases h with h | ⟨p, ds, h1, h2, h3, h4⟩ | ⟨p, ks, ds, h1, h2, h3, h4⟩
  · exact .inl h
  · exact .inr (.inl ⟨p, ds, h1, h2, g _ _ h2 h3, Nat.le_trans h4 k⟩)
  · exact .inr (.inr ⟨p, ks, ds, h1, h2, g _ _ h2 h3, Nat.le_trans h4 k⟩)
def spGiven : SpD := fun ds O Q _ => ∃ (a : Addr) (way n : Nat), ds = [.raw (.ref a), .int (way : Int)] ∧ Bx a n O ∧ n + 2 ≤ 1000000 ∧ ∀ d O', Giv a 3 O' d → Bx a (n + 2) O' → Grow a O O' → Q d O'
theorem Bx.grow {a : Addr} {n : Nat} {O : Opens} {p : Addr} {u : OO} (h : Bx a n O) (hp : O p = none) : Bx a n (O.up p u) := by
  obtain ⟨L, h1, h2⟩ := h
  exact ⟨L, by rw [Opens.up_ne fun z => by rw [z, hp] at h1; cases h1]; exact h1, h2⟩
theorem Bx.ne {a : Addr} {n : Nat} {O : Opens} {p : Addr} (h : Bx a n O) (hp : O p = none) : p ≠ a := fun z => by
  obtain ⟨L, h1, _⟩ := h
  rw [← z, hp] at h1; cases h1
local macro_rules | `(tactic| walk_at "dlL") => `(tactic| repeat ((fail_if_success (with_reducible show We _ (Expr.List _ _) _ _ _)); (fail_if_success (with_reducible show We _ (Expr.Dict _ _ _) _ _ _)); walk_at "dl"))
local macro_rules | `(tactic| walk_at "dlD") => `(tactic| repeat ((fail_if_success (with_reducible show We _ (Expr.Call (Expr.Name "len" _) _ _ _) _ _ _)); (fail_if_success (with_reducible show We _ (Expr.Compare _ [CmpOp.In] _ _) _ _ _)); walk_at "dl"))
theorem ok_given {M : Mo} {f : Addr} {fd : FuncData} (B : Blt M) (h_take : DefD M "_law_take" (topS 61) ["box", "many"] 1 spTake) (hm : M.mg "_law_given" = some (.ref f)) (Fn : Fun M.K "_law_given" "_law_given" (topS 63) f fd) : DefD M "_law_given" (topS 63) ["box", "way"] 2 spGiven := by
  refine def_ok (N := ["box", "way", "some"]) hm Fn ⟨rfl, rfl, rfl, by decide +kernel, rfl, by decide +kernel, by decide +kernel⟩ (fun _ _ _ _ _ _ us hl => match us, hl with | [_, _], _ => rfl) (fun ds O Q E ⟨_, _, _, e, _⟩ => by rw [e]; rfl) fun F ds O Qd Ed ⟨a, way, n, e, hb, hn, q⟩ => ?_
  subst e
  walk_at "dlL"
  refine we_lst ?_
  walk_at "dlL"
  refine we_lstO ?_
  walk_at "dlL"
  refine we_lst ?_
  walk_at "dlL"
  refine fun p1 n1 => ?_
  walk_at "dlL"
  refine we_dic1 fun p2 n2 => ?_
  walk_at "dlL"
  refine we_lst ?_
  walk_at "dlL"
  refine ⟨Opens.up_same, ?_⟩
  rw [Opens.up_up]
  walk_at "dlL"
  refine we_lstO ?_
  walk_at "dlL"
  refine fun p3 n3 => ?_
  walk_at "dlL"
  refine q_powi ⟨by decide, by decide, by decide⟩ ?_
  walk_at "dlL"
  have b1 := hb.grow (u := .lst [.int 1, .lst [.int 2]]) n1
  have b2 := b1.grow (u := .dic [.inr (Str.ofString "a")] [.lst [.int 1]]) n2
  have b3 := b2.grow (u := .lst []) n3
  have g3 : Grow a O _ := ((Grow.new n1).trans (Grow.new n2)).trans (Grow.new (u := .lst []) n3)
  have i1 := hb.ne n1
  have i2 := b1.ne n2
  have i3 := b2.ne n3
  have d12 : p1 ≠ p2 := fun z => by rw [z, Opens.up_same] at n2; cases n2
  have d13 : p1 ≠ p3 := fun z => by rw [← z, Opens.up_ne d12, Opens.up_same] at n3; cases n3
  have d23 : p2 ≠ p3 := fun z => by rw [← z, Opens.up_same] at n3; cases n3
  generalize hO3 : ((O.up p1 (.lst [.int 1, .lst [.int 2]])).up p2 (.dic [.inr (Str.ofString "a")] [.lst [.int 1]])).up p3 (.lst []) = O3 at b3 g3 ⊢
  have o1 : O3 p1 = some (.lst [.int 1, .lst [.int 2]]) := by rw [← hO3, Opens.up_ne d13, Opens.up_ne d12, Opens.up_same]
  have o2 : O3 p2 = some (.dic [.inr (Str.ofString "a")] [.lst [.int 1]]) := by rw [← hO3, Opens.up_ne d23, Opens.up_same]
  have o3 : O3 p3 = some (.lst []) := by rw [← hO3, Opens.up_same]
  have pl2 : ∀ x ∈ ([.int 2] : List D), Plain 2 x := fun x hx => by rw [List.mem_singleton.mp hx]; exact .int
  have items : ∀ d ∈ ([.non, .bl true, .int 0, .int (-3), .str (Str.ofString "text"), .tup [.int 1, .tup [.int 2]], .raw (.ref p1), .raw (.ref p2), .str (Str.ofString ""), .raw (.ref p3), .tup [], .int (10 ^ Int.toNat 19)] : List D), Giv a 3 O3 d := by
    intro d hd
    simp only [List.mem_cons, List.not_mem_nil, or_false] at hd
    rcases hd with rfl | rfl | rfl | rfl | rfl | rfl | rfl | rfl | rfl | rfl | rfl | rfl
    · exact .inl ⟨.non, rfl⟩
    · exact .inl ⟨.bl, rfl⟩
    · exact .inl ⟨.int, rfl⟩
    · exact .inl ⟨.int, rfl⟩
    · exact .inl ⟨.str (by decide +kernel), rfl⟩
    · refine .inl ⟨.tup (by show 2 ≤ 100000; decide) fun x hx => ?_, rfl⟩
      simp only [List.mem_cons, List.not_mem_nil, or_false] at hx
      rcases hx with rfl | rfl
      · exact .int
      · exact .tup (by show 1 ≤ 100000; decide) pl2
    · exact .inr (.inl ⟨p1, _, rfl, i1, o1, by show 2 ≤ 3; decide⟩)
    · exact .inr (.inr ⟨p2, _, _, rfl, i2, o2, by show 1 ≤ 3; decide⟩)
    · exact .inl ⟨.str (by decide +kernel), rfl⟩
    · exact .inr (.inl ⟨p3, _, rfl, i3, o3, by show 0 ≤ 3; decide⟩)
    · exact .inl ⟨.tup (by show 0 ≤ 100000; decide) (fun x hx => nomatch hx), rfl⟩
    · exact .inl ⟨.int, rfl⟩
  have pick : ∀ j : Nat, j < 12 → ∀ d, atI ([.non, .bl true, .int 0, .int (-3), .str (Str.ofString "text"), .tup [.int 1, .tup [.int 2]], .raw (.ref p1), .raw (.ref p2), .str (Str.ofString ""), .raw (.ref p3), .tup [], .int (10 ^ Int.toNat 19)] : List D) (j : Int) = some d → Giv a 3 O3 d := fun j hj d h => by
    unfold atI at h
    obtain ⟨_, _, h⟩ := Option.bind_eq_some_iff.mp h
    exact items d (List.mem_of_getElem? h)
  have have_ : ∀ j : Int, 0 ≤ j → j < 12 → ∃ d, atI ([.non, .bl true, .int 0, .int (-3), .str (Str.ofString "text"), .tup [.int 1, .tup [.int 2]], .raw (.ref p1), .raw (.ref p2), .str (Str.ofString ""), .raw (.ref p3), .tup [], .int (10 ^ Int.toNat 19)] : List D) j = some d ∧ Giv a 3 O3 d := fun j h0 h1 => by
    obtain ⟨k, rfl⟩ := Int.eq_ofNat_of_zero_le h0
    have hk : k < 12 := by omega
    have e := at_nat (xs := ([.non, .bl true, .int 0, .int (-3), .str (Str.ofString "text"), .tup [.int 1, .tup [.int 2]], .raw (.ref p1), .raw (.ref p2), .str (Str.ofString ""), .raw (.ref p3), .tup [], .int (10 ^ Int.toNat 19)] : List D)) (j := (k : Int)) rfl (List.getElem?_eq_getElem (show k < 12 from hk))
    exact ⟨_, e, pick k hk _ e⟩
  refine ⟨a, 2, n, rfl, b3, by omega, by decide, by decide, fun r O4 r0 r1 b4 u4 => ?_⟩
  walk_at "dlL"
  refine if2 (fun h => ?_) (fun h => ?_)
  · walk_at "dlL"
    refine q_modi (by decide) ?_
    obtain ⟨d, hd, gd⟩ := have_ ((way : Int) % 12) (Int.emod_nonneg _ (by decide)) (Int.emod_lt_of_pos _ (by decide))
    refine q_ixl hd ?_
    exact q d O4 (gd.mono (Grow.but u4) (Nat.le_refl _)) (b4.le (by omega)) (g3.trans (Grow.but u4))
  · walk_at "dlL"
    refine ⟨a, 12, n + 1, rfl, b4, by omega, by decide, by decide, fun r2 O5 r3 r4 b5 u5 => ?_⟩
    obtain ⟨d, hd, gd⟩ := have_ r2 r3 r4
    refine q_ixl hd ?_
    exact q d O5 (gd.mono ((Grow.but u4).trans (Grow.but u5)) (Nat.le_refl _)) b5 (g3.trans ((Grow.but u4).trans (Grow.but u5)))
theorem ty_ol {O : Opens} {p : Addr} {ds : List D} (h : O p = some (.lst ds)) : tyD O (.raw (.ref p)) = some .list := by
  show (match O p with | some (.lst _) => some Ty.list | some (.dic _ _) => some .dict | _ => none) = _
  rw [h]
theorem ty_od {O : Opens} {p : Addr} {ks : List Key} {ds : List D} (h : O p = some (.dic ks ds)) : tyD O (.raw (.ref p)) = some .dict := by
  show (match O p with | some (.lst _) => some Ty.list | some (.dic _ _) => some .dict | _ => none) = _
  rw [h]
theorem cut_last {ds : List D} {x : D} : DL.cutD (ds ++ [x]) (some (-1)) none = [x] := by
  unfold DL.cutD
  have e1 : HT.sIx (ds ++ [x]).length 0 (some (-1)) = ds.length := by
    rw [List.length_append]
    unfold HT.sIx
    dsimp only
    rw [if_pos (by decide)]
    show ((-1 : Int) + ((ds.length + 1 : Nat) : Int)).toNat = _
    omega
  rw [e1, HT.sIx_none, List.drop_append, List.drop_length, Nat.sub_self, List.length_append]
  show List.take (ds.length + 1 - ds.length) ([] ++ [x]) = [x]
  rw [Nat.add_sub_cancel_left]; rfl
def spKept : SpD := fun ds O Q _ => ∃ (a : Addr) (m : Nat) (d : D), ds = [d, d] ∧ Giv a m O d ∧ m ≤ 1000 ∧ ∀ O', (∀ e, Giv a m O e → Giv a (m + 1) O' e) → O' a = O a → Q (.bl true) O'
theorem giv_up {a p : Addr} {m : Nat} {O : Opens} {ds es : List D} (hp : p ≠ a) (ho : O p = some (.lst ds)) (hl : es.length ≤ m + 1) (e : D) (h : Giv a m O e) : Giv a (m + 1) (O.up p (.lst es)) e := by
  rcases h with h | ⟨q, xs, h1, h2, h3, h4⟩ | ⟨q, ks, xs, h1, h2, h3, h4⟩
  · exact .inl h
  · by_cases z : q = p
    · subst z; exact .inr (.inl ⟨q, es, h1, h2, Opens.up_same, hl⟩)
    · exact .inr (.inl ⟨q, xs, h1, h2, by rw [Opens.up_ne z]; exact h3, by omega⟩)
  · by_cases z : q = p
    · subst z; rw [ho] at h3; cases h3
    · exact .inr (.inr ⟨q, ks, xs, h1, h2, by rw [Opens.up_ne z]; exact h3, by omega⟩)
theorem giv_upD {a p : Addr} {m : Nat} {O : Opens} {ks ls : List Key} {ds es : List D} (hp : p ≠ a) (ho : O p = some (.dic ks ds)) (hl : ls.length ≤ m + 1) (e : D) (h : Giv a m O e) : Giv a (m + 1) (O.up p (.dic ls es)) e := by
  rcases h with h | ⟨q, xs, h1, h2, h3, h4⟩ | ⟨q, ks, xs, h1, h2, h3, h4⟩
  · exact .inl h
  · by_cases z : q = p
    · subst z; rw [ho] at h3; cases h3
    · exact .inr (.inl ⟨q, xs, h1, h2, by rw [Opens.up_ne z]; exact h3, by omega⟩)
  · by_cases z : q = p
    · subst z; exact .inr (.inr ⟨q, ls, es, h1, h2, Opens.up_same, hl⟩)
    · exact .inr (.inr ⟨q, ks, xs, h1, h2, by rw [Opens.up_ne z]; exact h3, by omega⟩)
theorem plain_ty {n : Nat} {O : Opens} {d : D} (h : Plain n d) (k : notLst d = true) : ∃ t, tyD O d = some t ∧ t ≠ .list ∧ t ≠ .dict := by
  cases h with
  | lst _ _ => cases k
  | non => exact ⟨_, rfl, by decide, by decide⟩
  | bl => exact ⟨_, rfl, by decide, by decide⟩
  | int => exact ⟨_, rfl, by decide, by decide⟩
  | str _ => exact ⟨_, rfl, by decide, by decide⟩
  | tup _ _ => exact ⟨_, rfl, by decide, by decide⟩
theorem ok_kept {M : Mo} {f : Addr} {fd : FuncData} (B : Blt M) (h_same : DefD M "_law_same" (topS 62) ["told", "due"] 5 (spSame 4)) (hm : M.mg "_law_kept" = some (.ref f)) (Fn : Fun M.K "_law_kept" "_law_kept" (topS 64) f fd) : DefD M "_law_kept" (topS 64) ["kept", "value"] 6 spKept := by
  refine def_ok (N := ["kept", "value"]) hm Fn ⟨rfl, rfl, rfl, by decide +kernel, rfl, by decide +kernel, by decide +kernel⟩ (fun _ _ _ _ _ _ us hl => match us, hl with | [_, _], _ => rfl) (fun ds O Q E ⟨_, _, _, e, _⟩ => by rw [e]; rfl) fun F ds O Qd Ed ⟨a, m, d, e, hg, hm', q⟩ => ?_
  subst e
  rcases hg with ⟨hp, hk⟩ | ⟨p, es, rfl, hpa, ho, hl⟩ | ⟨p, ks, es, rfl, hpa, ho, hl⟩
  · obtain ⟨t, ht, n1, n2⟩ := plain_ty (O := O) hp hk
    repeat walk_at "dl"
    refine iff_ (by cases t <;> first | rfl | exact absurd rfl n1) ?_
    repeat walk_at "dl"
    refine iff_ (by cases t <;> first | rfl | exact absurd rfl n2) ?_
    repeat walk_at "dl"
    exact ⟨d, rfl, hp, q O (fun e he => he.mono Grow.refl (Nat.le_succ _)) rfl⟩
  · have ty0 := ty_ol ho
    have hs : es.length < sizeLine := Nat.lt_of_le_of_lt (Nat.le_trans hl hm') (by decide)
    repeat walk_at "dl"
    refine we_append ?_
    repeat walk_at "dl"
    refine ⟨p, es, rfl, ho, ?_⟩
    repeat walk_at "dl"
    refine ⟨es, ho, hs, ?_⟩
    have ho1 : (O.up p (.lst (es ++ [.str (Str.ofString "more")]))) p = some (.lst (es ++ [.str (Str.ofString "more")])) := Opens.up_same
    have ty1 := ty_ol ho1
    repeat walk_at "dl"
    refine ⟨_, ho1, ?_⟩
    repeat walk_at "dl"
    refine ⟨_, ho1, ?_⟩
    repeat walk_at "dl"
    refine ift (beq_self_eq_true _) ?_
    repeat walk_at "dl"
    refine ⟨_, ho1, ?_⟩
    rw [cut_last]
    repeat walk_at "dl"
    have lm : Lay 64 (.lst [.str (Str.ofString "more")]) := lay_lst (n := 63) (lays_strs (ns := [Str.ofString "more"]) fun z h => by rw [List.mem_singleton.mp h]; decide +kernel)
    refine q_eqd lm lm ?_
    have e1 : eqD (.lst [.str (Str.ofString "more")]) (.lst [.str (Str.ofString "more")]) = true := by
      rw [eqD_lst, show ([D.str (Str.ofString "more")] : List D) = [Str.ofString "more"].map D.str from rfl, eqDs_strs (fun z h => by rw [List.mem_singleton.mp h]; decide +kernel) (fun z h => by rw [List.mem_singleton.mp h]; decide +kernel)]
      exact decide_eq_true rfl
    rw [e1]
    exact q _ (fun e he => giv_up hpa ho (by rw [List.length_append]; show es.length + 1 ≤ m + 1; omega) e he) (Opens.up_ne (Ne.symm hpa))
  · have ty0 := ty_od ho
    have hs : ks.length < sizeLine := Nat.lt_of_le_of_lt (Nat.le_trans hl hm') (by decide)
    repeat walk_at "dl"
    refine ws_asg ?_
    repeat walk_at "dl"
    refine wg_subD ?_
    repeat walk_at "dl"
    refine ⟨p, ks, es, _, rfl, rfl, ho, hs, ?_⟩
    have ho1 : (O.up p (.dic (putKs ks (.inr (Str.ofString "more"))) (putVs ks es (.inr (Str.ofString "more")) (.int 1)))) p = some (.dic (putKs ks (.inr (Str.ofString "more"))) (putVs ks es (.inr (Str.ofString "more")) (.int 1))) := Opens.up_same
    have ty1 := ty_od ho1
    walk_at "dlD"
    refine we_inD ?_
    walk_at "dlD"
    refine ⟨p, _, _, _, rfl, rfl, ho1, ?_⟩
    rw [put_has]
    walk_at "dlD"
    refine we_lenD (by assumption) rfl ?_
    walk_at "dlD"
    refine ⟨p, _, _, rfl, ho1, ?_⟩
    walk_at "dlD"
    refine we_lenD (by assumption) rfl ?_
    walk_at "dlD"
    refine ⟨p, _, _, rfl, ho1, ?_⟩
    walk_at "dlD"
    rw [beq_self_eq_true]
    exact q _ (fun e he => giv_upD hpa ho (Nat.le_trans put_le (by omega)) e he) (Opens.up_ne (Ne.symm hpa))
end
section
open PySem PySem.Spec PyProof.Rows L2 DL PySem.NumText
local macro_rules | `(tactic| walk_at "dlE") => `(tactic| ((with_reducible show We _ (Expr.Attribute (Expr.Name "error" _) _ _) _ _ _); refine we_xv ?_))
local macro_rules | `(tactic| walk_at "dlE") => `(tactic| ((with_reducible show We _ (Expr.Call (Expr.Name "isinstance" _) [Expr.Name "error" _, _] [] _) _ _ _); refine we_isx (by assumption) rfl ?_))
/-- what more is told of the classes -/
structure Kin2 (M : Mo) (er : ErrA) (E : Addr) : Prop where
  e : M.mg "EvenError" = some (.ref E)
  v : M.mg "ValueError" = none
  even : ∀ (i : Nat) (C : Addr), (clsAt er)[i]? = some C → PySem.W.kitOne M.K (.ref C) (.ref E) = some true
  value : ∀ (i : Nat) (C : Addr), (clsAt er)[i]? = some C → PySem.W.kitOne M.K (.ref C) (.type "ValueError") = some true
  rd : ∀ (i : Nat) (C : Addr), (clsAt er)[i]? = some C → XfC M.K C
  no : ∀ (i : Nat) (C : Addr) (f : Str), (clsAt er)[i]? = some C → fldAt[i]? = some f → PySem.W.findIn M.K (.ref C) f = some none
def errsL (er : ErrA) (d0 d1 d2 d3 d4 d5 d6 d7 d8 d9 d10 d11 d12 d13 d14 d15 d16 d17 d18 d19 d20 d21 : D) : List D := [exg er.num d0, exg er.frac d1, exg er.text d2, exg er.name d3, exg er.event d4, exg er.events d5, exg er.outcome d6, exg er.sets d7, exg er.twins d8, exg er.lot d9, exg er.index d10, exg er.room d11, exg er.tally d12, exg er.log d13, exg er.total d14, exg er.counts d15, exg er.members d16, exg er.rows d17, exg er.costs d18, exg er.colors d19, .exc er.knotted ["knot"] [d20], .exc er.toomany ["count"] [d21]]
theorem errs_at (er : ErrA) (d0 d1 d2 d3 d4 d5 d6 d7 d8 d9 d10 d11 d12 d13 d14 d15 d16 d17 d18 d19 d20 d21 : D) (k : Nat) (hk : k < 22) : ∃ (C : Addr) (f : Str) (d : D), (errsL er d0 d1 d2 d3 d4 d5 d6 d7 d8 d9 d10 d11 d12 d13 d14 d15 d16 d17 d18 d19 d20 d21)[k]? = some (.exc C [f] [d]) ∧ (clsAt er)[k]? = some C ∧ fldAt[k]? = some f ∧ ([d0, d1, d2, d3, d4, d5, d6, d7, d8, d9, d10, d11, d12, d13, d14, d15, d16, d17, d18, d19, d20, d21] : List D)[k]? = some d := by
  rcases (show k = 0 ∨ k = 1 ∨ k = 2 ∨ k = 3 ∨ k = 4 ∨ k = 5 ∨ k = 6 ∨ k = 7 ∨ k = 8 ∨ k = 9 ∨ k = 10 ∨ k = 11 ∨ k = 12 ∨ k = 13 ∨ k = 14 ∨ k = 15 ∨ k = 16 ∨ k = 17 ∨ k = 18 ∨ k = 19 ∨ k = 20 ∨ k = 21 by omega) with rfl | rfl | rfl | rfl | rfl | rfl | rfl | rfl | rfl | rfl | rfl | rfl | rfl | rfl | rfl | rfl | rfl | rfl | rfl | rfl | rfl | rfl <;> exact ⟨_, _, _, rfl, rfl, rfl, rfl⟩
theorem len22 {xs : List D} (h : xs.length = 22) : ∃ d0 d1 d2 d3 d4 d5 d6 d7 d8 d9 d10 d11 d12 d13 d14 d15 d16 d17 d18 d19 d20 d21 : D, xs = [d0, d1, d2, d3, d4, d5, d6, d7, d8, d9, d10, d11, d12, d13, d14, d15, d16, d17, d18, d19, d20, d21] := by
  match xs, h with
  | [d0, d1, d2, d3, d4, d5, d6, d7, d8, d9, d10, d11, d12, d13, d14, d15, d16, d17, d18, d19, d20, d21], _ => exact ⟨d0, d1, d2, d3, d4, d5, d6, d7, d8, d9, d10, d11, d12, d13, d14, d15, d16, d17, d18, d19, d20, d21, rfl⟩
def spErrR : SpD := fun ds O Q _ => ∃ (a : Addr) (n : Nat), ds = [.raw (.ref a)] ∧ Bx a n O ∧ n + 100 ≤ 1000000 ∧ ∀ O', Bx a (n + 88) O' → Q (.bl true) O'
theorem fld_given {x : Nat} {f : Str} (h : x < 20) (e : fldAt[x]? = some f) : f = "given" := by
  unfold fldAt at e
  rw [List.getElem?_append_left (by rw [List.length_replicate]; exact h), List.getElem?_replicate, if_pos h] at e
  exact (Option.some.inj e).symm
theorem kinds_eq (k : Nat) : ((List.range 22).map fun j : Nat => ((j : Int) == (k : Int))) = kinds k := by
  unfold kinds
  refine List.map_congr_left fun j _ => ?_
  by_cases h : j = k
  · subst h; rw [beq_self_eq_true, decide_eq_true rfl]
  · rw [decide_eq_false h]
    exact beq_false_of_ne fun z => h (by omega)
theorem ok_errors_right {M : Mo} {er : ErrA} {E : Addr} {f : Addr} {fd : FuncData} (B : Blt M) (Er : Errs M er) (Kn : Kin M er) (K2 : Kin2 M er E) (h_given : DefD M "_law_given" (topS 63) ["box", "way"] 2 spGiven) (h_kept : DefD M "_law_kept" (topS 64) ["kept", "value"] 6 spKept) (h_first : DefD M "_law_first" (topS 65) ["v"] 3 (spFirst er)) (h_second : DefD M "_law_second" (topS 66) ["v"] 3 (spFirst er)) (h_kinds : DefD M "_law_kinds" (topS 67) ["error"] 1 (spKinds er))
    (hm : M.mg "_law_errors_right" = some (.ref f)) (Fn : Fun M.K "_law_errors_right" "_law_errors_right" (topS 68) f fd) : DefD M "_law_errors_right" (topS 68) ["box"] 7 spErrR := by
  refine def_ok (N := ["box", "v", "w", "first", "second", "k", "error", "value", "kept", "at"]) hm Fn ⟨rfl, rfl, rfl, by decide +kernel, rfl, by decide +kernel, by decide +kernel⟩ (fun _ _ _ _ _ _ us hl => match us, hl with | [_], _ => rfl) (fun ds O Q E ⟨_, _, e, _⟩ => by rw [e]; rfl) fun F ds O Qd Ed ⟨a, n, e, hb, hn, q⟩ => ?_
  subst e
  repeat walk_at "dl"
  refine ⟨by decide, by decide, ?_⟩
  refine lc_stateA (List.range 22) (fun i : Nat => D.int (i : Int)) (fun i acc O' => acc.length = i ∧ Bx a (n + 2 * i) O' ∧ ∀ d ∈ acc, Giv a 3 O' d) (by decide) ⟨rfl, hb, fun d hd => nomatch hd⟩ (fun i acc O' _ w => by rw [w.1]; exact Nat.le_refl _) (fun F0 i x acc O' hi hx w => ?_) fun vs O1 ⟨l1, b1, g1⟩ => ?_
  · obtain ⟨w1, w2, w3⟩ := w
    rw [List.length_range] at hi
    repeat walk_at "dl"
    refine ⟨a, x, n + 2 * i, rfl, w2, by omega, fun d O2 gd b2 gr => ⟨by rw [List.length_append, w1]; rfl, b2.le (by omega), fun e he => ?_⟩⟩
    rcases List.mem_append.mp he with h | h
    · exact (w3 e h).mono gr (Nat.le_refl _)
    · rw [List.mem_singleton.mp h]; exact gd
  rw [List.length_range] at l1 b1
  repeat walk_at "dl"
  refine ⟨by decide, by decide, ?_⟩
  refine lc_stateA (List.range 22) (fun i : Nat => D.int (i : Int)) (fun i acc O' => acc.length = i ∧ Bx a (n + 44 + 2 * i) O' ∧ (∀ d ∈ vs, Giv a 3 O' d) ∧ ∀ d ∈ acc, Giv a 3 O' d) (by decide) ⟨rfl, b1, g1, fun d hd => nomatch hd⟩ (fun i acc O' _ w => by rw [w.1]; exact Nat.le_refl _) (fun F0 i x acc O' hi hx w => ?_) fun ws O2 ⟨l2, b2, g2, g3⟩ => ?_
  · obtain ⟨w1, w2, w3, w4⟩ := w
    rw [List.length_range] at hi
    repeat walk_at "dl"
    refine ⟨a, x + 5, n + 44 + 2 * i, rfl, w2, by omega, fun d O2 gd b2 gr => ⟨by rw [List.length_append, w1]; rfl, b2.le (by omega), fun e he => (w3 e he).mono gr (Nat.le_refl _), fun e he => ?_⟩⟩
    rcases List.mem_append.mp he with h | h
    · exact (w4 e h).mono gr (Nat.le_refl _)
    · rw [List.mem_singleton.mp h]; exact gd
  rw [List.length_range] at l2 b2
  obtain ⟨d0, d1, d2, d3, d4, d5, d6, d7, d8, d9, d10, d11, d12, d13, d14, d15, d16, d17, d18, d19, d20, d21, rfl⟩ := len22 l1
  obtain ⟨e0, e1, e2, e3, e4, e5, e6, e7, e8, e9, e10, e11, e12, e13, e14, e15, e16, e17, e18, e19, e20, e21, rfl⟩ := len22 l2
  repeat walk_at "dl"
  refine ⟨d0, d1, d2, d3, d4, d5, d6, d7, d8, d9, d10, d11, d12, d13, d14, d15, d16, d17, d18, d19, d20, d21, rfl, ?_⟩
  repeat walk_at "dl"
  refine we_mkx Er.knotted (Nat.le_of_ble_eq_true rfl) rfl rfl ?_
  repeat walk_at "dl"
  refine we_mkx Er.toomany (Nat.le_of_ble_eq_true rfl) rfl rfl ?_
  repeat walk_at "dl"
  refine q_addl (Nat.le_of_ble_eq_true rfl) ?_
  repeat walk_at "dl"
  refine ⟨e0, e1, e2, e3, e4, e5, e6, e7, e8, e9, e10, e11, e12, e13, e14, e15, e16, e17, e18, e19, e20, e21, rfl, ?_⟩
  repeat walk_at "dl"
  refine we_mkxK Er.knotted (Nat.le_of_ble_eq_true rfl) rfl rfl ?_
  repeat walk_at "dl"
  refine we_mkxK Er.toomany (Nat.le_of_ble_eq_true rfl) rfl rfl ?_
  repeat walk_at "dl"
  refine q_addl (Nat.le_of_ble_eq_true rfl) ?_
  repeat walk_at "dl"
  have at1 := errs_at er d0 d1 d2 d3 d4 d5 d6 d7 d8 d9 d10 d11 d12 d13 d14 d15 d16 d17 d18 d19 d20 d21
  have at2 := errs_at er e0 e1 e2 e3 e4 e5 e6 e7 e8 e9 e10 e11 e12 e13 e14 e15 e16 e17 e18 e19 e20 e21
  have b2 : Bx a (n + 88) O2 := b2.le (by omega)
  obtain ⟨L1, hL1⟩ : ∃ L, L = errsL er d0 d1 d2 d3 d4 d5 d6 d7 d8 d9 d10 d11 d12 d13 d14 d15 d16 d17 d18 d19 d20 d21 := ⟨_, rfl⟩
  obtain ⟨L2, hL2⟩ : ∃ L, L = errsL er e0 e1 e2 e3 e4 e5 e6 e7 e8 e9 e10 e11 e12 e13 e14 e15 e16 e17 e18 e19 e20 e21 := ⟨_, rfl⟩
  obtain ⟨V, hV⟩ : ∃ L : List D, L = [d0, d1, d2, d3, d4, d5, d6, d7, d8, d9, d10, d11, d12, d13, d14, d15, d16, d17, d18, d19, d20, d21] := ⟨_, rfl⟩
  obtain ⟨W, hW⟩ : ∃ L : List D, L = [e0, e1, e2, e3, e4, e5, e6, e7, e8, e9, e10, e11, e12, e13, e14, e15, e16, e17, e18, e19, e20, e21] := ⟨_, rfl⟩
  rw [← hL1, ← hV] at at1
  rw [← hL2, ← hW] at at2
  rw [← hV] at g2
  rw [← hW] at g3
  refine ws_forI rfl ?_
  repeat walk_at "dl"
  refine ⟨by decide, by decide, ?_⟩
  refine for_stateA (List.range 22) (fun i : Nat => D.int (i : Int)) (fun i ρ' O' => ∃ x1 x2 x3 x4 x5, ρ' = [some (.raw (.ref a)), some (.lst V), some (.lst W), some (.lst L1), some (.lst L2), x1, x2, x3, x4, x5] ∧ Bx a (n + 88) O' ∧ (∀ d ∈ V, Giv a (3 + 2 * i) O' d) ∧ ∀ d ∈ W, Giv a (3 + 2 * i) O' d)
    ⟨none, none, none, none, none, by rw [hV, hW, hL1, hL2]; rfl, b2, g2, g3⟩ (fun i x ρ' O' hi hx w => ?_) fun ρ' O' w => ?_
  · rw [List.length_range] at hi
    have hxi : x = i := by
      rw [List.getElem?_range hi] at hx
      exact (Option.some.inj hx).symm
    subst hxi
    obtain ⟨x1, x2, x3, x4, x5, rfl, c1, c2, c3⟩ := w
    obtain ⟨C, fl, d, k1, k2, k3, k4⟩ := at1 x hi
    obtain ⟨C', fl', d', k1', k2', k3', k4'⟩ := at2 x hi
    rw [k2] at k2'
    cases k2'
    rw [k3] at k3'
    cases k3'
    repeat walk_at "dl"
    refine ws_forI rfl ?_
    refine pi_ls ?_
    repeat walk_at "dl"
    refine q_ixl (at_nat rfl k1) ?_
    repeat walk_at "dl"
    refine q_ixl (at_nat rfl k4) ?_
    repeat walk_at "dl"
    refine q_ixl (at_nat rfl k1') ?_
    repeat walk_at "dl"
    refine q_ixl (at_nat rfl k4') ?_
    repeat walk_at "dl"
    refine ⟨_, .inl rfl, for_stateD _ (fun j ρ' O' => ∃ x2 x3 x4 x5, ρ' = [some (.raw (.ref a)), some (.lst V), some (.lst W), some (.lst L1), some (.lst L2), some (.int (x : Int)), x2, x3, x4, x5] ∧ Bx a (n + 88) O' ∧ (∀ d ∈ V, Giv a (3 + 2 * x + j) O' d) ∧ ∀ d ∈ W, Giv a (3 + 2 * x + j) O' d)
      ⟨_, _, _, _, rfl, c1, c2, c3⟩ (fun j y ρ' O' hj hy w => ?_) fun ρ' O' w => ?_⟩
    · obtain ⟨x2, x3, x4, x5, rfl, c1, c2, c3⟩ := w
      have hj : j < 2 := hj
      obtain ⟨z, rfl, hz⟩ : ∃ z, y = .tup [.exc C [fl] [z], z] ∧ Giv a (3 + 2 * x + j) O' z := by
        rcases (show j = 0 ∨ j = 1 by omega) with rfl | rfl
        · cases hy; exact ⟨d, rfl, c2 d (List.mem_of_getElem? k4)⟩
        · cases hy; exact ⟨d', rfl, c3 d' (List.mem_of_getElem? k4')⟩
      repeat walk_at "dl"
      refine we_cls rfl K2.e ?_
      refine ⟨_, _, rfl, Kn.is x C k2, K2.even x C k2, ?_⟩
      repeat walk_at "dl"
      refine we_bltn (u := .type "ValueError") (v := .ty "ValueError") rfl K2.v PyProof.Rows.Boot.«ValueError» rfl ?_
      refine ⟨_, _, rfl, Kn.is x C k2, K2.value x C k2, ?_⟩
      repeat walk_at "dl"
      refine ⟨x, C, fl, z, rfl, k2, ?_⟩
      repeat walk_at "dl"
      refine ⟨by decide, by decide, ?_⟩
      refine lc_mapA (List.range 22) (fun i : Nat => D.int (i : Int)) (fun j : Nat => .bl ((j : Int) == (x : Int))) (by decide) (fun F0 u hu => ?_) ?_
      · repeat walk_at "dl"
        exact ⟨rfl, rfl⟩
      have ek : ((List.range 22).map fun j : Nat => D.bl ((j : Int) == (x : Int))) = (kinds x).map D.bl := by
        rw [← kinds_eq, List.map_map]; rfl
      rw [ek]
      repeat walk_at "dl"
      refine q_ned (Lay.le (lay_lst (n := 0) lays_bls) (by decide)) (Lay.le (lay_lst (n := 0) lays_bls) (by decide)) ?_
      rw [eqD_lst, eqDs_bls, decide_eq_true rfl]
      repeat walk_at "dl"
      have fld : ∀ {nm : Str}, fl = nm → ([fl].zip [z]).lookup nm = some z := fun e => by rw [← e]; show List.lookup fl [(fl, z)] = some z; simp [List.lookup]
      refine we_both z (fun h => ?_) (fun h => ?_) ?_
      · have h : x < 20 := by have := of_decide_eq_true h; omega
        have ef := fld_given h k3
        repeat walk_at "dl"
        exact ⟨C, [fl], [z], z, rfl, K2.rd x C k2, ef ▸ K2.no x C fl k2 k3, fld ef, rfl, rfl⟩
      · have h : ¬ x < 20 := fun w => of_decide_eq_false h (by omega)
        repeat walk_at "dl"
        refine if2 (fun h2 => ?_) (fun h2 => ?_)
        · have h2 : x = 20 := by have := eq_of_beq h2; omega
          subst h2
          have ef : fl = "knot" := (Option.some.inj k3).symm
          repeat walk_at "dl"
          exact ⟨C, [fl], [z], z, rfl, K2.rd 20 C k2, ef ▸ K2.no 20 C fl k2 k3, fld ef, rfl, rfl⟩
        · have h2 : x = 21 := by
            rcases Nat.lt_or_ge x 21 with w | w
            · have w : x = 20 := by omega
              subst w; cases h2
            · omega
          subst h2
          have ef : fl = "count" := (Option.some.inj k3).symm
          repeat walk_at "dl"
          exact ⟨C, [fl], [z], z, rfl, K2.rd 21 C k2, ef ▸ K2.no 21 C fl k2 k3, fld ef, rfl, rfl⟩
      repeat walk_at "dl"
      refine ⟨a, 3 + 2 * x + j, z, rfl, hz, by omega, fun O2 u1 u2 => ?_⟩
      repeat walk_at "dl"
      refine ⟨_, _, _, _, rfl, ?_, fun d hd => u1 d (c2 d hd), fun d hd => u1 d (c3 d hd)⟩
      obtain ⟨L, l1, l2⟩ := c1
      exact ⟨L, by rw [u2]; exact l1, l2⟩
    · obtain ⟨x2, x3, x4, x5, rfl, c1, c2, c3⟩ := w
      refine wss_nil ⟨_, _, _, _, _, rfl, c1, fun d hd => (c2 d hd).mono Grow.refl (Nat.le_refl _), fun d hd => (c3 d hd).mono Grow.refl (Nat.le_refl _)⟩
  · obtain ⟨x1, x2, x3, x4, x5, rfl, c1, c2, c3⟩ := w
    repeat walk_at "dl"
    exact q O' c1
end
section
open PySem PySem.Spec PyProof.Rows L2 DL PySem.NumText
theorem ok_law_low {M : Mo} {f : Addr} {fd : FuncData} (B : Blt M) (hm : M.mg "_law_low" = some (.ref f)) (Fn : Fun M.K "_law_low" "_law_low" (topS 69) f fd) : DefD M "_law_low" (topS 69) ["top", "base"] 1 spLow := by
  refine def_ok (N := ["top", "base", "a", "b"]) hm Fn ⟨rfl, rfl, rfl, by decide +kernel, rfl, by decide +kernel, by decide +kernel⟩ (fun _ _ _ _ _ _ us hl => match us, hl with | [_, _], _ => rfl) (fun ds O Q E ⟨_, _, e, _⟩ => by rw [e]; rfl) fun F ds O Qd Ed ⟨t, b, e, hb, sb, q⟩ => ?_
  subst e
  repeat walk_at "dl"
  refine ws_while (fun n ρ' O' => ∃ x y : Nat, ρ' = [some (.int t), some (.int b), some (.int (x : Int)), some (.int (y : Int))] ∧ O' = O ∧ y = n ∧ Nat.gcd x y = gI t b) b.natAbs ⟨t.natAbs, b.natAbs, by rw [abs_nat]; rw [show startD ["top", "base", "a", "b"] [D.int t, D.int b] = [some (.int t), some (.int b), none, none] from rfl]; show [some (D.int t), some (D.int b), some (D.int ((t.natAbs : Nat) : Int)), some (D.int b)] = _; rw [← nat_of (b := b) (by omega)], rfl, rfl, rfl⟩ fun n ρ' O' ⟨x, y, e1, e2, e3, e4⟩ => ?_
  subst e1 e2 e3
  repeat walk_at "dl"
  refine if2 (fun h => ?_) (fun h => ?_)
  · have hy : 0 < y := by
      rcases Nat.eq_zero_or_pos y with z | z
      · subst z; exact absurd h (by decide)
      · exact z
    repeat walk_at "dl"
    refine q_modi (by omega) ?_
    repeat walk_at "dl"
    refine ⟨x % y, Nat.mod_lt x hy, y, x % y, rfl, rfl, rfl, ?_⟩
    rw [← e4, Nat.gcd_comm x y, Nat.gcd_rec y x, Nat.gcd_comm]
  · have hy : y = 0 := by
      have h : (!((y : Int) == 0)) = false := h
      have h2 : ((y : Int) == 0) = true := by simpa using h
      have h3 : (y : Int) = 0 := by simpa using h2
      omega
    subst hy
    rw [Nat.gcd_zero_right] at e4
    subst e4
    repeat walk_at "dl"
    refine q_divi (div_ok hb sb t) ?_
    repeat walk_at "dl"
    refine q_divi (div_ok hb sb b) ?_
    repeat walk_at "dl"
    exact q
/-! ### what low gives is a fraction -/
theorem low_facts {t b : Int} (hb : 1 ≤ b) : isFrac (fr (lowI t b)) = true ∧ 1 ≤ (lowI t b).2 ∧ (lowI t b).1.natAbs ≤ t.natAbs ∧ (lowI t b).2.natAbs ≤ b.natAbs := by
  have hg := gI_pos (t := t) hb
  have d1 : ((gI t b : Nat) : Int) ∣ t := by
    rw [← Int.natAbs_dvd_natAbs, Int.natAbs_natCast]
    exact Nat.gcd_dvd_left _ _
  have d2 : ((gI t b : Nat) : Int) ∣ b := by
    rw [← Int.natAbs_dvd_natAbs, Int.natAbs_natCast]
    exact Nat.gcd_dvd_right _ _
  have n1 : (t / (gI t b : Int)).natAbs = t.natAbs / gI t b := by
    rw [Int.natAbs_ediv_of_dvd d1, Int.natAbs_natCast]
  have n2 : (b / (gI t b : Int)).natAbs = b.natAbs / gI t b := by
    rw [Int.natAbs_ediv_of_dvd d2, Int.natAbs_natCast]
  have pos : 1 ≤ b / (gI t b : Int) := by
    have h1 : ((gI t b : Nat) : Int) ≤ b := by
      have := gI_le (t := t) hb
      omega
    have h2 := Int.ediv_le_ediv (c := (gI t b : Int)) (by omega) h1
    rw [Int.ediv_self (by omega)] at h2
    exact h2
  refine ⟨?_, pos, ?_, ?_⟩
  · show (decide (1 ≤ b / (gI t b : Int)) && (gI (t / (gI t b : Int)) (b / (gI t b : Int)) == 1)) = true
    rw [decide_eq_true pos, Bool.true_and]
    have : gI (t / (gI t b : Int)) (b / (gI t b : Int)) = 1 := by
      show Nat.gcd (t / (gI t b : Int)).natAbs (b / (gI t b : Int)).natAbs = 1
      rw [n1, n2]
      unfold gI
      rw [Nat.gcd_div (Nat.gcd_dvd_left _ _) (Nat.gcd_dvd_right _ _)]
      exact Nat.div_self hg
    rw [this]; rfl
  · show (t / (gI t b : Int)).natAbs ≤ _
    rw [n1]; exact Nat.div_le_self _ _
  · show (b / (gI t b : Int)).natAbs ≤ _
    rw [n2]; exact Nat.div_le_self _ _
end
/-! K0P: plain laws: numbers and fractions as texts, read back. -/
section
open PySem PySem.Spec PyProof.Rows L2 DL PySem.NumText
theorem str_ext {x y : Str} (h : x.cps.toList = y.cps.toList) : x = y := by
  cases x; cases y
  have : ∀ {a b : Array Nat}, a.toList = b.toList → a = b := fun h => Array.toList_inj.mp h
  exact congrArg _ (this h)
theorem toL_app {x y : Str} : (x ++ y).cps.toList = x.cps.toList ++ y.cps.toList := by
  show (x.cps ++ y.cps).toList = _
  rw [Array.toList_append]
def num (n : Nat) : Str := Str.ofString (toString (n : Int))
theorem num_toL (n : Nat) : (num n).cps.toList = TL.numL n := TL.tl_num n
theorem numL_head {n : Nat} (h : 1 ≤ n) : ¬ (TL.numL n).head? = some 48 := by
  induction n using Nat.strongRecOn with
  | _ n ih =>
    by_cases k : n < 10
    · rw [TL.numL_lt k]
      intro e
      have e : 48 + n = 48 := Option.some.inj e
      omega
    · rw [TL.numL_step (by omega)]
      have h2 := ih (n / 10) (by omega) (by omega)
      cases hl : TL.numL (n / 10) with
      | nil => exact absurd hl (TL.numL_ne _)
      | cons c r => rw [hl] at h2; exact h2
theorem cnt_num {n : Nat} (h : n < 10 ^ 20) : cntO (num n) = some n := by
  have hl : (num n).length = (TL.numL n).length := by rw [len_cps, num_toL]
  have l1 : 1 ≤ (TL.numL n).length := by
    cases hc : TL.numL n with
    | nil => exact absurd hc (TL.numL_ne n)
    | cons _ _ => exact Nat.succ_le_succ (Nat.zero_le _)
  have l2 := TL.numL_len (n := n) (k := 20) (by decide) h
  have f1 : fits20 (num n) = true := by unfold fits20; rw [hl, decide_eq_true l1, decide_eq_true l2]; rfl
  have f2 : allDig (num n) = true := by
    unfold allDig
    rw [num_toL]
    exact List.all_eq_true.mpr fun c hc => digB_iff.mpr (TL.numL_digits n c hc)
  have f3 : lead (num n) = true := by
    unfold lead
    rcases Nat.eq_zero_or_pos n with z | z
    · subst z
      rw [show num 0 = Str.ofString "0" from by decide +kernel, beq_self_eq_true]; rfl
    · rw [num_toL]
      have := numL_head z
      rw [show ((TL.numL n).head? == some 48) = false from beq_false_of_ne this]
      simp
  unfold cntO
  rw [f1, f2, f3, if_pos (by rfl), num_toL, TL.numL_val]
/-! ### partition at a sign, a text's start -/
theorem part_none {x : Str} (h : 47 ∉ x.cps.toList) : Txt.partition x slash = (x, Str.empty, Str.empty) := by
  have e : slash = ⟨#[47]⟩ := by decide +kernel
  unfold Txt.partition
  rcases PySem.StrLaws.occ_head x slash 1 (Nat.le_refl _) with ⟨h1, _⟩ | ⟨i, r, h1, h2, _⟩
  · rw [h1]
  · rw [e] at h2
    have := (PySem.StrLaws.subAt_one x 47 i).mp h2
    exact absurd (List.mem_of_getElem? this) h
theorem part_at {x u v : Str} (hx : x.cps.toList = u.cps.toList ++ (47 :: v.cps.toList)) (hu : 47 ∉ u.cps.toList) : Txt.partition x slash = (u, slash, v) := by
  have e : slash = ⟨#[47]⟩ := by decide +kernel
  have at_ : x.cps.toList[u.cps.toList.length]? = some 47 := by rw [hx, List.getElem?_append_right (Nat.le_refl _), Nat.sub_self]; rfl
  have nat : ∀ k, k < u.cps.toList.length → x.cps.toList[k]? ≠ some 47 := fun k hk z => by
    rw [hx, List.getElem?_append_left hk] at z
    exact hu (List.mem_of_getElem? z)
  unfold Txt.partition
  rcases PySem.StrLaws.occ_head x slash 1 (Nat.le_refl _) with ⟨_, h2⟩ | ⟨i, r, h1, h2, h3⟩
  · rw [e] at h2
    exact absurd ((PySem.StrLaws.subAt_one x 47 _).mpr at_) (h2 _)
  · rw [h1]
    rw [e] at h2 h3
    have g2 := (PySem.StrLaws.subAt_one x 47 i).mp h2
    have ei : i = u.cps.toList.length := by
      rcases Nat.lt_trichotomy i u.cps.toList.length with w | w | w
      · exact absurd g2 (nat i w)
      · exact w
      · exact absurd ((PySem.StrLaws.subAt_one x 47 _).mpr at_) (h3 _ w)
    subst ei
    have l1 : (slash : Str).length = 1 := by decide +kernel
    have lx : x.length = u.cps.toList.length + (1 + v.cps.toList.length) := by rw [len_cps, hx, List.length_append, List.length_cons]; omega
    refine Prod.ext (str_ext ?_) (Prod.ext rfl (str_ext ?_))
    · show (PySem.Builtin.Str.strSub x 0 _).cps.toList = _
      rw [PySem.StrLaws.strSub_toList, List.drop_zero, Nat.sub_zero, hx, List.take_left']
      rfl
    · show (PySem.Builtin.Str.strSub x _ _).cps.toList = _
      rw [PySem.StrLaws.strSub_toList, l1, lx, hx, List.drop_append, List.drop_of_length_le (by omega), List.nil_append, Nat.add_sub_cancel_left]
      show List.take _ v.cps.toList = _
      exact List.take_of_length_le (by omega)
theorem starts_minus (x : Str) : Txt.startswith x (Str.ofString "-") = (x.cps.toList.head? == some 45) := by
  have e : Str.ofString "-" = ⟨#[45]⟩ := by decide +kernel
  rw [e]
  have k := PySem.StrLaws.subAt_one x 45 0
  have e2 : x.cps.toList[0]? = x.cps.toList.head? := by rw [List.head?_eq_getElem?]
  rw [e2] at k
  rw [Bool.eq_iff_iff, beq_iff_eq, ← k]
  unfold Txt.startswith
  rw [Bool.and_eq_true, decide_eq_true_iff]
theorem cut_tail {x : Str} {c : Nat} {l : List Nat} (h : x.cps.toList = c :: l) : (cutS x (some 1) none).cps.toList = l := by
  have hl : x.length = l.length + 1 := by rw [len_cps, h]; rfl
  have e1 : HT.sIx x.length 0 (some 1) = 1 := by
    rw [show (1 : Int) = ((1 : Nat) : Int) from rfl, HT.sIx_nat]; omega
  unfold cutS
  rw [e1, HT.sIx_none, h, hl]
  show List.take (l.length + 1 - 1) l = l
  rw [Nat.add_sub_cancel, List.take_length]
theorem neg_toL (m : Nat) : (Str.ofString (toString (Int.negSucc m))).cps.toList = 45 :: TL.numL (m + 1) := by
  rw [PyProof.Rows.signs_ofString]
  have e : toString (Int.negSucc m) = "-" ++ Nat.repr (m + 1) := rfl
  rw [e, String.toList_append, List.map_append]
  have h := PySem.W.KIN.signs_num (m + 1)
  rw [PyProof.Rows.signs_ofString] at h
  have h : (Nat.repr (m + 1)).toList.map Char.toNat = (Nat.toDigits 10 (m + 1)).map Char.toNat := h
  rw [h]; rfl
theorem num_free {n s : Nat} (h : s < 48 ∨ 57 < s) : s ∉ (num n).cps.toList := by rw [num_toL]; exact TL.numL_free h
theorem num_head {n : Nat} : ¬ (num n).cps.toList.head? = some 45 := fun z => by
  have := List.mem_of_head? z
  exact num_free (.inl (by decide)) this
/-! ### a fraction's text read back -/
theorem pos_text {a : Int} (h : 0 ≤ a) : Str.ofString (toString a) = num a.natAbs := by
  obtain ⟨n, rfl⟩ := Int.eq_ofNat_of_zero_le h
  rfl
theorem int_toL (a : Int) : (Str.ofString (toString a)).cps.toList = (if a < 0 then 45 :: TL.numL a.natAbs else TL.numL a.natAbs) := by
  cases a with
  | ofNat n =>
    rw [if_neg (by show ¬ ((n : Nat) : Int) < 0; omega)]
    exact TL.tl_num n
  | negSucc m =>
    rw [if_pos (Int.negSucc_lt_zero m)]
    exact neg_toL m
theorem body_text {a : Int} {z r : Str} (h : z.cps.toList = (Str.ofString (toString a)).cps.toList ++ r.cps.toList) : Txt.startswith z (Str.ofString "-") = decide (a < 0) ∧ (bodyIn z).cps.toList = TL.numL a.natAbs ++ r.cps.toList := by
  have hs : Txt.startswith z (Str.ofString "-") = decide (a < 0) := by
    rw [starts_minus, h, int_toL]
    by_cases c : a < 0
    · rw [if_pos c, decide_eq_true c]; rfl
    · rw [if_neg c, decide_eq_false c]
      cases hl : TL.numL a.natAbs with
      | nil => exact absurd hl (TL.numL_ne _)
      | cons x l =>
        show (some x == some 45) = false
        refine beq_false_of_ne fun w => ?_
        have e : x = 45 := Option.some.inj w
        have := TL.numL_free (n := a.natAbs) (s := 45) (.inl (by decide))
        rw [hl, e] at this
        exact this List.mem_cons_self
  refine ⟨hs, ?_⟩
  unfold bodyIn
  by_cases c : a < 0
  · rw [hs, decide_eq_true c, if_pos rfl]
    rw [int_toL, if_pos c] at h
    exact cut_tail h
  · rw [hs, decide_eq_false c, if_neg (by decide), h, int_toL, if_neg c]
theorem frac_round {a b : Int} (hf : isFrac (fr (a, b)) = true) (ha : a.natAbs < 10 ^ 20) (hb : b.natAbs < 10 ^ 20) : fracIn (frText a b) = some (a, b) := by
  have b1 : 1 ≤ b := by
    have h : (decide (1 ≤ b) && (gI a b == 1)) = true := hf
    rw [Bool.and_eq_true, decide_eq_true_iff] at h
    exact h.1
  have sgn : (if (decide (a < 0)) = true then -((a.natAbs : Nat) : Int) else ((a.natAbs : Nat) : Int)) = a := by
    by_cases c : a < 0
    · rw [decide_eq_true c, if_pos rfl]; omega
    · rw [decide_eq_false c, if_neg (by decide)]; omega
  have nz : (decide (a < 0) && (a.natAbs == 0)) = false := by
    by_cases c : a < 0
    · have : (a.natAbs == 0) = false := beq_false_of_ne (by omega)
      rw [this, Bool.and_false]
    · rw [decide_eq_false c]; rfl
  have nb : ((b.natAbs : Nat) : Int) = b := by omega
  by_cases e1 : b = 1
  · have et : frText a b = Str.ofString (toString a) := if_pos e1
    obtain ⟨hs, hbd⟩ := body_text (a := a) (z := frText a b) (r := Str.empty) (by rw [et]; show _ = _ ++ []; rw [List.append_nil])
    have hbd : bodyIn (frText a b) = num a.natAbs := str_ext (by rw [hbd, num_toL]; exact List.append_nil _)
    have hp := part_none (x := num a.natAbs) (num_free (.inl (by decide)))
    have hba : baseIn (frText a b) = some 1 := by
      unfold baseIn
      rw [hbd, hp]
      exact if_neg (by show ¬ ((Str.empty == slash) = true); decide +kernel)
    have h0 : fracIn (frText a b) = signIn (frText a b) a.natAbs 1 := by
      unfold fracIn
      rw [hbd, hp, hba]
      show (match cntO (num a.natAbs), some 1 with | some t, some b' => signIn (frText a b) t b' | _, _ => none) = _
      rw [cnt_num ha]
    rw [h0]
    unfold signIn
    rw [hs, hbd, hp]
    dsimp only
    rw [nz, if_neg (by decide), sgn]
    have c1 : isFrac (fr (a, ((1 : Nat) : Int))) = true := by rw [show ((1 : Nat) : Int) = b from e1.symm]; exact hf
    rw [c1, show (Str.empty == Str.ofString "") = true from by decide +kernel]
    rw [e1]; rfl
  · have et : frText a b = Str.ofString (toString a) ++ Str.ofString "/" ++ Str.ofString (toString b) := if_neg e1
    have tb : Str.ofString (toString b) = num b.natAbs := pos_text (by omega)
    have l1 : (Str.ofString "/").cps.toList = [47] := by decide +kernel
    obtain ⟨hs, hbd⟩ := body_text (a := a) (z := frText a b) (r := Str.ofString "/" ++ num b.natAbs) (by rw [et, tb, toL_app, toL_app, toL_app, List.append_assoc])
    have hp := part_at (x := bodyIn (frText a b)) (u := num a.natAbs) (v := num b.natAbs) (by rw [hbd, toL_app, l1, num_toL, num_toL]; rfl) (num_free (.inl (by decide)))
    have hba : baseIn (frText a b) = some b.natAbs := by
      unfold baseIn
      rw [hp]
      show (if (slash == slash) = true then cntO (num b.natAbs) else some 1) = _
      rw [beq_self_eq_true, if_pos rfl, cnt_num hb]
    have h0 : fracIn (frText a b) = signIn (frText a b) a.natAbs b.natAbs := by
      unfold fracIn
      rw [hp, hba]
      show (match cntO (num a.natAbs), some b.natAbs with | some t, some b' => signIn (frText a b) t b' | _, _ => none) = _
      rw [cnt_num ha]
    rw [h0]
    unfold signIn
    rw [hs, hp]
    dsimp only
    rw [nz, if_neg (by decide), sgn, nb, hf, show (slash == Str.ofString "") = false from by decide +kernel, show (b == 1) = false from beq_false_of_ne e1]
    rfl
/-! ### an outcome's text read back -/
theorem cnts_nums {ns : List Int} (h : ∀ n ∈ ns, 0 ≤ n ∧ n ≤ 99) : cntsO (ns.map fun n => Str.ofString (toString n)) = some (ns.map Int.natAbs) := by
  have each : ∀ n ∈ ns, cntO (Str.ofString (toString n)) = some n.natAbs := fun n hn => by
    rw [pos_text (h n hn).1]
    exact cnt_num (by have := (h n hn).2; have := (h n hn).1; omega)
  have all_ : ((ns.map fun n => Str.ofString (toString n)).all fun w => (cntO w).isSome) = true := by
    rw [List.all_map]
    exact List.all_eq_true.mpr fun n hn => by show (cntO (Str.ofString (toString n))).isSome = true; rw [each n hn]; rfl
  unfold cntsO
  rw [if_pos all_, List.map_map]
  refine congrArg some (List.map_congr_left fun n hn => ?_)
  show (cntO (Str.ofString (toString n))).getD 0 = n.natAbs
  rw [each n hn]; rfl
theorem back_nat {ns : List Int} (h : ∀ n ∈ ns, 0 ≤ n ∧ n ≤ 99) : (ns.map Int.natAbs).map (fun n : Nat => (n : Int)) = ns := by
  rw [List.map_map]
  have : ns.map ((fun n : Nat => (n : Int)) ∘ Int.natAbs) = ns.map id := List.map_congr_left fun n hn => by
    have := (h n hn).1
    show ((n.natAbs : Nat) : Int) = n
    omega
  rw [this, List.map_id]
theorem out_round {ns : List Int} (h : ∀ n ∈ ns, 0 ≤ n ∧ n ≤ 99) (ho : isOut (.tup (ns.map .int)) = true) : outIn (Txt.split (outText (ns.map .int)) (Str.ofString " ")) = some ns := by
  have et : outText (ns.map D.int) = if (ns.map D.int).isEmpty then Str.ofString "none" else evText ns := by
    unfold outText; rw [map_intOf]
  cases ns with
  | nil =>
    have e : Txt.split (outText (([] : List Int).map D.int)) (Str.ofString " ") = [Str.ofString "none"] := by decide +kernel
    rw [e]
    exact if_pos rfl
  | cons n r =>
    have et : outText ((n :: r).map D.int) = evText (n :: r) := et
    have free : ∀ p ∈ ((n :: r).map fun n : Int => Str.ofString (toString n)), 32 ∉ TL.tl p := fun p hp => by
      obtain ⟨m, hm, rfl⟩ := List.mem_map.mp hp
      rw [pos_text (h m hm).1]
      exact num_free (.inl (by decide))
    have es : Txt.split (evText (n :: r)) (Str.ofString " ") = (n :: r).map fun n : Int => Str.ofString (toString n) := by
      unfold evText
      exact TL.split_join (s := 32) (S := []) (by decide +kernel) (by decide +kernel) (by simp) free
    rw [et, es]
    have ne : ((n :: r).map fun n : Int => Str.ofString (toString n)) ≠ [Str.ofString "none"] := fun e => by
      have e1 : Str.ofString (toString n) = Str.ofString "none" := (List.cons.inj e).1
      have e2 := congrArg (fun s : Str => s.cps.toList) e1
      have e2 : (Str.ofString (toString n)).cps.toList = (Str.ofString "none").cps.toList := e2
      rw [pos_text (h n List.mem_cons_self).1] at e2
      have : (110 : Nat) ∈ (Str.ofString "none").cps.toList := by decide +kernel
      rw [← e2] at this
      exact num_free (.inr (by decide)) this
    unfold outIn
    rw [if_neg ne, cnts_nums h]
    have eo : (D.tup (((n :: r).map Int.natAbs).map fun n : Nat => D.int (n : Int))) = .tup ((n :: r).map .int) := by
      have b := congrArg (fun l : List Int => l.map D.int) (back_nat h)
      have b : (((n :: r).map Int.natAbs).map (fun n : Nat => (n : Int))).map D.int = (n :: r).map D.int := b
      rw [List.map_map] at b
      exact congrArg D.tup b
    show (if isOut (.tup (((n :: r).map Int.natAbs).map fun n : Nat => D.int (n : Int))) = true then some (((n :: r).map Int.natAbs).map fun n : Nat => (n : Int)) else none) = _
    rw [eo, if_pos ho, back_nat h]
end
section
open PySem PySem.Spec PyProof.Rows L2 DL PySem.NumText
local macro_rules | `(tactic| walk_at "dlS") => `(tactic| ((with_reducible show WS _ (Stmt.Assign [Expr.Name _ _] (Expr.ListComp _ _ _ _) _) _ _ _); refine ws_lc rfl rfl rfl rfl rfl (by kernel_rfl) (by kernel_rfl) ?_))
/-! ### calls by keywords -/
def swp {α : Type} (_ zs : List α) : List α := match zs with
  | [a, b] => [b, a]
  | l => l
def idK {α : Type} (_ zs : List α) : List α := zs
theorem kw_swap {x : Str} {st : Stmt} {p1 p2 : Str} (to : ∀ (kV doc pm : Value) (an : Option Addr) (cdv ct a b : Value), bindArgs (PySem.W.fnOf x x (defArgs st) (defBody st) (defScope st) .none kV doc pm an cdv ct) ⟨[], [(p2, b), (p1, a)]⟩ = pure [(p1, a), (p2, b)]) : KwB x st [p1, p2] [p2, p1] 0 swp where
  to := fun kV doc pm an cdv ct us ws h1 h2 => by
    match us, ws, h1, h2 with
    | [], [b, a], _, _ => exact to kV doc pm an cdv ct a b
  rel := fun {vs us zs ws} h1 h2 h3 h4 => by
    match ws, h2, h4 with
    | [b, a], .cons r1 (.cons r2 .nil), _ => exact .cons r2 (.cons r1 .nil)
  rep := fun {K F vs ds zs es} h1 h2 h3 h4 => by
    match es, h4 with
    | [b, a], _ =>
      obtain ⟨v, w, rfl, r1, r2⟩ := reps2 h2
      exact Reps.cons r2 (Reps.cons r1 Reps.nil)
theorem kw_one {x : Str} {st : Stmt} {p1 : Str} (to : ∀ (kV doc pm : Value) (an : Option Addr) (cdv ct a : Value), bindArgs (PySem.W.fnOf x x (defArgs st) (defBody st) (defScope st) .none kV doc pm an cdv ct) ⟨[], [(p1, a)]⟩ = pure [(p1, a)]) : KwB x st [p1] [p1] 0 idK where
  to := fun kV doc pm an cdv ct us ws h1 h2 => by
    match us, ws, h1, h2 with
    | [], [a], _, _ => exact to kV doc pm an cdv ct a
  rel := fun _ h2 _ _ => h2
  rep := fun _ h2 _ _ => h2
theorem kw_lowest : KwB "lowest" (topS 47) ["top", "base"] ["base", "top"] 0 swp := kw_swap fun _ _ _ _ _ _ _ _ => rfl
theorem kw_plus : KwB "plus" (topS 50) ["one", "other"] ["other", "one"] 0 swp := kw_swap fun _ _ _ _ _ _ _ _ => rfl
theorem kw_minus : KwB "minus" (topS 51) ["one", "other"] ["other", "one"] 0 swp := kw_swap fun _ _ _ _ _ _ _ _ => rfl
theorem kw_times : KwB "times" (topS 52) ["one", "other"] ["other", "one"] 0 swp := kw_swap fun _ _ _ _ _ _ _ _ => rfl
theorem kw_compared : KwB "compared" (topS 53) ["one", "other"] ["other", "one"] 0 swp := kw_swap fun _ _ _ _ _ _ _ _ => rfl
theorem kw_fraction_text : KwB "fraction_text" (topS 54) ["fraction"] ["fraction"] 0 idK := kw_one fun _ _ _ _ _ _ _ => rfl
theorem kw_read_fraction : KwB "read_fraction" (topS 56) ["text"] ["text"] 0 idK := kw_one fun _ _ _ _ _ _ _ => rfl
theorem kw_is_fraction : KwB "is_fraction" (topS 45) ["value"] ["value"] 0 idK := kw_one fun _ _ _ _ _ _ _ => rfl
theorem kw_outcome_text : KwB "outcome_text" (topS 42) ["outcome"] ["outcome"] 0 idK := kw_one fun _ _ _ _ _ _ _ => rfl
theorem kw_read_outcome : KwB "read_outcome" (topS 44) ["text"] ["text"] 0 idK := kw_one fun _ _ _ _ _ _ _ => rfl
theorem kw_is_outcome : KwB "is_outcome" (topS 40) ["value"] ["value"] 0 idK := kw_one fun _ _ _ _ _ _ _ => rfl
/-! ### the law's fractions -/
abbrev NF : List Str := ["box", "named", "tops", "bases", "one", "other", "told", "a", "b", "c", "d", "due", "text", "value", "k", "x"]
/-- a pair of the law: a fraction, small -/
def FrS (a b : Int) : Prop := isFrac (fr (a, b)) = true ∧ 1 ≤ b ∧ a.natAbs < 10 ^ 19 ∧ b.natAbs < 10 ^ 19
theorem FrS.of {t b : Int} (hb : 1 ≤ b) (ht : t.natAbs < 10 ^ 19) (hb2 : b.natAbs < 10 ^ 19) : FrS (lowI t b).1 (lowI t b).2 := by
  obtain ⟨h1, h2, h3, h4⟩ := low_facts (t := t) hb
  exact ⟨h1, h2, Nat.lt_of_le_of_lt h3 ht, Nat.lt_of_le_of_lt h4 hb2⟩
theorem small9 {a : Int} (h : a.natAbs < 10 ^ 19) : Sm9 a := Nat.lt_of_lt_of_le h (Nat.le_trans (by decide : 10 ^ 19 ≤ 2 ^ 64) (Nat.pow_le_pow_right (by decide) (by decide)))
theorem small20 {a : Int} (h : a.natAbs < 10 ^ 19) : Sm a := Nat.lt_of_lt_of_le h (Nat.le_trans (by decide : 10 ^ 19 ≤ 2 ^ 64) (Nat.pow_le_pow_right (by decide) (by decide)))
theorem ask_fr {O : Opens} (a b : Int) : AskFr O (.tup [.int a, .int b]) := ⟨⟨_, rfl⟩, fun x y e => by cases e; exact ⟨⟨_, rfl⟩, _, rfl⟩⟩
def spFrR : SpD := fun ds O Q _ => ∃ (a : Addr) (nm : Bool) (n : Nat), ds = [.raw (.ref a), .bl nm] ∧ Bx a n O ∧ n + 100 ≤ 1000000 ∧ ∀ O', Bx a (n + 13) O' → Q (.bl true) O'
theorem pick2 {x y : D} {r : Int} (h0 : 0 ≤ r) (h1 : r < 2) : atI [x, y] r = some x ∨ atI [x, y] r = some y := by
  rcases (show r = 0 ∨ r = 1 by omega) with rfl | rfl
  · exact .inl rfl
  · exact .inr rfl
theorem bin_sp {er : ErrA} {g : Int → Int → Int → Int → D} {O : Opens} {Q : DK} {E : XD → Opens → Prop} {a b c d : Int} (h1 : FrS a b) (h2 : FrS c d) (q : Q (g a b c d) O) : spBin er g [.tup [.int a, .int b], .tup [.int c, .int d]] O Q E :=
  ⟨_, _, rfl, ask_fr a b, ask_fr c d, fun a' b' c' d' e1 e2 _ _ => by cases e1; cases e2; exact ⟨small9 h1.2.2.1, small9 h1.2.2.2, small9 h2.2.2.1, small9 h2.2.2.2, q⟩, fun z => (Bool.noConfusion ((show isFrac (.tup [.int a, .int b]) = true from h1.1).symm.trans z)), fun _ z => (Bool.noConfusion ((show isFrac (.tup [.int c, .int d]) = true from h2.1).symm.trans z))⟩
theorem lowest_sp {er : ErrA} {O : Opens} {Q : DK} {E : XD → Opens → Prop} {t b : Int} (hb : 1 ≤ b) (hs : b.natAbs < 10 ^ 19) (q : Q (fr (lowI t b)) O) : spLowest er [.int t, .int b] O Q E :=
  ⟨_, _, rfl, ⟨_, rfl⟩, ⟨_, rfl⟩, fun t' b' e1 e2 h => by cases e1; cases e2; exact ⟨small20 hs, q⟩, fun z => (nomatch z), fun _ z => by rw [show isBase (.int b) = decide (1 ≤ b) from rfl, decide_eq_true hb] at z; cases z⟩
local macro_rules | `(tactic| walk_at "dl") => `(tactic| ((with_reducible show WK _ _ _ _ _); first | refine wk_cons ?_ | refine wk_nil ?_))
def toldL (a b c d : Int) : List D := [.tup [.int a, .int b], plusI a b c d, minusI a b c d, timesI a b c d, comparedI a b c d]
structure FrDefs (M : Mo) (er : ErrA) : Prop where
  lowest : DefD M "lowest" (topS 47) ["top", "base"] 3 (spLowest er)
  plus : DefD M "plus" (topS 50) ["one", "other"] 5 (spBin er plusI)
  minus : DefD M "minus" (topS 51) ["one", "other"] 5 (spBin er minusI)
  times : DefD M "times" (topS 52) ["one", "other"] 5 (spBin er timesI)
  compared : DefD M "compared" (topS 53) ["one", "other"] 5 (spBin er comparedI)
  ftext : DefD M "fraction_text" (topS 54) ["fraction"] 4 (spFrText er)
  fread : DefD M "read_fraction" (topS 56) ["text"] 4 (spReadFr er)
  isfr : DefD M "is_fraction" (topS 45) ["value"] 2 spFrac
  same : DefD M "_law_same" (topS 62) ["told", "due"] 5 (spSame 4)
  low : DefD M "_law_low" (topS 69) ["top", "base"] 1 spLow
abbrev ρF (a : Addr) (nm : Bool) (t0 t1 c0 c1 : Int) (one other told : Option D) (r : List (Option D)) : Env' := some (.raw (.ref a)) :: some (.bl nm) :: some (.lst [.int t0, .int t1]) :: some (.lst [.int c0, .int c1]) :: one :: other :: told :: r
theorem frac_rest {M : Mo} {er : ErrA} {F : DL.Fr} {Ed : XD → Opens → Prop} {Qd : DK} {O : Opens} {ad : Addr} {nm : Bool} {t0 t1 c0 c1 a b c d : Int} {n : Nat} (B : Blt M) (Df : FrDefs M er) (hc0 : 1 ≤ c0) (hs0 : c0.natAbs < 10 ^ 19) (e0 : lowI t0 c0 = (a, b)) (h1 : FrS a b) (h2 : FrS c d) (hb : Bx ad n O)
    (rest2 : ∀ O', Bx ad n O' → WSs (bodyG M NF (defScope (topS 70)) 7 F Ed) ((defBody (topS 70)).drop 6) (ρF ad nm t0 t1 c0 c1 (some (.tup [.int a, .int b])) (some (.tup [.int c, .int d])) (some (.lst (toldL a b c d))) [none, none, none, none, none, none, none, none, none]) O' { nx := fun _ O' => Qd .non O', rt := Qd }) :
    WSs (bodyG M NF (defScope (topS 70)) 7 F Ed) ((defBody (topS 70)).drop 4) (ρF ad nm t0 t1 c0 c1 (some (.tup [.int a, .int b])) (some (.tup [.int c, .int d])) none [none, none, none, none, none, none, none, none, none]) O { nx := fun _ O' => Qd .non O', rt := Qd } := by
  obtain ⟨g1, g2, g3, g4, g5, _, _, _, _, _⟩ := Df
  have ef : fr (lowI t0 c0) = .tup [.int a, .int b] := by rw [e0]; rfl
  repeat walk_at "dl"
  refine lowest_sp hc0 hs0 ?_
  rw [ef]
  repeat walk_at "dl"
  refine bin_sp h1 h2 ?_
  repeat walk_at "dl"
  refine bin_sp h1 h2 ?_
  repeat walk_at "dl"
  refine bin_sp h1 h2 ?_
  repeat walk_at "dl"
  refine bin_sp h1 h2 ?_
  cases nm with
  | false => repeat first | exact rest2 O hb | walk_at "dl"
  | true =>
    repeat ((fail_if_success (with_reducible show We _ (Expr.List _ _) _ _ _)); walk_at "dl")
    refine we_lstO ?_
    repeat walk_at "dl"
    refine we_callK0 g1 kw_lowest (Nat.le_of_ble_eq_true rfl) rfl rfl ?_
    repeat walk_at "dl"
    refine ⟨rfl, lowest_sp hc0 hs0 ?_⟩
    rw [ef]
    repeat walk_at "dl"
    refine we_callK0 g2 kw_plus (Nat.le_of_ble_eq_true rfl) rfl rfl ?_
    repeat walk_at "dl"
    refine ⟨rfl, bin_sp h1 h2 ?_⟩
    repeat walk_at "dl"
    refine we_callK0 g3 kw_minus (Nat.le_of_ble_eq_true rfl) rfl rfl ?_
    repeat walk_at "dl"
    refine ⟨rfl, bin_sp h1 h2 ?_⟩
    repeat walk_at "dl"
    refine we_callK0 g4 kw_times (Nat.le_of_ble_eq_true rfl) rfl rfl ?_
    repeat walk_at "dl"
    refine ⟨rfl, bin_sp h1 h2 ?_⟩
    repeat walk_at "dl"
    refine fun p hp => ?_
    have hb1 := hb.grow (u := .lst [.tup [.int a, .int b], plusI a b c d, minusI a b c d, timesI a b c d]) hp
    have hpa := hb.ne hp
    repeat walk_at "dl"
    refine we_append ?_
    repeat walk_at "dl"
    refine ⟨p, _, rfl, Opens.up_same, ?_⟩
    repeat walk_at "dl"
    refine we_callK0 g5 kw_compared (Nat.le_of_ble_eq_true rfl) rfl rfl ?_
    repeat walk_at "dl"
    refine ⟨rfl, bin_sp h1 h2 ?_⟩
    refine ⟨_, Opens.up_same, Nat.lt_of_succ_le (Nat.le_of_ble_eq_true rfl), ?_⟩
    rw [Opens.up_up]
    have fin : WSs (bodyG M NF (defScope (topS 70)) 7 F Ed) ((defBody (topS 70)).drop 6) (ρF ad true t0 t1 c0 c1 (some (.tup [.int a, .int b])) (some (.tup [.int c, .int d])) (some (.raw (.ref p))) [none, none, none, none, none, none, none, none, none]) (O.up p (.lst (toldL a b c d))) { nx := fun _ O' => Qd .non O', rt := Qd } := by
      refine wss_shut (i := 6) rfl Opens.up_same ?_
      rw [Opens.drop_up hp]
      exact rest2 O hb
    repeat first | exact fin | walk_at "dl"
end
section
open PySem PySem.Spec PyProof.Rows L2 DL PySem.NumText
theorem eqD_low {x y : Int} (hy : 1 ≤ y) : eqD (fr (lowI x y)) (.tup [.int x, .int y]) = isFrac (.tup [.int x, .int y]) := by
  have e : isFrac (.tup [.int x, .int y]) = (gI x y == 1) := by
    show (decide (1 ≤ y) && (gI x y == 1)) = _
    rw [decide_eq_true hy]; rfl
  have e2 : eqD (fr (lowI x y)) (.tup [.int x, .int y]) = (decide (x / (gI x y : Int) = x) && decide (y / (gI x y : Int) = y)) := by
    simp [eqD, fr, lowI, toPy, toPys, PyData.eqv, PyData.eqvAll]
    rfl
  rw [e, e2]
  by_cases h : gI x y = 1
  · rw [h]; simp
  · have h2 : y / (gI x y : Int) ≠ y := fun z => by
      have hg := gI_pos (t := x) hy
      have : y / (gI x y : Int) < y := Int.ediv_lt_self_of_pos_of_ne_one (by omega) (by omega)
      omega
    simp [h, h2]
/-- the values of the last loop -/
def VOk (v : D) : Prop := (∃ xs, v = .lst xs) ∨ v = .non ∨ (∃ i, v = .int i) ∨ (∃ z, v = .str z) ∨ (∃ x, v = .tup [.int x]) ∨ (∃ x y z, v = .tup [.int x, .int y, .int z]) ∨ (∃ k y, v = .tup [.bl k, .int y]) ∨ (∃ k y, v = .tup [.int y, .bl k]) ∨ ∃ x y, v = .tup [.int x, .int y] ∧ Sm x ∧ Sm y
theorem vok_all {a b : Int} (sa : Sm9 a) (sb : Sm9 b) {x : D} (hx : x ∈ [D.tup [D.int a, D.int b], D.tup [D.int a, D.int b], D.lst [D.int a, D.int b], D.tup [D.int a], D.tup [D.int (2 * a), D.int (2 * b)], D.tup [D.int a, D.int 0], D.tup [D.int a, D.int (0 - b)], D.tup [D.int a, D.int b, D.int 1], D.non, D.int 7, D.str (Str.ofString "1/2"), D.tup [D.bl true, D.int 2], D.tup [D.int 1, D.bl true], D.tup [D.int 0, D.int 1], D.tup [D.int 0, D.int 2]]) : VOk x := by
  have w : ∀ c : Int, Sm9 c → Sm c := fun c h => Nat.lt_of_lt_of_le h (Nat.pow_le_pow_right (by decide) (by decide))
  have z0 : Sm 0 := Nat.lt_of_lt_of_le (by decide : (0 : Int).natAbs < 2 ^ 2) (Nat.pow_le_pow_right (by decide) (by decide))
  have z1 : Sm 1 := Nat.lt_of_lt_of_le (by decide : (1 : Int).natAbs < 2 ^ 2) (Nat.pow_le_pow_right (by decide) (by decide))
  have z2 : Sm9 2 := Nat.lt_of_lt_of_le (by decide : (2 : Int).natAbs < 2 ^ 2) (Nat.pow_le_pow_right (by decide) (by decide))
  have zb : Sm (0 - b) := by
    have h := w b sb
    unfold Sm at *
    omega
  have two : ∀ x y : Int, Sm x → Sm y → VOk (.tup [.int x, .int y]) := fun x y h1 h2 => .inr (.inr (.inr (.inr (.inr (.inr (.inr (.inr ⟨x, y, rfl, h1, h2⟩)))))))
  simp only [List.mem_cons, List.not_mem_nil, or_false] at hx
  rcases hx with rfl | rfl | rfl | rfl | rfl | rfl | rfl | rfl | rfl | rfl | rfl | rfl | rfl | rfl | rfl
  · exact two _ _ (w a sa) (w b sb)
  · exact two _ _ (w a sa) (w b sb)
  · exact .inl ⟨_, rfl⟩
  · exact .inr (.inr (.inr (.inr (.inl ⟨_, rfl⟩))))
  · exact two _ _ (sm_mul z2 sa) (sm_mul z2 sb)
  · exact two _ _ (w a sa) z0
  · exact two _ _ (w a sa) zb
  · exact .inr (.inr (.inr (.inr (.inr (.inl ⟨_, _, _, rfl⟩)))))
  · exact .inr (.inl rfl)
  · exact .inr (.inr (.inl ⟨_, rfl⟩))
  · exact .inr (.inr (.inr (.inl ⟨_, rfl⟩)))
  · exact .inr (.inr (.inr (.inr (.inr (.inr (.inl ⟨_, _, rfl⟩))))))
  · exact .inr (.inr (.inr (.inr (.inr (.inr (.inr (.inl ⟨_, _, rfl⟩)))))))
  · exact two _ _ z0 z1
  · exact two _ _ z0 (w 2 z2)
end
section
open PySem PySem.Spec PyProof.Rows L2 DL PySem.NumText
local macro_rules | `(tactic| walk_at "dlS") => `(tactic| ((with_reducible show WS _ (Stmt.Assign [Expr.Name _ _] (Expr.ListComp _ _ _ _) _) _ _ _); refine ws_lc rfl rfl rfl rfl rfl (by kernel_rfl) (by kernel_rfl) ?_))
/-! ### calls by keywords -/
local macro_rules | `(tactic| walk_at "dl") => `(tactic| ((with_reducible show BinQ Operator.Mult (D.int _) (D.int _) _ _); refine q_muli (mul9 (by assumption) (by assumption)) ?_))
local macro_rules | `(tactic| walk_at "dl") => `(tactic| ((with_reducible show WK _ _ _ _ _); first | refine wk_cons ?_ | refine wk_nil ?_))
theorem ok_int (a : Int) : PyData.strOk (Str.ofString (toString a)) = true := by
  unfold PyData.strOk
  rw [← Array.all_toList, int_toL]
  refine List.all_eq_true.mpr fun c hc => ?_
  have hd : ∀ c ∈ TL.numL a.natAbs, c < 1114112 := fun c hc => by
    rcases Nat.lt_or_ge c 1114112 with h | h
    · exact h
    · exact absurd hc (TL.numL_free (.inr (by omega)))
  refine decide_eq_true ?_
  split at hc
  · rcases List.mem_cons.mp hc with rfl | hc
    · decide
    · exact hd c hc
  · exact hd c hc
theorem ok_app {x y : Str} (h1 : PyData.strOk x = true) (h2 : PyData.strOk y = true) : PyData.strOk (x ++ y) = true := by
  unfold PyData.strOk at *
  show (x.cps ++ y.cps).all _ = true
  rw [Array.all_append, h1, h2]; rfl
theorem good_text {a b : Int} (h : FrS a b) : GoodS (frText a b) := by
  have l1 := PyProof.Rows.int_text_len_1921 (log9 (small9 h.2.2.1))
  have l2 := PyProof.Rows.int_text_len_1921 (log9 (small9 h.2.2.2))
  have l3 : (Str.ofString "/").length = 1 := by decide +kernel
  unfold frText
  split
  · exact ⟨by omega, ok_int a⟩
  · exact ⟨by rw [str_len, str_len, l3]; omega, ok_app (ok_app (ok_int a) (by decide +kernel)) (ok_int b)⟩
theorem text_sp {er : ErrA} {O : Opens} {Q : DK} {E : XD → Opens → Prop} {a b : Int} (h : FrS a b) (q : Q (.str (frText a b)) O) : spFrText er [.tup [.int a, .int b]] O Q E :=
  ⟨_, rfl, ask_fr a b, fun a' b' e _ => by cases e; exact ⟨small9 h.2.2.1, small9 h.2.2.2, q⟩, fun z => Bool.noConfusion ((show isFrac (.tup [.int a, .int b]) = true from h.1).symm.trans z)⟩
theorem read_sp {er : ErrA} {O : Opens} {Q : DK} {E : XD → Opens → Prop} {a b : Int} (h : FrS a b) (q : Q (.tup [.int a, .int b]) O) : spReadFr er [.str (frText a b)] O Q E := by
  have r1 : readFr (.str (frText a b)) = some (a, b) := frac_round h.1 (Nat.lt_of_lt_of_le h.2.2.1 (by decide)) (Nat.lt_of_lt_of_le h.2.2.2 (by decide))
  exact ⟨_, .str, rfl, rfl, fun z e => by cases e; exact good_text h, fun p hp => by cases r1.symm.trans hp; exact q, fun z => nomatch r1.symm.trans z⟩
theorem plain_two {n : Nat} {x y : D} (h1 : Plain n x) (h2 : Plain n y) : ∀ d ∈ [x, y], Plain n d := fun d hd => by
  rcases List.mem_cons.mp hd with rfl | hd
  · exact h1
  · rw [List.mem_singleton.mp hd]; exact h2
theorem plain_pair {n : Nat} {a b : Int} : Plain (n + 1) (.tup [.int a, .int b]) := .tup (Nat.le_of_ble_eq_true rfl) (plain_two .int .int)
def dueL (a b c d : Int) : List D := [D.tup [D.int a, D.int b], fr (lowI (a * d + c * b) (b * d)), fr (lowI (a * d - c * b) (b * d)), fr (lowI (a * c) (b * d)), D.int ((if decide (c * b < a * d) = true then 1 else 0) - if decide (a * d < c * b) = true then 1 else 0)]
abbrev ρF2 (ad : Addr) (nm : Bool) (t0 t1 c0 c1 a b c d : Int) (due : D) (text : D) (r : List (Option D)) : Env' :=
  ρF ad nm t0 t1 c0 c1 (some (.tup [.int a, .int b])) (some (.tup [.int c, .int d])) (some (.lst (toldL a b c d))) (some (.int a) :: some (.int b) :: some (.int c) :: some (.int d) :: some due :: some text :: r)
def loopB (l : List Stmt) : List Stmt := match l with
  | .For _ _ b _ _ :: _ => b
  | _ => []
theorem frac_end {M : Mo} {er : ErrA} {F : DL.Fr} {Ed : XD → Opens → Prop} {Z : EndsD} {O : Opens} {ad : Addr} {nm : Bool} {t0 t1 c0 c1 : Int} {one other told a b c d text x : Option D} {v : D} (B : Blt M) (Df : FrDefs M er) (hv : AskFr O v)
    (q : Z.nx (ρF ad nm t0 t1 c0 c1 one other told [a, b, c, d, some (.bl (isFrac v)), text, some v, x, none]) O) :
    WSs (bodyG M NF (defScope (topS 70)) 7 F Ed) ((loopB ((defBody (topS 70)).drop 11)).drop 2) (ρF ad nm t0 t1 c0 c1 one other told [a, b, c, d, some (.bl (isFrac v)), text, some v, x, none]) O Z := by
  obtain ⟨_, _, _, _, _, g6, g7, g8, g9, g10⟩ := id Df
  cases nm with
  | true =>
    repeat walk_at "dl"
    refine ⟨_, rfl, hv, ?_⟩
    repeat walk_at "dl"
    refine ⟨_, rfl, .bl, ?_⟩
    repeat walk_at "dl"
    exact q
  | false =>
    repeat walk_at "dl"
    refine we_callK0 g8 kw_is_fraction (Nat.le_of_ble_eq_true rfl) rfl rfl ?_
    repeat walk_at "dl"
    refine ⟨rfl, _, rfl, hv, ?_⟩
    repeat walk_at "dl"
    refine ⟨_, rfl, .bl, ?_⟩
    repeat walk_at "dl"
    exact q
theorem frac_end2 {M : Mo} {er : ErrA} {F : DL.Fr} {Ed : XD → Opens → Prop} {Z : EndsD} {O : Opens} {ad : Addr} {nm : Bool} {t0 t1 c0 c1 : Int} {one other told a b c d text x : Option D} {v : D} {kk : Bool} (hk : kk = isFrac v) (B : Blt M) (Df : FrDefs M er) (hv : AskFr O v)
    (q : Z.nx (ρF ad nm t0 t1 c0 c1 one other told [a, b, c, d, some (.bl kk), text, some v, x, none]) O) :
    WSs (bodyG M NF (defScope (topS 70)) 7 F Ed) ((loopB ((defBody (topS 70)).drop 11)).drop 2) (ρF ad nm t0 t1 c0 c1 one other told [a, b, c, d, some (.bl kk), text, some v, x, none]) O Z := by
  subst hk
  exact frac_end B Df hv q
def pN : D → Bool
  | .int _ => false
  | _ => true
theorem lays_two {n : Nat} {x y : D} (h1 : Lay n x) (h2 : Lay n y) : ∀ d ∈ [x, y], Lay n d := fun d hd => by
  rcases List.mem_cons.mp hd with rfl | hd
  · exact h1
  · rw [List.mem_singleton.mp hd]; exact h2
theorem frac_same {M : Mo} {er : ErrA} {F : DL.Fr} {Ed : XD → Opens → Prop} {Qd : DK} {O : Opens} {ad : Addr} {nm : Bool} {t0 t1 c0 c1 a b c d : Int} {n : Nat} (B : Blt M) (Df : FrDefs M er) (h1 : FrS a b) (h2 : FrS c d) (hb : Bx ad n O)
    (q : Qd (.bl true) O) :
    WSs (bodyG M NF (defScope (topS 70)) 7 F Ed) ((defBody (topS 70)).drop 11) (ρF2 ad nm t0 t1 c0 c1 a b c d (.lst (dueL a b c d)) (.str (frText a b)) [none, none, none]) O { nx := fun _ O' => Qd .non O', rt := Qd } := by
  obtain ⟨_, _, _, _, _, g6, g7, g8, g9, g10⟩ := id Df
  have sa : Sm9 a := small9 h1.2.2.1
  have sb : Sm9 b := small9 h1.2.2.2
  have s2 : Sm9 2 := Nat.lt_of_lt_of_le (by decide : (2 : Int).natAbs < 2 ^ 2) (Nat.pow_le_pow_right (by decide) (by decide))
  repeat walk_at "dl"
  refine ws_forI rfl ?_
  refine pi_ls ?_
  repeat walk_at "dl"
  trace_state
  refine ⟨_, .inl rfl, for_stateD _ (fun j ρ' O' => (∃ du v, ρ' = ρF ad nm t0 t1 c0 c1 (some (.tup [.int a, .int b])) (some (.tup [.int c, .int d])) (some (.lst (toldL a b c d))) [some (.int a), some (.int b), some (.int c), some (.int d), du, some (.str (frText a b)), v, none, none]) ∧ O' = O) ⟨⟨_, _, rfl⟩, rfl⟩ (fun j x ρ' O' hj hx w => ?_) fun ρ' O' w => ?_⟩
  · obtain ⟨⟨du, v, rfl⟩, rfl⟩ := w
    have hV : VOk x := vok_all sa sb (List.mem_of_getElem? hx)
    rcases hV with ⟨xs, rfl⟩ | rfl | ⟨i, rfl⟩ | ⟨z, rfl⟩ | ⟨x, rfl⟩ | ⟨x, y, z, rfl⟩ | ⟨k, y, rfl⟩ | ⟨k, y, rfl⟩ | ⟨x, y, rfl, sx, sy⟩
    · repeat first | ((with_reducible show WSs _ _ _ _ _); refine frac_end (v := .lst xs) B Df (⟨⟨_, rfl⟩, fun x y e => nomatch e⟩) ?_; exact ⟨⟨_, _, rfl⟩, rfl⟩) | walk_at "dl"
    · repeat first | ((with_reducible show WSs _ _ _ _ _); refine frac_end (v := .non) B Df (⟨⟨_, rfl⟩, fun x y e => nomatch e⟩) ?_; exact ⟨⟨_, _, rfl⟩, rfl⟩) | walk_at "dl"
    · repeat first | ((with_reducible show WSs _ _ _ _ _); refine frac_end (v := .int i) B Df (⟨⟨_, rfl⟩, fun x y e => nomatch e⟩) ?_; exact ⟨⟨_, _, rfl⟩, rfl⟩) | walk_at "dl"
    · repeat first | ((with_reducible show WSs _ _ _ _ _); refine frac_end (v := .str z) B Df (⟨⟨_, rfl⟩, fun x y e => nomatch e⟩) ?_; exact ⟨⟨_, _, rfl⟩, rfl⟩) | walk_at "dl"
    · repeat first | ((with_reducible show WSs _ _ _ _ _); refine frac_end (v := .tup [.int x]) B Df (⟨⟨_, rfl⟩, fun x y e => nomatch e⟩) ?_; exact ⟨⟨_, _, rfl⟩, rfl⟩) | walk_at "dl"
    · repeat first | ((with_reducible show WSs _ _ _ _ _); refine frac_end (v := .tup [.int x, .int y, .int z]) B Df (⟨⟨_, rfl⟩, fun x y e => nomatch e⟩) ?_; exact ⟨⟨_, _, rfl⟩, rfl⟩) | walk_at "dl"
    · repeat walk_at "dl"
      refine pi_tp ?_
      repeat walk_at "dl"
      refine ⟨_, rfl, ?_⟩
      refine lc_filD _ pN id (Nat.le_of_ble_eq_true rfl) (fun F0 x hx => ?_) ?_
      · rcases (show x = _ ∨ x = _ by simpa only [List.mem_cons, List.not_mem_nil, or_false] using hx) with rfl | rfl
        · repeat walk_at "dl"
          refine ⟨rfl, rfl, fun _ => ?_⟩
          repeat walk_at "dl"
          exact ⟨rfl, rfl⟩
        · repeat walk_at "dl"
          exact ⟨rfl, rfl, fun z => nomatch z⟩
      repeat walk_at "dl"
      refine q_eqd (lay_lst fun d hd => by rw [List.mem_singleton.mp hd]; exact lay_bl) (lay_lst fun d hd => nomatch hd) ?_
      repeat first | ((with_reducible show WSs _ _ _ _ _); refine frac_end (v := .tup [.bl k, .int y]) B Df (⟨⟨_, rfl⟩, fun x y e => by cases e; exact ⟨⟨_, rfl⟩, _, rfl⟩⟩) ?_; exact ⟨⟨_, _, rfl⟩, rfl⟩) | walk_at "dl"
    · repeat walk_at "dl"
      refine pi_tp ?_
      repeat walk_at "dl"
      refine ⟨_, rfl, ?_⟩
      refine lc_filD _ pN id (Nat.le_of_ble_eq_true rfl) (fun F0 x hx => ?_) ?_
      · rcases (show x = _ ∨ x = _ by simpa only [List.mem_cons, List.not_mem_nil, or_false] using hx) with rfl | rfl
        · repeat walk_at "dl"
          exact ⟨rfl, rfl, fun z => nomatch z⟩
        · repeat walk_at "dl"
          refine ⟨rfl, rfl, fun _ => ?_⟩
          repeat walk_at "dl"
          exact ⟨rfl, rfl⟩
      repeat walk_at "dl"
      refine q_eqd (lay_lst fun d hd => by rw [List.mem_singleton.mp hd]; exact lay_bl) (lay_lst fun d hd => nomatch hd) ?_
      repeat first | ((with_reducible show WSs _ _ _ _ _); refine frac_end (v := .tup [.int y, .bl k]) B Df (⟨⟨_, rfl⟩, fun x y e => by cases e; exact ⟨⟨_, rfl⟩, _, rfl⟩⟩) ?_; exact ⟨⟨_, _, rfl⟩, rfl⟩) | walk_at "dl"
    · repeat walk_at "dl"
      refine pi_tp ?_
      repeat walk_at "dl"
      refine ⟨_, rfl, ?_⟩
      refine lc_filD _ pN id (Nat.le_of_ble_eq_true rfl) (fun F0 x hx => ?_) ?_
      · rcases (show x = _ ∨ x = _ by simpa only [List.mem_cons, List.not_mem_nil, or_false] using hx) with rfl | rfl
        · repeat walk_at "dl"
          exact ⟨rfl, rfl, fun z => nomatch z⟩
        · repeat walk_at "dl"
          exact ⟨rfl, rfl, fun z => nomatch z⟩
      repeat walk_at "dl"
      refine q_eqd (lay_lst fun d hd => nomatch hd) (lay_lst fun d hd => nomatch hd) ?_
      repeat walk_at "dl"
      by_cases hy : 0 < y
      · have e1 : decide (0 < y) = true := decide_eq_true hy
        rw [e1]
        repeat walk_at "dl"
        refine ⟨x, y, rfl, by omega, sy, ?_⟩
        repeat walk_at "dl"
        refine q_eqd (lay_tup (lays_two lay_int lay_int)) (lay_tup (lays_two lay_int lay_int)) ?_
        repeat first | ((with_reducible show WSs _ _ _ _ _); refine frac_end2 (v := .tup [.int x, .int y]) (eqD_low (by omega)) B Df (⟨⟨_, rfl⟩, fun x y e => by cases e; exact ⟨⟨_, rfl⟩, _, rfl⟩⟩) ?_; exact ⟨⟨_, _, rfl⟩, rfl⟩) | walk_at "dl"
      · have e1 : decide (0 < y) = false := decide_eq_false hy
        rw [e1]
        have e2 : isFrac (.tup [.int x, .int y]) = false := by
          show (decide (1 ≤ y) && (gI x y == 1)) = false
          rw [decide_eq_false (by omega)]; rfl
        repeat first | ((with_reducible show WSs _ _ _ _ _); refine frac_end2 (v := .tup [.int x, .int y]) e2.symm B Df (⟨⟨_, rfl⟩, fun x y e => by cases e; exact ⟨⟨_, rfl⟩, _, rfl⟩⟩) ?_; exact ⟨⟨_, _, rfl⟩, rfl⟩) | walk_at "dl"
  · obtain ⟨⟨du, v, rfl⟩, rfl⟩ := w
    repeat walk_at "dl"
    exact q
theorem frac_three {M : Mo} {er : ErrA} {F : DL.Fr} {Ed : XD → Opens → Prop} {Qd : DK} {O : Opens} {ad : Addr} {nm : Bool} {t0 t1 c0 c1 a b c d : Int} {n : Nat} (B : Blt M) (Df : FrDefs M er) (h1 : FrS a b) (h2 : FrS c d) (hb : Bx ad n O)
    (q : Qd (.bl true) O) :
    WSs (bodyG M NF (defScope (topS 70)) 7 F Ed) ((defBody (topS 70)).drop 10) (ρF2 ad nm t0 t1 c0 c1 a b c d (.lst (dueL a b c d)) (.str (frText a b)) [none, none, none]) O { nx := fun _ O' => Qd .non O', rt := Qd } := by
  have fin := frac_same (F := F) (Ed := Ed) (nm := nm) (t0 := t0) (t1 := t1) (c0 := c0) (c1 := c1) B Df h1 h2 hb q
  obtain ⟨_, _, _, _, _, g6, g7, g8, g9, g10⟩ := Df
  have r1 : fracIn (frText a b) = some (a, b) := frac_round h1.1 (Nat.lt_of_lt_of_le h1.2.2.1 (by decide)) (Nat.lt_of_lt_of_le h1.2.2.2 (by decide))
  cases nm with
  | true =>
    repeat walk_at "dl"
    refine text_sp h1 ?_
    repeat walk_at "dl"
    refine read_sp h1 ?_
    repeat walk_at "dl"
    refine ⟨.lst [.str (frText a b), .tup [.int a, .int b]], rfl, .lst (Nat.le_of_ble_eq_true rfl) (plain_two (.str (Nat.le_trans (good_text h1).1 (by decide))) plain_pair), ?_⟩
    repeat first | exact fin | walk_at "dl"
  | false =>
    repeat walk_at "dl"
    refine we_callK0 g6 kw_fraction_text (Nat.le_of_ble_eq_true rfl) rfl rfl ?_
    repeat walk_at "dl"
    refine ⟨rfl, text_sp h1 ?_⟩
    repeat walk_at "dl"
    refine we_callK0 g7 kw_read_fraction (Nat.le_of_ble_eq_true rfl) rfl rfl ?_
    repeat walk_at "dl"
    refine ⟨rfl, read_sp h1 ?_⟩
    repeat walk_at "dl"
    refine ⟨.lst [.str (frText a b), .tup [.int a, .int b]], rfl, .lst (Nat.le_of_ble_eq_true rfl) (plain_two (.str (Nat.le_trans (good_text h1).1 (by decide))) plain_pair), ?_⟩
    repeat first | exact fin | walk_at "dl"
theorem frac_two {M : Mo} {er : ErrA} {F : DL.Fr} {Ed : XD → Opens → Prop} {Qd : DK} {O : Opens} {ad : Addr} {nm : Bool} {t0 t1 c0 c1 a b c d : Int} {n : Nat} (B : Blt M) (Df : FrDefs M er) (h1 : FrS a b) (h2 : FrS c d) (hb : Bx ad n O)
    (q : Qd (.bl true) O) :
    WSs (bodyG M NF (defScope (topS 70)) 7 F Ed) ((defBody (topS 70)).drop 6) (ρF ad nm t0 t1 c0 c1 (some (.tup [.int a, .int b])) (some (.tup [.int c, .int d])) (some (.lst (toldL a b c d))) [none, none, none, none, none, none, none, none, none]) O { nx := fun _ O' => Qd .non O', rt := Qd } := by
  obtain ⟨_, _, _, _, _, g6, g7, g8, g9, g10⟩ := id Df
  have sa : Sm9 a := small9 h1.2.2.1
  have sb : Sm9 b := small9 h1.2.2.2
  have sc : Sm9 c := small9 h2.2.2.1
  have sd : Sm9 d := small9 h2.2.2.2
  repeat walk_at "dl"
  refine ws_asg ?_ (by intro env he; obtain ⟨⟩ := env; cases he; kernel_rfl) (by intro env he; obtain ⟨⟩ := env; cases he; kernel_rfl)
  repeat walk_at "dl"
  refine ⟨_, _, rfl, mul_pos1 h1.2.1 h2.2.1, sm_mul sb sd, ?_⟩
  repeat walk_at "dl"
  refine ⟨_, _, rfl, mul_pos1 h1.2.1 h2.2.1, sm_mul sb sd, ?_⟩
  repeat walk_at "dl"
  refine ⟨_, _, rfl, mul_pos1 h1.2.1 h2.2.1, sm_mul sb sd, ?_⟩
  repeat walk_at "dl"
  refine ⟨D.lst (toldL a b c d), ?_, ?_, ?_⟩
  · have e : D.int ((if decide (c * b < a * d) = true then 1 else 0) - if decide (a * d < c * b) = true then 1 else 0) = comparedI a b c d := by
      unfold comparedI PyProof.Rows.b2i
      congr 2
      · have : (c * b < a * d) ↔ (0 < a * d - c * b) := by omega
        simp only [this]
      · have : (a * d < c * b) ↔ (a * d - c * b < 0) := by omega
        simp only [this]
    rw [e]
    rfl
  · refine .lst (Nat.le_of_ble_eq_true rfl) fun x hx => ?_
    rcases (show x = _ ∨ x = _ ∨ x = _ ∨ x = _ ∨ x = _ by simpa only [toldL, List.mem_cons, List.not_mem_nil, or_false] using hx) with rfl | rfl | rfl | rfl | rfl
    · exact plain_pair
    · exact plain_pair
    · exact plain_pair
    · exact plain_pair
    · exact .int
  dsimp only
  repeat walk_at "dl"
  dsimp only
  have fin := frac_three (F := F) (Ed := Ed) (nm := nm) (t0 := t0) (t1 := t1) (c0 := c0) (c1 := c1) B Df h1 h2 hb q
  split
  · rename_i hb1
    have e : Str.ofString (toString a) = frText a b := by unfold frText; rw [if_pos (of_decide_eq_true hb1)]
    repeat walk_at "dl"
    refine q_stri (log9 sa) ?_
    rw [e]
    repeat first | exact fin | walk_at "dl"
  · rename_i hb1
    have e : Str.ofString (toString a) ++ Str.ofString "/" ++ Str.ofString (toString b) = frText a b := by unfold frText; rw [if_neg fun z => hb1 (decide_eq_true z)]
    repeat walk_at "dl"
    refine q_stri (log9 sa) ?_
    repeat walk_at "dl"
    have l1 := PyProof.Rows.int_text_len_1921 (log9 (small9 h1.2.2.1))
    have l2 := PyProof.Rows.int_text_len_1921 (log9 (small9 h1.2.2.2))
    have l3 : (Str.ofString "/").length = 1 := by decide +kernel
    have l4 : sizeLine = 16777216 := rfl
    refine q_adds (by rw [l3]; omega) ?_
    repeat walk_at "dl"
    refine q_stri (log9 sb) ?_
    refine q_adds (by rw [str_len, l3]; omega) ?_
    rw [e]
    repeat first | exact fin | walk_at "dl"
end
section
open PySem PySem.Spec PyProof.Rows L2 DL PySem.NumText
local macro_rules | `(tactic| walk_at "dlS") => `(tactic| ((with_reducible show WS _ (Stmt.Assign [Expr.Name _ _] (Expr.ListComp _ _ _ _) _) _ _ _); refine ws_lc rfl rfl rfl rfl rfl (by kernel_rfl) (by kernel_rfl) ?_))
/-! ### calls by keywords -/
local macro_rules | `(tactic| walk_at "dl") => `(tactic| ((with_reducible show BinQ Operator.Mult (D.int _) (D.int _) _ _); refine q_muli (mul9 (by assumption) (by assumption)) ?_))
theorem ok_fractions_right {M : Mo} {er : ErrA} {f : Addr} {fd : FuncData} (B : Blt M) (h_take : DefD M "_law_take" (topS 61) ["box", "many"] 1 spTake) (h_law_low : DefD M "_law_low" (topS 69) ["top", "base"] 1 spLow) (Df : FrDefs M er)
    (hm : M.mg "_law_fractions_right" = some (.ref f)) (Fn : Fun M.K "_law_fractions_right" "_law_fractions_right" (topS 70) f fd) : DefD M "_law_fractions_right" (topS 70) ["box", "named"] 8 spFrR := by
  refine def_ok (N := NF) hm Fn ⟨rfl, rfl, rfl, by decide +kernel, rfl, by decide +kernel, by decide +kernel⟩ (fun _ _ _ _ _ _ us hl => match us, hl with | [_, _], _ => rfl) (fun ds O Q E ⟨_, _, _, e, _⟩ => by rw [e]; rfl) fun F ds O Qd Ed ⟨a, nm, n, e, hb, hn, q⟩ => ?_
  subst e
  repeat walk_at "dl"
  refine ⟨by decide, by decide, ?_⟩
  refine lc_stateA (List.range 2) (fun i : Nat => D.int (i : Int)) (fun i acc O' => acc.length = i ∧ Bx a (n + 3 * i) O' ∧ ∀ d ∈ acc, ∃ t : Int, d = .int t ∧ t.natAbs < 10 ^ 19) (by decide) ⟨rfl, hb, fun d hd => nomatch hd⟩ (fun i acc O' _ w => by rw [w.1]; exact Nat.le_refl _) (fun F0 i x acc O' hi hx w => ?_) fun ts O1 ⟨l1, b1, g1⟩ => ?_
  · obtain ⟨w1, w2, w3⟩ := w
    rw [List.length_range] at hi
    repeat walk_at "dl"
    refine ⟨a, 41, _, rfl, w2, by omega, by decide, by decide, fun r O2 r0 r1 b2 u2 => ?_⟩
    repeat walk_at "dl"
    refine ⟨a, 9, _, rfl, b2, by omega, by decide, by decide, fun s O3 s0 s1 b3 u3 => ?_⟩
    repeat walk_at "dl"
    refine q_powi ⟨by decide, by decide, by decide⟩ ?_
    repeat walk_at "dl"
    refine q_muli (wide_mul (a := 64) (b := 64) (by omega) (by decide) (by decide) (by decide) (by decide)) ?_
    repeat walk_at "dl"
    refine ⟨a, 2, _, rfl, b3, by omega, by decide, by decide, fun k O4 k0 k1 b4 u4 => ?_⟩
    have fin : ∀ t : Int, t.natAbs < 10 ^ 19 → (acc ++ [D.int t]).length = i + 1 ∧ Bx a (n + 3 * (i + 1)) O4 ∧ ∀ d ∈ acc ++ [D.int t], ∃ t : Int, d = .int t ∧ t.natAbs < 10 ^ 19 := fun t ht => ⟨by rw [List.length_append, w1]; rfl, b4.le (by omega), fun d hd => by
      rcases List.mem_append.mp hd with h | h
      · exact w3 d h
      · exact ⟨t, List.mem_singleton.mp h, ht⟩⟩
    rcases pick2 (x := D.int (r - 20)) (y := D.int ((s - 4) * 10 ^ Int.toNat 17)) k0 k1 with h | h
    · exact q_ixl h (fin _ (by omega))
    · refine q_ixl h (fin _ ?_)
      have e : (10 : Int) ^ Int.toNat 17 = 100000000000000000 := by decide
      rw [e]; omega
  rw [List.length_range] at l1 b1
  repeat walk_at "dl"
  refine ⟨by decide, by decide, ?_⟩
  refine lc_stateA (List.range 2) (fun i : Nat => D.int (i : Int)) (fun i acc O' => acc.length = i ∧ Bx a (n + 6 + 3 * i) O' ∧ ∀ d ∈ acc, ∃ t : Int, d = .int t ∧ 1 ≤ t ∧ t.natAbs < 10 ^ 19) (by decide) ⟨rfl, b1, fun d hd => nomatch hd⟩ (fun i acc O' _ w => by rw [w.1]; exact Nat.le_refl _) (fun F0 i x acc O' hi hx w => ?_) fun bs O2 ⟨l2, b2, g2⟩ => ?_
  · obtain ⟨w1, w2, w3⟩ := w
    rw [List.length_range] at hi
    have e : (10 : Int) ^ Int.toNat 18 = 1000000000000000000 := by decide
    repeat walk_at "dl"
    refine ⟨a, 12, _, rfl, w2, by omega, by decide, by decide, fun r O2 r0 r1 b2 u2 => ?_⟩
    repeat walk_at "dl"
    refine q_powi ⟨by decide, by decide, by decide⟩ ?_
    rw [e]
    repeat walk_at "dl"
    refine ⟨a, 1000000000000000000, _, rfl, b2, by omega, by decide, by decide, fun s O3 s0 s1 b3 u3 => ?_⟩
    repeat walk_at "dl"
    refine ⟨a, 2, _, rfl, b3, by omega, by decide, by decide, fun k O4 k0 k1 b4 u4 => ?_⟩
    have fin : ∀ t : Int, 1 ≤ t → t.natAbs < 10 ^ 19 → (acc ++ [D.int t]).length = i + 1 ∧ Bx a (n + 6 + 3 * (i + 1)) O4 ∧ ∀ d ∈ acc ++ [D.int t], ∃ t : Int, d = .int t ∧ 1 ≤ t ∧ t.natAbs < 10 ^ 19 := fun t h1 ht => ⟨by rw [List.length_append, w1]; rfl, b4.le (by omega), fun d hd => by
      rcases List.mem_append.mp hd with h | h
      · exact w3 d h
      · exact ⟨t, List.mem_singleton.mp h, h1, ht⟩⟩
    rcases pick2 (x := D.int (1 + r)) (y := D.int (1 + s)) k0 k1 with h | h
    · exact q_ixl h (fin _ (by omega) (by omega))
    · exact q_ixl h (fin _ (by omega) (by omega))
  rw [List.length_range] at l2 b2
  obtain ⟨x0, x1, rfl⟩ : ∃ x y, ts = [x, y] := by match ts, l1 with | [x, y], _ => exact ⟨x, y, rfl⟩
  obtain ⟨y0, y1, rfl⟩ : ∃ x y, bs = [x, y] := by match bs, l2 with | [x, y], _ => exact ⟨x, y, rfl⟩
  obtain ⟨t0, rfl, ht0⟩ := g1 x0 List.mem_cons_self
  obtain ⟨t1, rfl, ht1⟩ := g1 x1 (List.mem_cons_of_mem _ List.mem_cons_self)
  obtain ⟨c0, rfl, hc0, hs0⟩ := g2 y0 List.mem_cons_self
  obtain ⟨c1, rfl, hc1, hs1⟩ := g2 y1 (List.mem_cons_of_mem _ List.mem_cons_self)
  repeat walk_at "dl"
  refine ⟨t0, c0, rfl, hc0, small20 hs0, ?_⟩
  repeat walk_at "dl"
  refine ⟨t1, c1, rfl, hc1, small20 hs1, ?_⟩
  repeat walk_at "dl"
  obtain ⟨a', b', e0⟩ : ∃ x y, lowI t0 c0 = (x, y) := ⟨_, _, rfl⟩
  obtain ⟨c', d', e1⟩ : ∃ x y, lowI t1 c1 = (x, y) := ⟨_, _, rfl⟩
  have h1 : FrS a' b' := by have := FrS.of hc0 ht0 hs0; rw [e0] at this; exact this
  have h2 : FrS c' d' := by have := FrS.of hc1 ht1 hs1; rw [e1] at this; exact this
  rw [e0, e1]
  refine ⟨a, 4, _, rfl, b2, by omega, by decide, by decide, fun k O4 k0 k1 b4 u4 => ?_⟩
  repeat walk_at "dl"
  dsimp only
  have b5 : Bx a (n + 13) O4 := b4.le (by omega)
  have go : ∀ c d : Int, FrS c d → WSs (bodyG M NF (defScope (topS 70)) 7 F Ed) ((defBody (topS 70)).drop 4) (ρF a nm t0 t1 c0 c1 (some (.tup [.int a', .int b'])) (some (.tup [.int c, .int d])) none [none, none, none, none, none, none, none, none, none]) O4 { nx := fun _ O' => Qd .non O', rt := Qd } := fun c d h2 => frac_rest B Df hc0 hs0 e0 h1 h2 b5 fun O' hb' => frac_two B Df h1 h2 hb' (q O' hb')
  split
  · repeat first | ((with_reducible show WSs _ _ _ _ _); exact go _ _ h1) | walk_at "dl"
  · repeat first | ((with_reducible show WSs _ _ _ _ _); exact go _ _ h2) | walk_at "dl"
end
/-! K0T: plain laws: an outcome's text read in another way. -/
section
open PySem PySem.Spec PyProof.Rows L2 DL PySem.NumText
theorem ascI_iff {ns : List Int} : ascI ns = true ↔ ns.Pairwise (· < ·) := by
  unfold ascI
  rw [List.all_eq_true, List.pairwise_iff_getElem]
  constructor
  · intro h
    have step : ∀ i (hi : i + 1 < ns.length), ns[i] < ns[i + 1] := fun i hi => by
      have := of_decide_eq_true (h i (List.mem_range.mpr (by omega)))
      rw [List.getD_eq_getElem?_getD, List.getD_eq_getElem?_getD, List.getElem?_eq_getElem (by omega), List.getElem?_eq_getElem hi] at this
      exact this
    intro i j hi hj hij
    induction j with
    | zero => omega
    | succ j ih =>
      have s := step j hj
      rcases Nat.lt_or_eq_of_le (Nat.le_of_lt_succ hij) with k | k
      · have := ih (by omega) k
        omega
      · subst k; exact s
  · intro h i hi
    have hi := List.mem_range.mp hi
    refine decide_eq_true ?_
    rw [List.getD_eq_getElem?_getD, List.getD_eq_getElem?_getD, List.getElem?_eq_getElem (by omega), List.getElem?_eq_getElem (by omega)]
    exact h i (i + 1) (by omega) (by omega) (by omega)
theorem strict_unique : ∀ {l m : List Int}, l.Pairwise (· < ·) → m.Pairwise (· < ·) → (∀ k, k ∈ l ↔ k ∈ m) → l = m
  | [], [], _, _, _ => rfl
  | [], y :: m, _, _, h => absurd ((h y).mpr List.mem_cons_self) (by simp)
  | x :: l, [], _, _, h => absurd ((h x).mp List.mem_cons_self) (by simp)
  | x :: l, y :: m, h1, h2, h => by
    obtain ⟨a1, a2⟩ := List.pairwise_cons.mp h1
    obtain ⟨b1, b2⟩ := List.pairwise_cons.mp h2
    have e : x = y := by
      rcases List.mem_cons.mp ((h x).mp List.mem_cons_self) with k | k
      · exact k
      · rcases List.mem_cons.mp ((h y).mpr List.mem_cons_self) with k2 | k2
        · exact k2.symm
        · have := b1 x k
          have := a1 y k2
          omega
    subst e
    rw [strict_unique a2 b2 fun k => ⟨fun hk => by
      rcases List.mem_cons.mp ((h k).mp (List.mem_cons_of_mem _ hk)) with q | q
      · have := a1 k hk; omega
      · exact q, fun hk => by
      rcases List.mem_cons.mp ((h k).mpr (List.mem_cons_of_mem _ hk)) with q | q
      · have := b1 k hk; omega
      · exact q⟩]
/-- a list is its own sorted set just if it ascends -/
theorem sset_eq {ns ms : List Int} (h1 : ms.Pairwise (· < ·)) (h2 : ∀ k, k ∈ ms ↔ k ∈ ns) : decide (ns = ms) = ascI ns := by
  rw [Bool.eq_iff_iff, decide_eq_true_iff, ascI_iff]
  exact ⟨fun h => h ▸ h1, fun h => strict_unique h h1 fun k => (h2 k).symm⟩
/-- a word of one or two digits -/
def word2 (w : Str) : Bool := (decide (1 ≤ w.length) && decide (w.length ≤ 2)) && allDig w && !(decide (w.length = 2) && w.cps.toList.head? == some 48)
theorem val_ge : ∀ (r : List Nat) (a : Nat), a ≤ r.foldl (fun acc c => acc * 10 + (c - 48)) a
  | [], a => Nat.le_refl _
  | c :: r, a => Nat.le_trans (by omega) (val_ge r (a * 10 + (c - 48)))
theorem word2_cnt {w : Str} : word2 w = true → cntO w = some (digitsVal w.cps.toList) ∧ digitsVal w.cps.toList ≤ 99 := by
  intro h
  unfold word2 at h
  rw [Bool.and_eq_true, Bool.and_eq_true, Bool.and_eq_true, decide_eq_true_iff, decide_eq_true_iff] at h
  obtain ⟨⟨⟨h1, h2⟩, h3⟩, h4⟩ := h
  have dig := fun c hc => digB_iff.mp (List.all_eq_true.mp h3 c hc)
  have f1 : fits20 w = true := by unfold fits20; rw [decide_eq_true h1, decide_eq_true (show w.length ≤ 20 by omega)]; rfl
  have main : lead w = true ∧ digitsVal w.cps.toList ≤ 99 := by
    have hl := len_cps (w := w)
    unfold lead
    match hc : w.cps.toList with
    | [] => rw [hc] at hl; exact absurd hl (by simp; omega)
    | [c] =>
      have dc := dig c (by rw [hc]; exact List.mem_cons_self)
      refine ⟨?_, ?_⟩
      · by_cases z : c = 48
        · have e : w = Str.ofString "0" := str_ext (by rw [hc, z]; decide +kernel)
          rw [e, beq_self_eq_true, Bool.true_or]
        · show (_ || !(some c == some 48)) = true
          have : (some c == some 48) = false := beq_false_of_ne fun e => z (Option.some.inj e)
          rw [this, Bool.not_false, Bool.or_true]
      · show 0 * 10 + (c - 48) ≤ 99
        omega
    | [c, d] =>
      have dc := dig c (by rw [hc]; exact List.mem_cons_self)
      have dd := dig d (by rw [hc]; exact List.mem_cons_of_mem _ List.mem_cons_self)
      rw [hc] at hl h4
      have h4 : (!(decide (w.length = 2) && some c == some 48)) = true := h4
      rw [hl] at h4
      refine ⟨?_, ?_⟩
      · have : (some c == some 48) = false := by simpa using h4
        show (_ || !(some c == some 48)) = true
        rw [this, Bool.not_false, Bool.or_true]
      · show (0 * 10 + (c - 48)) * 10 + (d - 48) ≤ 99
        omega
    | _ :: _ :: _ :: r => rw [hc] at hl; simp only [List.length_cons] at hl; omega
  unfold cntO
  rw [f1, h3, main.1]
  exact ⟨rfl, main.2⟩
theorem cnt_word2 {w : Str} {n : Nat} (h : cntO w = some n) (hn : n ≤ 99) : word2 w = true := by
  unfold cntO at h
  split at h
  · rename_i hf
    rw [Bool.and_eq_true, Bool.and_eq_true] at hf
    obtain ⟨⟨h1, h2⟩, h3⟩ := hf
    cases h
    unfold fits20 at h1
    rw [Bool.and_eq_true, decide_eq_true_iff, decide_eq_true_iff] at h1
    have hl := len_cps (w := w)
    have dig := fun c hc => digB_iff.mp (List.all_eq_true.mp h2 c hc)
    have big : ∀ c d r, w.cps.toList = c :: d :: r → c ≠ 48 := fun c d r hc z => by
      unfold lead at h3
      rw [Bool.or_eq_true] at h3
      rcases h3 with h3 | h3
      · have e := eq_of_beq h3
        rw [e] at hc
        have : (Str.ofString "0").cps.toList = [48] := by decide +kernel
        rw [this] at hc
        simp at hc
      · rw [hc, z] at h3
        simp at h3
    unfold word2
    rw [h2]
    match hc : w.cps.toList with
    | [] => rw [hc] at hl; exact absurd hl (by simp; omega)
    | [c] =>
      rw [hc] at hl
      rw [hl]; rfl
    | [c, d] =>
      rw [hc] at hl
      rw [hl]
      have : (some c == some 48) = false := beq_false_of_ne fun e => big c d [] hc (Option.some.inj e)
      show (true && true && true && !(true && (some c == some 48))) = true
      rw [this]; rfl
    | c :: d :: e :: r =>
      have z := big c d (e :: r) hc
      have dc := dig c (by rw [hc]; exact List.mem_cons_self)
      rw [hc] at hn
      have v : ((0 * 10 + (c - 48)) * 10 + (d - 48)) * 10 + (e - 48) ≤ digitsVal (c :: d :: e :: r) := val_ge r _
      omega
  · cases h
def lawRead (z : Str) : Option (List Int) := if z = Str.ofString "none" then some [] else
  if (Txt.split z (Str.ofString " ")).all word2 = true then (if ascI ((Txt.split z (Str.ofString " ")).map fun w => ((digitsVal w.cps.toList : Nat) : Int)) = true then some ((Txt.split z (Str.ofString " ")).map fun w => ((digitsVal w.cps.toList : Nat) : Int)) else none) else none
theorem lawRead_eq (z : Str) : lawRead z = readOut (.str z) := by
  show _ = outIn (Txt.split z (Str.ofString " "))
  unfold lawRead
  by_cases hz : z = Str.ofString "none"
  · rw [if_pos hz, hz]
    have e : Txt.split (Str.ofString "none") (Str.ofString " ") = [Str.ofString "none"] := by decide +kernel
    rw [e]
    exact (if_pos rfl).symm
  · rw [if_neg hz]
    have hs : Txt.split z (Str.ofString " ") ≠ [Str.ofString "none"] := fun e => hz (by
      have k := PySem.StrLaws.join_split z (Str.ofString " ")
      rw [e] at k
      have k2 : (Str.ofString " ").join [Str.ofString "none"] = Str.ofString "none" := by decide +kernel
      rw [k2] at k
      exact k.symm)
    generalize Txt.split z (Str.ofString " ") = ws at hs ⊢
    unfold outIn
    rw [if_neg hs]
    by_cases ha : ws.all word2 = true
    · rw [if_pos ha]
      have ha' := List.all_eq_true.mp ha
      have ec : cntsO ws = some (ws.map fun w => digitsVal w.cps.toList) := by
        unfold cntsO
        rw [if_pos (List.all_eq_true.mpr fun w hw => by rw [(word2_cnt (ha' w hw)).1]; rfl)]
        exact congrArg some (List.map_congr_left fun w hw => by rw [(word2_cnt (ha' w hw)).1]; rfl)
      rw [ec]
      have eo : isOut (.tup ((ws.map fun w => digitsVal w.cps.toList).map fun n : Nat => D.int (n : Int))) = ascI (ws.map fun w => ((digitsVal w.cps.toList : Nat) : Int)) := by
        show (List.all _ isEv && ascI _) = _
        rw [List.map_map, List.map_map, List.all_map]
        rw [List.all_eq_true.mpr fun w hw => by
          have := (word2_cnt (ha' w hw)).2
          show (decide ((0 : Int) ≤ ((digitsVal w.cps.toList : Nat) : Int)) && decide (((digitsVal w.cps.toList : Nat) : Int) ≤ (99 : Int))) = true
          rw [decide_eq_true (by omega), decide_eq_true (by omega)]; rfl]
        rfl
      show _ = if isOut _ = true then some _ else none
      rw [eo, List.map_map]
      rfl
    · rw [if_neg ha]
      cases hc : cntsO ws with
      | none => rfl
      | some ns =>
        show none = if isOut _ = true then _ else none
        refine (if_neg fun ho => ha ?_).symm
        unfold cntsO at hc
        split at hc
        · rename_i hall
          cases hc
          have ho : (List.all _ isEv && ascI _) = true := ho
          rw [Bool.and_eq_true] at ho
          have h1 := List.all_eq_true.mp ho.1
          refine List.all_eq_true.mpr fun w hw => ?_
          have k := List.all_eq_true.mp hall w hw
          obtain ⟨n, hn⟩ := Option.isSome_iff_exists.mp k
          refine cnt_word2 hn ?_
          have := h1 (.int (n : Int)) (List.mem_map.mpr ⟨n, List.mem_map.mpr ⟨w, hw, by rw [hn]; rfl⟩, rfl⟩)
          have := (ev_int this).2.2
          show n ≤ 99
          have e : intOf (.int (n : Int)) = (n : Int) := rfl
          omega
        · cases hc
end
section
open PySem PySem.Spec PyProof.Rows L2 DL PySem.NumText
local macro_rules | `(tactic| walk_at "dlE") => `(tactic| ((with_reducible show We _ (Expr.Call (Expr.Name "sorted" _) [Expr.Call (Expr.Name "set" _) [_] [] _] [] _) _ _ _); refine we_srtset (by assumption) rfl rfl rfl ?_))
abbrev NR : List Str := ["text", "found", "word", "sign"]
def spLRd : SpD := fun ds O Q _ => ∃ z, ds = [.str z] ∧ (z.length ≤ 4000 ∧ PyData.strOk z = true) ∧ Q (outD (lawRead z)) O
abbrev wv (w : Str) : Int := ((digitsVal w.cps.toList : Nat) : Int)
theorem ok_law_read {M : Mo} {f : Addr} {fd : FuncData} (B : Blt M)
    (hm : M.mg "_law_read" = some (.ref f)) (Fn : Fun M.K "_law_read" "_law_read" (topS 72) f fd) : DefD M "_law_read" (topS 72) ["text"] 2 spLRd := by
  refine def_ok (N := NR) hm Fn ⟨rfl, rfl, rfl, by decide +kernel, rfl, by decide +kernel, by decide +kernel⟩ (fun _ _ _ _ _ _ us hl => match us, hl with | [_], _ => rfl) (fun ds O Q E ⟨_, e, _⟩ => by rw [e]; rfl) fun F ds O Qd Ed ⟨z, e, ⟨hz, hk⟩, q⟩ => ?_
  subst e
  repeat walk_at "dl"
  refine if2 (fun h => ?_) (fun h => ?_)
  · have h : z = Str.ofString "none" := eq_of_beq h
    have e : lawRead z = some [] := if_pos h
    rw [e] at q
    repeat walk_at "dl"
    exact q
  · have h : z ≠ Str.ofString "none" := fun e => by rw [e, beq_self_eq_true] at h; cases h
    have e : lawRead z = _ := if_neg h
    rw [e] at q
    clear e
    repeat ((fail_if_success (with_reducible show We _ (Expr.List _ _) _ _ _)); walk_at "dl")
    refine we_lstO ?_
    repeat walk_at "dl"
    refine fun p hp => ?_
    repeat walk_at "dl"
    refine ws_forI rfl ?_
    refine pi_ls ?_
    refine we_split ?_
    repeat walk_at "dl"
    refine ⟨by decide +kernel, Nat.le_trans (Nat.add_le_add_right hz 2) (by decide), _, .inl rfl, ?_⟩
    have hwz : ∀ w ∈ Txt.split z (Str.ofString " "), w.length ≤ 4000 := fun w hw => Nat.le_trans (part_short hw) hz
    have hwl : (Txt.split z (Str.ofString " ")).length ≤ 4002 := Nat.le_trans (split_le _ _) (by omega)
    have hone : ∀ c ∈ z.cps.toList, PyData.strOk ⟨#[c]⟩ = true := fun c hc => by
      unfold PyData.strOk at hk ⊢
      rw [← Array.all_toList] at hk ⊢
      exact List.all_eq_true.mpr fun d hd => by rw [List.mem_singleton.mp hd]; exact List.all_eq_true.mp hk c hc
    have hwc : ∀ w ∈ Txt.split z (Str.ofString " "), ∀ c ∈ w.cps.toList, PyData.strOk ⟨#[c]⟩ = true := fun w hw c hc => hone c (pat_chars hw hc)
    generalize Txt.split z (Str.ofString " ") = ws at q hwz hwl hwc ⊢
    refine for_stateA ws D.str (fun i ρ' O' => (∃ x1 x2, ρ' = [some (.str z), some (.raw (.ref p)), x1, x2]) ∧ O' = O.up p (.lst ((ws.take i).map fun w => D.int (wv w))) ∧ (ws.take i).all word2 = true) ⟨⟨_, _, rfl⟩, rfl, rfl⟩ (fun i w ρ' O' hi hx hw => ?_) fun ρ' O' hw => ?_
    · obtain ⟨⟨x1, x2, rfl⟩, rfl, hall⟩ := hw
      have hm := List.mem_of_getElem? hx
      have hwl' : w.length ≤ sizeLine := Nat.le_trans (hwz w hm) (by decide)
      have bad : word2 w = false → Qd .non O := fun hb => by
        have e : ws.all word2 ≠ true := fun z => by rw [List.all_eq_true.mp z w hm] at hb; cases hb
        rw [if_neg e] at q; exact q
      have l2 : w.length = w.cps.toList.length := len_cps
      repeat walk_at "dl"
      refine if2 (fun h1 => ?_) (fun h1 => ?_)
      · have h1 := of_decide_eq_true h1
        repeat walk_at "dl"
        refine if2 (fun h2 => ?_) (fun h2 => ?_)
        · have h2 : decide ((w.length : Int) ≤ 2) = false := by simpa using h2
          have h2 := of_decide_eq_false h2
          repeat ((fail_if_success (with_reducible show WSs _ _ _ _ _)); walk_at "dl")
          refine wss_shut (i := 1) rfl Opens.up_same ?_
          rw [Opens.drop_up hp]
          repeat walk_at "dl"
          refine bad ?_
          unfold word2
          rw [decide_eq_false (show ¬ w.length ≤ 2 by omega), Bool.and_false]; rfl
        · have h2 : decide ((w.length : Int) ≤ 2) = true := by simpa using h2
          have h2 := of_decide_eq_true h2
          repeat walk_at "dl"
          refine pi_st ?_
          repeat walk_at "dl"
          refine lc_filA w.cps.toList (fun c => D.str ⟨#[c]⟩) (fun c => !digB c) (fun c => D.str ⟨#[c]⟩) (by rw [← len_cps]; exact hwl') (fun F0 c hc => ?_) ?_
          · repeat walk_at "dl"
            exact ⟨rfl, rfl, fun _ => by repeat first | exact ⟨rfl, rfl⟩ | walk_at "dl"⟩
          · repeat walk_at "dl"
            have lz : Lay 64 (D.lst (List.map (fun c => D.str ⟨#[c]⟩) (w.cps.toList.filter fun c => !digB c))) := by
              have := lay_lst (n := 0) (lays_strs (ns := (w.cps.toList.filter fun c => !digB c).map fun c => (⟨#[c]⟩ : Str)) fun y hy => by
                obtain ⟨c, hc, rfl⟩ := List.mem_map.mp hy
                exact hwc w hm c (List.mem_filter.mp hc).1)
              rw [List.map_map] at this
              exact Lay.le this (by decide)
            refine q_ned lz (Lay.le (lay_lst (n := 0) fun d hd => nomatch hd) (by decide)) ?_
            rw [eqD_lst]
            by_cases h3 : allDig w = true
            · have e : (w.cps.toList.filter fun c => !digB c) = [] := List.filter_eq_nil_iff.mpr fun c hc => by
                rw [List.all_eq_true.mp h3 c hc]; decide
              rw [e, show eqDs (List.map (fun c => D.str ⟨#[c]⟩) ([] : List Nat)) [] = true from rfl]
              repeat walk_at "dl"
              have fin : word2 w = true → ∀ bk : Env' → Opens → Prop, WSs (bodyG M NR (defScope (topS 72)) 1 F Ed) ((loopB ((defBody (topS 72)).drop 2)).drop 1) [some (.str z), some (.raw (.ref p)), some (.str w), x2] (O.up p (.lst ((ws.take i).map fun w => D.int (wv w)))) { nx := fun ρ' O' => (∃ x1 x2, ρ' = [some (D.str z), some (D.raw (V.ref p)), x1, x2]) ∧ O' = O.up p (.lst ((ws.take (i + 1)).map fun w => D.int (wv w))) ∧ (ws.take (i + 1)).all word2 = true, rt := Qd, bk := bk, ct := fun ρ' O' => (∃ x1 x2, ρ' = [some (D.str z), some (D.raw (V.ref p)), x1, x2]) ∧ O' = O.up p (.lst ((ws.take (i + 1)).map fun w => D.int (wv w))) ∧ (ws.take (i + 1)).all word2 = true } := fun hw2 bk => by
                have hf : fits20 w = true := by unfold fits20; rw [decide_eq_true (show 1 ≤ w.length by omega), decide_eq_true (show w.length ≤ 20 by omega)]; rfl
                obtain ⟨i1, i2⟩ := cnt_int hf h3
                have tk : ws.take (i + 1) = ws.take i ++ [w] := by rw [List.take_add_one, hx]; rfl
                repeat ((fail_if_success (with_reducible show We _ (Expr.Call (Expr.Attribute _ _ _) _ _ _) _ _ _)); walk_at "dl")
                refine we_append ?_
                repeat walk_at "dl"
                refine ⟨p, _, rfl, Opens.up_same, ?_⟩
                repeat walk_at "dl"
                refine ⟨_, i1, i2, _, Opens.up_same, ?_, ?_⟩
                · rw [List.length_map, List.length_take]
                  have : sizeLine = 16777216 := rfl
                  omega
                · rw [Opens.up_up]
                  repeat walk_at "dl"
                  refine ⟨⟨_, _, rfl⟩, by rw [tk, List.map_append]; rfl, ?_⟩
                  rw [tk, List.all_append, hall]
                  show (true && (word2 w && true)) = true
                  rw [hw2]; rfl
              dsimp only
              refine if2 (fun h4 => ?_) (fun h4 => ?_)
              · have h4 : (w.length : Int) = 2 := eq_of_beq h4
                obtain ⟨c, r, hc⟩ : ∃ c r, w.cps.toList = c :: r := by
                  cases hcs : w.cps.toList with
                  | nil => rw [hcs] at l2; rw [l2] at h1; exact absurd h1 (by decide)
                  | cons c r => exact ⟨c, r, rfl⟩
                repeat walk_at "dl"
                refine q_ixs hwl' (c := c) (at_nat (i := 0) rfl (by rw [hc]; rfl)) ?_
                repeat walk_at "dl"
                have eh : ((⟨#[c]⟩ : Str) == Str.ofString "0") = (some c == some 48) := by
                  have e0 : Str.ofString "0" = ⟨#[48]⟩ := by decide +kernel
                  rw [e0]
                  by_cases z : c = 48
                  · subst z; rfl
                  · have z2 : (some c == some 48) = false := beq_false_of_ne fun e => z (Option.some.inj e)
                    rw [z2]
                    refine beq_false_of_ne fun e => z ?_
                    have e : (#[c] : Array Nat) = #[48] := congrArg Str.cps e
                    have e := congrArg Array.toList e
                    exact (List.cons.inj e).1
                rw [eh]
                refine if2 (fun h5 => ?_) (fun h5 => ?_)
                · repeat ((fail_if_success (with_reducible show WSs _ _ _ _ _)); walk_at "dl")
                  refine wss_shut (i := 1) rfl Opens.up_same ?_
                  rw [Opens.drop_up hp]
                  repeat walk_at "dl"
                  refine bad ?_
                  unfold word2
                  rw [decide_eq_true (show w.length = 2 by omega), hc]
                  show (_ && !(true && (some c == some 48))) = false
                  rw [h5]; simp
                · have hw2 : word2 w = true := by
                    unfold word2
                    rw [decide_eq_true (show 1 ≤ w.length by omega), decide_eq_true (show w.length ≤ 2 by omega), h3, hc]
                    show (_ && !(_ && (some c == some 48))) = true
                    rw [h5]; simp
                  repeat first | ((with_reducible show WSs _ _ _ _ _); exact fin hw2 _) | walk_at "dl"
              · have h4 : w.length ≠ 2 := fun e => by rw [e] at h4; exact absurd h4 (by decide)
                have hw2 : word2 w = true := by
                  unfold word2
                  rw [decide_eq_true (show 1 ≤ w.length by omega), decide_eq_true (show w.length ≤ 2 by omega), h3, decide_eq_false h4]; rfl
                repeat first | ((with_reducible show WSs _ _ _ _ _); exact fin hw2 _) | walk_at "dl"
            · have e : ∃ c r, (w.cps.toList.filter fun c => !digB c) = c :: r := by
                cases hf : (w.cps.toList.filter fun c => !digB c) with
                | cons c r => exact ⟨c, r, rfl⟩
                | nil =>
                  refine absurd (List.all_eq_true.mpr fun c hc => ?_) h3
                  have := List.filter_eq_nil_iff.mp hf c hc
                  simpa using this
              obtain ⟨c, r, e⟩ := e
              rw [e, List.map_cons, eqDs_cn]
              repeat ((fail_if_success (with_reducible show WSs _ _ _ _ _)); walk_at "dl")
              refine wss_shut (i := 1) rfl Opens.up_same ?_
              rw [Opens.drop_up hp]
              repeat walk_at "dl"
              refine bad ?_
              unfold word2
              rw [show allDig w = false by simpa using h3, Bool.and_false]; rfl
      · have h1 := of_decide_eq_false h1
        repeat ((fail_if_success (with_reducible show WSs _ _ _ _ _)); walk_at "dl")
        refine wss_shut (i := 1) rfl Opens.up_same ?_
        rw [Opens.drop_up hp]
        repeat walk_at "dl"
        refine bad ?_
        unfold word2
        rw [decide_eq_false (show ¬ 1 ≤ w.length by omega)]; rfl
    · obtain ⟨⟨x1, x2, rfl⟩, rfl, hall⟩ := hw
      rw [List.take_length] at hall ⊢
      rw [if_pos hall] at q
      repeat ((fail_if_success (with_reducible show WSs _ _ _ _ _)); walk_at "dl")
      refine wss_shut (i := 1) rfl Opens.up_same ?_
      rw [Opens.drop_up hp]
      repeat walk_at "dl"
      refine ⟨ws.map wv, .inl (by rw [List.map_map]; rfl), by rw [List.length_map]; unfold scanBound; omega, fun ms m1 m2 => ?_⟩
      have ew : (ws.map fun w => D.int (wv w)) = (ws.map wv).map D.int := by rw [List.map_map]; rfl
      rw [ew]
      refine q_eqd (Lay.le (lay_lst (n := 0) lays_ints) (by decide)) (Lay.le (lay_lst (n := 0) lays_ints) (by decide)) ?_
      rw [eqD_lst, eqDs_ints, sset_eq m1 m2]
      repeat walk_at "dl"
      refine if2 (fun h1 => ?_) (fun h1 => ?_)
      · have h1 : ascI (ws.map wv) = true := h1
        rw [if_pos h1] at q
        repeat walk_at "dl"
        exact q
      · have h1 : ascI (ws.map wv) = false := h1
        rw [if_neg (by rw [h1]; decide)] at q
        repeat walk_at "dl"
        exact q
end
section
open PySem PySem.Spec PyProof.Rows L2 DL PySem.NumText
local macro_rules | `(tactic| walk_at "dlS") => `(tactic| ((with_reducible show WS _ (Stmt.Assign [Expr.Name _ _] (Expr.ListComp _ _ _ _) _) _ _ _); refine ws_lc rfl rfl rfl rfl rfl (by kernel_rfl) (by kernel_rfl) ?_))
local macro_rules | `(tactic| walk_at "dlE") => `(tactic| ((with_reducible show We _ (Expr.Call (Expr.Name "sorted" _) [Expr.Call (Expr.Name "set" _) [_] [] _] [] _) _ _ _); refine we_srtset (by assumption) rfl rfl rfl ?_))
local macro_rules | `(tactic| walk_at "dl") => `(tactic| ((with_reducible show BinQ Operator.Mult (D.lst _) (D.int _) _ _); refine ⟨by decide, by decide, by decide, ?_⟩))
local macro_rules | `(tactic| walk_at "dl") => `(tactic| ((with_reducible show BinQ Operator.Add (D.lst _) (D.lst _) _ _); refine q_addl (by decide) ?_))
local macro_rules | `(tactic| walk_at "dl") => `(tactic| ((with_reducible show WK _ _ _ _ _); first | refine wk_cons ?_ | refine wk_nil ?_))
abbrev NT : List Str := ["box", "named", "outcome", "x", "text", "told", "at", "sign", "values", "some", "due", "error", "rows", "value", "flags", "names"]
structure TxDefs (M : Mo) (er : ErrA) : Prop where
  otext : DefD M "outcome_text" (topS 42) ["outcome"] 5 (spOutText er)
  oread : DefD M "read_outcome" (topS 44) ["text"] 6 (spReadOut er)
  isout : DefD M "is_outcome" (topS 40) ["value"] 4 spOut
  isev : DefD M "is_event" (topS 39) ["value"] 3 spEv
  isnm : DefD M "is_name" (topS 57) ["value"] 1 spName
  same : DefD M "_law_same" (topS 62) ["told", "due"] 5 (spSame 4)
  lread : DefD M "_law_read" (topS 72) ["text"] 2 spLRd
  take : DefD M "_law_take" (topS 61) ["box", "many"] 1 spTake
theorem plain_bls {n : Nat} (bs : List Bool) (h : bs.length ≤ 100000) : Plain (n + 1) (.lst (bs.map D.bl)) := .lst (by rw [List.length_map]; exact h) fun x hx => by
  obtain ⟨b, _, rfl⟩ := List.mem_map.mp hx
  exact .bl
theorem txt_end {M : Mo} {er : ErrA} {F : DL.Fr} {Ed : XD → Opens → Prop} {Qd : DK} {O : Opens} {x0 x1 x2 x4 x5 x6 x7 x8 x9 x10 x12 x13 : Option D} (B : Blt M) (Df : TxDefs M er)
    (q : Qd (.bl true) O) :
    WSs (bodyG M NT (defScope (topS 71)) 7 F Ed) ((defBody (topS 71)).drop 9) [x0, x1, x2, none, x4, x5, x6, x7, x8, x9, x10, none, x12, x13, none, none] O { nx := fun _ O' => Qd .non O', rt := Qd } := by
  obtain ⟨_, _, _, g4, g5, g6, _, _⟩ := id Df
  repeat walk_at "dl"
  refine pi_ls ?_
  repeat walk_at "dl"
  refine q_powi ⟨by decide, by decide, by decide⟩ ?_
  repeat walk_at "dl"
  refine ⟨_, .inl rfl, ?_⟩
  refine lc_mapD _ (fun d => .bl (isEv d)) (by decide) (fun F0 x hx => ?_) ?_
  · repeat walk_at "dl"
    have : ∃ t, tyD O x = some t := by
      simp only [List.mem_cons, List.not_mem_nil, or_false] at hx
      rcases hx with rfl | rfl | rfl | rfl | rfl | rfl | rfl | rfl | rfl <;> exact ⟨_, rfl⟩
    obtain ⟨t, ht⟩ := this
    exact ⟨_, t, rfl, ht, rfl, rfl⟩
  repeat walk_at "dl"
  refine pi_ls ?_
  repeat walk_at "dl"
  refine ⟨_, .inl rfl, ?_⟩
  refine lc_mapD _ (fun d => .bl (isName d)) (by decide) (fun F0 x hx => ?_) ?_
  · repeat walk_at "dl"
    have : (∃ t, tyD O x = some t) ∧ ∀ z, x = .str z → z.length ≤ sizeLine := by
      simp only [List.mem_cons, List.not_mem_nil, or_false] at hx
      rcases hx with rfl | rfl | rfl | rfl | rfl | rfl | rfl | rfl | rfl | rfl <;> refine ⟨⟨_, rfl⟩, fun z e => ?_⟩ <;> first | (cases e; decide +kernel) | cases e
    obtain ⟨⟨t, ht⟩, hz⟩ := this
    exact ⟨_, t, rfl, ht, hz, rfl, rfl⟩
  have e1 : List.map (fun d => D.bl (isEv d)) [D.int 0, D.int 99, D.int 100, D.int (-1), D.bl true, D.non, D.str (Str.ofString "0"), D.tup [D.int 1], D.int (10 ^ Int.toNat 19)] = [.bl true, .bl true, .bl false, .bl false, .bl false, .bl false, .bl false, .bl false, .bl false] := by
    have : isEv (D.int (10 ^ Int.toNat 19)) = false := by decide +kernel
    simp only [List.map_cons, List.map_nil, this]; rfl
  rw [e1]
  have e2 : List.map (fun d => D.bl (isName d)) [D.str (Str.ofString "a"), D.str (Str.ofString "abcdefgh"), D.str (Str.ofString "abcdefghi"), D.str (Str.ofString ""), D.str (Str.ofString "A"), D.str (Str.ofString "a b"), D.str (Str.ofString "a1"), D.non, D.lst [D.str (Str.ofString "a")], D.str (Str.ofString "z")] = [.bl true, .bl true, .bl false, .bl false, .bl false, .bl false, .bl false, .bl false, .bl false, .bl true] := by
    have n0 : isName (D.str (Str.ofString "a")) = true := by decide +kernel
    have n1 : isName (D.str (Str.ofString "abcdefgh")) = true := by decide +kernel
    have n2 : isName (D.str (Str.ofString "abcdefghi")) = false := by decide +kernel
    have n3 : isName (D.str (Str.ofString "")) = false := by decide +kernel
    have n4 : isName (D.str (Str.ofString "A")) = false := by decide +kernel
    have n5 : isName (D.str (Str.ofString "a b")) = false := by decide +kernel
    have n6 : isName (D.str (Str.ofString "a1")) = false := by decide +kernel
    have n9 : isName (D.str (Str.ofString "z")) = true := by decide +kernel
    simp only [List.map_cons, List.map_nil, n0, n1, n2, n3, n4, n5, n6, n9]
    rfl
  rw [e2]
  repeat walk_at "dl"
  exact ⟨_, rfl, .lst (Nat.le_of_ble_eq_true rfl) (plain_two (plain_bls [true, true, false, false, false, false, false, false, false] (by decide)) (plain_bls [true, true, false, false, false, false, false, false, false, true] (by decide))), q⟩
end
section
open PySem PySem.Spec PyProof.Rows L2 DL PySem.NumText
local macro_rules | `(tactic| walk_at "dlS") => `(tactic| ((with_reducible show WS _ (Stmt.Assign [Expr.Name _ _] (Expr.ListComp _ _ _ _) _) _ _ _); refine ws_lc rfl rfl rfl rfl rfl (by kernel_rfl) (by kernel_rfl) ?_))
local macro_rules | `(tactic| walk_at "dlE") => `(tactic| first
  | ((with_reducible show We _ (Expr.Call (Expr.Name "sorted" _) [Expr.Call (Expr.Name "set" _) [_] [] _] [] _) _ _ _); refine we_srtset (by assumption) rfl rfl rfl ?_)
  | ((with_reducible show We _ (Expr.Subscript _ (Expr.Slice none none (some (Expr.UnaryOp _ _ _)) _) _) _ _ _); refine we_revT ?_))
local macro_rules | `(tactic| walk_at "dl") => `(tactic| ((with_reducible show WK _ _ _ _ _); first | refine wk_cons ?_ | refine wk_nil ?_))
def VR (v : D) : Prop := (∃ is : List Int, v = .tup (is.map .int) ∧ is.length ≤ 300) ∨ (∃ xs, v = .lst xs) ∨ v = .tup [.bl true] ∨ v = .tup [.str (Str.ofString "0")] ∨ v = .non ∨ v = .int 5
theorem VR.ask {O : Opens} {v : D} (h : VR v) : AskOut O v := by
  rcases h with ⟨is, rfl, hl⟩ | ⟨xs, rfl⟩ | rfl | rfl | rfl | rfl
  · refine ⟨⟨_, rfl⟩, fun xs e => ?_⟩
    cases e
    refine ⟨by rw [List.length_map]; exact Nat.le_trans hl (by decide), fun x hx => ?_⟩
    obtain ⟨i, _, rfl⟩ := List.mem_map.mp hx
    exact ⟨_, rfl⟩
  · exact ⟨⟨_, rfl⟩, fun xs e => nomatch e⟩
  · exact ⟨⟨_, rfl⟩, fun xs e => by cases e; exact ⟨by decide, fun x hx => by rw [List.mem_singleton.mp hx]; exact ⟨_, rfl⟩⟩⟩
  · exact ⟨⟨_, rfl⟩, fun xs e => by cases e; exact ⟨by decide, fun x hx => by rw [List.mem_singleton.mp hx]; exact ⟨_, rfl⟩⟩⟩
  · exact ⟨⟨_, rfl⟩, fun xs e => nomatch e⟩
  · exact ⟨⟨_, rfl⟩, fun xs e => nomatch e⟩
theorem row_end {M : Mo} {er : ErrA} {F : DL.Fr} {Ed : XD → Opens → Prop} {Z : EndsD} {O : Opens} {x0 x2 x4 x5 x6 x7 x8 x9 x12 : Option D} {nm : Bool} {v : D} {b : Bool} (B : Blt M) (Df : TxDefs M er) (hv : VR v) (hb : b = isOut v)
    (q : Z.nx [x0, some (.bl nm), x2, none, x4, x5, x6, x7, x8, x9, some (.bl b), none, x12, some v, none, none] O) :
    WSs (bodyG M NT (defScope (topS 71)) 7 F Ed) ((loopB ((defBody (topS 71)).drop 8)).drop 2) [x0, some (.bl nm), x2, none, x4, x5, x6, x7, x8, x9, some (.bl b), none, x12, some v, none, none] O Z := by
  obtain ⟨_, _, g3, _, _, g6, _, _⟩ := id Df
  have hb : isOut v = b := hb.symm
  cases nm with
  | true =>
    repeat walk_at "dl"
    refine we_callK0 g3 kw_is_outcome (Nat.le_of_ble_eq_true rfl) rfl rfl ?_
    repeat walk_at "dl"
    refine ⟨rfl, _, rfl, hv.ask, ?_⟩
    rw [hb]
    repeat walk_at "dl"
    refine ⟨_, rfl, .bl, ?_⟩
    repeat walk_at "dl"
    exact q
  | false =>
    repeat walk_at "dl"
    refine ⟨_, rfl, hv.ask, ?_⟩
    rw [hb]
    repeat walk_at "dl"
    refine ⟨_, rfl, .bl, ?_⟩
    repeat walk_at "dl"
    exact q
def in99 (i : Int) : Bool := decide (0 ≤ i) && decide (i ≤ 99)
theorem isOut_ints {is : List Int} : isOut (.tup (is.map .int)) = (is.all in99 && ascI is) := by
  show (List.all _ isEv && ascI _) = _
  rw [List.all_map, List.map_map]
  have e : is.map (intOf ∘ D.int) = is := by
    have : is.map (intOf ∘ D.int) = is.map id := List.map_congr_left fun i _ => rfl
    rw [this, List.map_id]
  rw [e]; rfl
theorem row_one {M : Mo} {er : ErrA} {F : DL.Fr} {Ed : XD → Opens → Prop} {Z : EndsD} {O : Opens} {x0 x2 x4 x5 x6 x7 x8 x9 x10 x12 : Option D} {nm : Bool} {v : D} (B : Blt M) (Df : TxDefs M er) (hv : VR v)
    (q : ∀ b, Z.nx [x0, some (.bl nm), x2, none, x4, x5, x6, x7, x8, x9, some (.bl b), none, x12, some v, none, none] O) :
    WSs (bodyG M NT (defScope (topS 71)) 7 F Ed) (loopB ((defBody (topS 71)).drop 8)) [x0, some (.bl nm), x2, none, x4, x5, x6, x7, x8, x9, x10, none, x12, some v, none, none] O Z := by
  have hv0 := hv
  rcases hv with ⟨is, rfl, hl⟩ | ⟨xs, rfl⟩ | rfl | rfl | rfl | rfl
  · repeat walk_at "dl"
    refine pi_tp ?_
    repeat walk_at "dl"
    refine ⟨_, rfl, ?_⟩
    refine lc_filA is D.int (fun i => !in99 i) D.int (Nat.le_trans hl (by decide)) (fun F0 i hi => ?_) ?_
    · repeat walk_at "dl"
      by_cases h0 : 0 ≤ i
      · rw [decide_eq_true h0]
        repeat walk_at "dl"
        by_cases h1 : i ≤ 99
        · rw [decide_eq_true h1]
          have e : in99 i = true := by unfold in99; rw [decide_eq_true h0, decide_eq_true h1]; rfl
          rw [e]
          repeat walk_at "dl"
          exact ⟨rfl, rfl, fun z => nomatch z⟩
        · rw [decide_eq_false h1]
          have e : in99 i = false := by unfold in99; rw [decide_eq_false h1, Bool.and_false]
          rw [e]
          repeat walk_at "dl"
          exact ⟨rfl, rfl, fun _ => by repeat first | exact ⟨rfl, rfl⟩ | walk_at "dl"⟩
      · rw [decide_eq_false h0]
        have e : in99 i = false := by unfold in99; rw [decide_eq_false h0, Bool.false_and]
        rw [e]
        repeat walk_at "dl"
        exact ⟨rfl, rfl, fun _ => by repeat first | exact ⟨rfl, rfl⟩ | walk_at "dl"⟩
    repeat walk_at "dl"
    refine q_eqd (Lay.le (lay_lst (n := 0) lays_ints) (by decide)) (Lay.le (lay_lst (n := 0) fun d hd => nomatch hd) (by decide)) ?_
    have ee : eqDs (List.map D.int (is.filter fun i => !in99 i)) [] = is.all in99 := by
      rw [show eqDs (List.map D.int (is.filter fun i => !in99 i)) [] = decide ((is.filter fun i => !in99 i) = []) from eqDs_ints (ms := []), Bool.eq_iff_iff, decide_eq_true_iff, List.filter_eq_nil_iff, List.all_eq_true]
      exact ⟨fun h i hi => by have := h i hi; simpa using this, fun h i hi => by rw [h i hi]; decide⟩
    rw [eqD_lst, ee]
    cases ha : is.all in99 with
    | false =>
      have eo : false = isOut (.tup (is.map .int)) := by rw [isOut_ints, ha]; rfl
      repeat first | ((with_reducible show WSs _ _ _ _ _); exact row_end B Df hv0 eo (q _)) | walk_at "dl"
    | true =>
      have eo : ascI is = isOut (.tup (is.map .int)) := by rw [isOut_ints, ha]; rfl
      repeat walk_at "dl"
      refine ⟨is, .inr rfl, by unfold scanBound; omega, fun ms m1 m2 => ?_⟩
      refine q_eqd (Lay.le (lay_lst (n := 0) lays_ints) (by decide)) (Lay.le (lay_lst (n := 0) lays_ints) (by decide)) ?_
      rw [eqD_lst, eqDs_ints, sset_eq m1 m2]
      repeat first | ((with_reducible show WSs _ _ _ _ _); exact row_end B Df hv0 eo (q _)) | walk_at "dl"
  · repeat first | ((with_reducible show WSs _ _ _ _ _); exact row_end B Df hv0 rfl (q _)) | walk_at "dl"
  · repeat walk_at "dl"
    refine pi_tp ?_
    repeat walk_at "dl"
    refine ⟨_, rfl, ?_⟩
    refine lc_filD _ (fun _ => true) id (Nat.le_of_ble_eq_true rfl) (fun F0 x hx => ?_) ?_
    · rw [List.mem_singleton.mp hx]
      repeat walk_at "dl"
      exact ⟨rfl, rfl, fun _ => by repeat first | exact ⟨rfl, rfl⟩ | walk_at "dl"⟩
    repeat walk_at "dl"
    refine q_eqd (Lay.le (lay_lst (n := 0) fun d hd => by rw [List.mem_singleton.mp hd]; exact lay_bl) (by decide)) (Lay.le (lay_lst (n := 0) fun d hd => nomatch hd) (by decide)) ?_
    rw [eqD_lst]
    have ee : eqDs (List.map id (List.filter (fun _ => true) [D.bl true])) [] = false := eqDs_cn
    rw [ee]
    repeat first | ((with_reducible show WSs _ _ _ _ _); exact row_end B Df hv0 rfl (q _)) | walk_at "dl"
  · repeat walk_at "dl"
    refine pi_tp ?_
    repeat walk_at "dl"
    refine ⟨_, rfl, ?_⟩
    refine lc_filD _ (fun _ => true) id (Nat.le_of_ble_eq_true rfl) (fun F0 x hx => ?_) ?_
    · rw [List.mem_singleton.mp hx]
      repeat walk_at "dl"
      exact ⟨rfl, rfl, fun _ => by repeat first | exact ⟨rfl, rfl⟩ | walk_at "dl"⟩
    repeat walk_at "dl"
    refine q_eqd (Lay.le (lay_lst (n := 0) fun d hd => by rw [List.mem_singleton.mp hd]; exact lay_str (by decide +kernel)) (by decide)) (Lay.le (lay_lst (n := 0) fun d hd => nomatch hd) (by decide)) ?_
    rw [eqD_lst]
    have ee : eqDs (List.map id (List.filter (fun _ => true) [D.str (Str.ofString "0")])) [] = false := eqDs_cn
    rw [ee]
    repeat first | ((with_reducible show WSs _ _ _ _ _); exact row_end B Df hv0 rfl (q _)) | walk_at "dl"
  · repeat first | ((with_reducible show WSs _ _ _ _ _); exact row_end B Df hv0 rfl (q _)) | walk_at "dl"
  · repeat first | ((with_reducible show WSs _ _ _ _ _); exact row_end B Df hv0 rfl (q _)) | walk_at "dl"
theorem txt_rows {M : Mo} {er : ErrA} {F : DL.Fr} {Ed : XD → Opens → Prop} {Qd : DK} {O : Opens} {x0 x4 x5 x6 x7 x8 x9 x10 : Option D} {nm : Bool} {ns : List Int} (B : Blt M) (Df : TxDefs M er) (hl : ns.length ≤ 100)
    (q : Qd (.bl true) O) :
    WSs (bodyG M NT (defScope (topS 71)) 7 F Ed) ((defBody (topS 71)).drop 7) [x0, some (.bl nm), some (.tup (ns.map .int)), none, x4, x5, x6, x7, x8, x9, x10, none, none, none, none, none] O { nx := fun _ O' => Qd .non O', rt := Qd } := by
  have hz : (ns.map D.int).length ≤ 100 := by rw [List.length_map]; exact hl
  have hs : ∀ k, k ≤ 200 → 100 + k ≤ sizeLine := fun k hk => Nat.le_trans (Nat.add_le_add_left hk 100) (by decide)
  have hc : (DL.cutD (ns.map D.int) (some (-1)) none).length ≤ 100 := by
    unfold DL.cutD
    rw [List.length_take, List.length_drop]
    omega
  have hci : ∃ ms : List Int, DL.cutD (ns.map D.int) (some (-1)) none = ms.map D.int ∧ ms.length ≤ 100 := by
    unfold DL.cutD
    refine ⟨(ns.drop (HT.sIx (ns.map D.int).length 0 (some (-1)))).take (HT.sIx (ns.map D.int).length (ns.map D.int).length none - HT.sIx (ns.map D.int).length 0 (some (-1))), by rw [List.map_take, List.map_drop], ?_⟩
    rw [List.length_take, List.length_drop]
    omega
  repeat walk_at "dl"
  refine q_addt (Nat.le_trans (Nat.add_le_add_right hz _) (hs 1 (by decide))) ?_
  repeat walk_at "dl"
  refine q_addt (by rw [Nat.add_comm]; exact Nat.le_trans (Nat.add_le_add_right hz _) (hs 1 (by decide))) ?_
  repeat walk_at "dl"
  refine ⟨_, rfl, ?_⟩
  repeat walk_at "dl"
  refine q_addt (Nat.le_trans (Nat.add_le_add hz hc) (hs 100 (by decide))) ?_
  repeat walk_at "dl"
  refine ws_forI rfl ?_
  refine pi_ls ?_
  repeat walk_at "dl"
  refine ⟨_, .inl rfl, ?_⟩
  obtain ⟨ms, em, hm⟩ := hci
  rw [em]
  refine for_stateD _ (fun j ρ' O' => (∃ x10 x12 x13, ρ' = [x0, some (.bl nm), some (.tup (ns.map .int)), none, x4, x5, x6, x7, x8, x9, x10, none, x12, x13, none, none]) ∧ O' = O) ⟨⟨_, _, _, rfl⟩, rfl⟩ (fun j x ρ' O' hj hx w => ?_) fun ρ' O' w => ?_
  · obtain ⟨⟨x10, x12, x13, rfl⟩, rfl⟩ := w
    have hv : VR x := by
      have hx := List.mem_of_getElem? hx
      simp only [List.mem_cons, List.not_mem_nil, or_false] at hx
      rcases hx with rfl | rfl | rfl | rfl | rfl | rfl | rfl | rfl | rfl | rfl | rfl
      · exact .inl ⟨ns, rfl, by omega⟩
      · exact .inr (.inl ⟨_, rfl⟩)
      · exact .inl ⟨ns ++ [100], by rw [List.map_append]; rfl, by rw [List.length_append, List.length_singleton]; omega⟩
      · exact .inl ⟨-1 :: ns, rfl, by rw [List.length_cons]; omega⟩
      · exact .inl ⟨ns.reverse, by rw [List.map_reverse], by rw [List.length_reverse]; omega⟩
      · exact .inl ⟨ns ++ ms, by rw [List.map_append], by rw [List.length_append]; omega⟩
      · exact .inr (.inr (.inl rfl))
      · exact .inr (.inr (.inr (.inl rfl)))
      · exact .inr (.inr (.inr (.inr (.inl rfl))))
      · exact .inr (.inr (.inr (.inr (.inr rfl))))
      · exact .inl ⟨[], rfl, by decide⟩
    repeat first | ((with_reducible show WSs _ _ _ _ _); exact row_one B Df hv fun b => ⟨⟨_, _, _, rfl⟩, rfl⟩) | walk_at "dl"
  · obtain ⟨⟨x10, x12, x13, rfl⟩, rfl⟩ := w
    repeat first | ((with_reducible show WSs _ _ _ _ _); exact txt_end B Df q) | walk_at "dl"
end
section
open PySem PySem.Spec PyProof.Rows L2 DL PySem.NumText
local macro_rules | `(tactic| walk_at "dlS") => `(tactic| ((with_reducible show WS _ (Stmt.Assign [Expr.Name _ _] (Expr.ListComp _ _ _ _) _) _ _ _); refine ws_lc rfl rfl rfl rfl rfl (by kernel_rfl) (by kernel_rfl) ?_))
local macro_rules | `(tactic| walk_at "dl") => `(tactic| ((with_reducible show WK _ _ _ _ _); first | refine wk_cons ?_ | refine wk_nil ?_))
theorem asksD_name {Γ : G} {x : Str} {C : Addr} {p : Pos} (hg : GlN Γ x) (hm : Γ.M.mg x = some (.ref C)) (hd : (x == ("__debug__" : Str)) = false := by decide) : ∀ X, Γ.Has X → DLX.Asks X (.Name x p) [.ref C] := fun X hX =>
  DLX.asks_name ⟨hX.gl hg, hd, .inl (by rw [← hX.mg]; exact hm)⟩
theorem asksD_two {Γ : G} {x y : Str} {C D : Addr} {p1 p2 tp : Pos} {n : Nat} (hg : GlN Γ x) (hm : Γ.M.mg x = some (.ref C)) (hg2 : GlN Γ y) (hm2 : Γ.M.mg y = some (.ref D)) (hd : (x == ("__debug__" : Str)) = false := by decide) (hd2 : (y == ("__debug__" : Str)) = false := by decide) :
    ∀ X, Γ.Has X → DLX.Asks X (.Tuple [.Name x p1, .Name y p2] n tp) [.ref C, .ref D] := fun X hX =>
  DLX.asks_tup2 ⟨hX.gl hg, hd, .inl (by rw [← hX.mg]; exact hm)⟩ ⟨hX.gl hg2, hd2, .inl (by rw [← hX.mg]; exact hm2)⟩
/-- which class an except clause takes -/
structure Kin3 (M : Mo) (er : ErrA) : Prop where
  ex : ∀ (i j : Nat) (C D : Addr), (clsAt er)[i]? = some C → (clsAt er)[j]? = some D → PySem.W.exmOne M.K (.ref C) (.ref D) = some (decide (j = i))
theorem Kin3.one {M : Mo} {er : ErrA} (k : Kin3 M er) {i j : Nat} {C D : Addr} (h1 : (clsAt er)[i]? = some C) (h2 : (clsAt er)[j]? = some D) : PySem.W.exmAny M.K (.ref C) [.ref D] = some (decide (j = i)) := by
  unfold PySem.W.exmAny PySem.W.exmAny
  rw [k.ex i j C D h1 h2]
  simp
theorem Kin3.two {M : Mo} {er : ErrA} (k : Kin3 M er) {i j l : Nat} {C D E : Addr} (h1 : (clsAt er)[i]? = some C) (h2 : (clsAt er)[j]? = some D) (h3 : (clsAt er)[l]? = some E) : PySem.W.exmAny M.K (.ref C) [.ref D, .ref E] = some (decide (j = i) || decide (l = i)) := by
  unfold PySem.W.exmAny PySem.W.exmAny PySem.W.exmAny
  rw [k.ex i j C D h1 h2, k.ex i l C E h1 h3]
  simp
/-- error.given where an except suite holds it -/
theorem we_given {Γ : G} {F0 : DL.Fr} {a C : Addr} {d : D} {da : Option Addr} {e : Expr} {pos : Pos} {ρ : Env'} {O : Opens} {Q : DK} (rx : RepX Γ.M.K F0 (giv C d) (.ref C) da) (rd : XfC Γ.M.K C) (no : PySem.W.findIn Γ.M.K (.ref C) "given" = some none)
    (h : We (suiteG Γ F0 a (giv C d) da) e ρ O fun y O1 => y = .raw (.ref a) ∧ Q d O1) (hb : ∀ env, attributeBase e "given" env (eval e env) = eval e env := by intro _; rfl) : We (suiteG Γ F0 a (giv C d) da) (.Attribute e "given" pos) ρ O Q := by
  obtain ⟨_, _, hx⟩ := rx
  rcases hx with hx | ⟨dd, vs, rfl, h1, h2⟩
  · cases hx
  · exact we_xp (h.imp fun y O1 ⟨hy, q⟩ => ⟨a, C, ["given"], [d], dd, d, hy, ⟨rfl, rfl, rfl⟩, ⟨vs, h1, h2⟩, rd, no, rfl, q⟩) hb
/-- the texts of the loop -/
def SV (z : Str) : Prop := z.length ≤ 4000 ∧ PyData.strOk z = true
theorem SV.cut {z : Str} {k : Nat} (h : z.length ≤ k ∧ PyData.strOk z = true) (lo hi : Option Int) : (cutS z lo hi).length ≤ k ∧ PyData.strOk (cutS z lo hi) = true := by
  have e : (cutS z lo hi).cps.toList = (z.cps.toList.drop (HT.sIx z.length 0 lo)).take (HT.sIx z.length z.length hi - HT.sIx z.length 0 lo) := by unfold cutS; rfl
  obtain ⟨h1, h2⟩ := h
  refine ⟨?_, ?_⟩
  · rw [len_cps, e, List.length_take, List.length_drop, ← len_cps]
    omega
  · unfold PyData.strOk at h2 ⊢
    rw [← Array.all_toList] at h2 ⊢
    rw [e]
    exact List.all_eq_true.mpr fun c hc => List.all_eq_true.mp h2 c (List.mem_of_mem_drop (List.mem_of_mem_take hc))
theorem plain_ints {n : Nat} {is : List Int} (h : is.length ≤ 100000) : Plain (n + 1) (.tup (is.map D.int)) := .tup (by rw [List.length_map]; exact h) fun x hx => by
  obtain ⟨b, _, rfl⟩ := List.mem_map.mp hx
  exact .int
theorem val_end1 {M : Mo} {er : ErrA} {F : DL.Fr} {Ed : XD → Opens → Prop} {Z : EndsD} {O : Opens} {x0 x1 x2 x4 x6 x7 x8 : Option D} {z : Str} {is : List Int} (B : Blt M) (Df : TxDefs M er) (hl : is.length ≤ 100000)
    (q : Z.nx [x0, x1, x2, none, x4, some (.lst [.str (Str.ofString "told"), .tup (is.map .int)]), x6, x7, x8, some (.str z), some (.tup (is.map .int)), none, none, none, none, none] O) :
    WSs (bodyG M NT (defScope (topS 71)) 7 F Ed) ((loopB ((defBody (topS 71)).drop 6)).drop 2) [x0, x1, x2, none, x4, some (.lst [.str (Str.ofString "told"), .tup (is.map .int)]), x6, x7, x8, some (.str z), some (.tup (is.map .int)), none, none, none, none, none] O Z := by
  obtain ⟨_, _, _, _, _, g6, _, _⟩ := id Df
  repeat walk_at "dl"
  refine q_nisn (fun v hv => nomatch hv) ?_
  repeat walk_at "dl"
  refine ⟨_, rfl, .lst (Nat.le_of_ble_eq_true rfl) (plain_two (.str (by decide +kernel)) (plain_ints hl)), ?_⟩
  repeat walk_at "dl"
  exact q
theorem val_end2 {M : Mo} {er : ErrA} {F : DL.Fr} {Ed : XD → Opens → Prop} {Z : EndsD} {O : Opens} {x0 x1 x2 x4 x6 x7 x8 : Option D} {z : Str} (B : Blt M) (Df : TxDefs M er) (hz : SV z)
    (q : Z.nx [x0, x1, x2, none, x4, some (.lst [.str (Str.ofString "text"), .str z]), x6, x7, x8, some (.str z), some .non, none, none, none, none, none] O) :
    WSs (bodyG M NT (defScope (topS 71)) 7 F Ed) ((loopB ((defBody (topS 71)).drop 6)).drop 2) [x0, x1, x2, none, x4, some (.lst [.str (Str.ofString "text"), .str z]), x6, x7, x8, some (.str z), some .non, none, none, none, none, none] O Z := by
  obtain ⟨_, _, _, _, _, g6, _, _⟩ := id Df
  repeat walk_at "dl"
  refine q_nisn (fun v hv => nomatch hv) ?_
  repeat walk_at "dl"
  refine ⟨_, rfl, .lst (Nat.le_of_ble_eq_true rfl) (plain_two (.str (by decide +kernel)) (.str (Nat.le_trans hz.1 (by decide)))), ?_⟩
  repeat walk_at "dl"
  exact q
theorem lawRead_len {z : Str} {is : List Int} (h : lawRead z = some is) (hz : z.length ≤ 4000) : is.length ≤ 100000 := by
  unfold lawRead at h
  split at h
  · cases h; decide
  · split at h
    · split at h
      · cases h
        rw [List.length_map]
        exact Nat.le_trans (split_le _ _) (by omega)
      · cases h
    · cases h
theorem val_one {M : Mo} {er : ErrA} {F : DL.Fr} {Ed : XD → Opens → Prop} {Z : EndsD} {O : Opens} {x0 x2 x4 x5 x6 x7 x8 x10 : Option D} {nm : Bool} {z : Str} (B : Blt M) (Er : Errs M er) (K3 : Kin3 M er) (Df : TxDefs M er) (hz : SV z)
    (q : ∀ x5 x10, Z.nx [x0, some (.bl nm), x2, none, x4, x5, x6, x7, x8, some (.str z), x10, none, none, none, none, none] O) :
    WSs (bodyG M NT (defScope (topS 71)) 7 F Ed) (loopB ((defBody (topS 71)).drop 6)) [x0, some (.bl nm), x2, none, x4, x5, x6, x7, x8, some (.str z), x10, none, none, none, none, none] O Z := by
  obtain ⟨_, g2, _, _, _, g6, g7, _⟩ := id Df
  repeat walk_at "dl"
  refine ⟨z, rfl, hz, ?_⟩
  repeat walk_at "dl"
  refine ws_try rfl (.cons (i := 11) (asksD_name rfl Er.text.g) rfl rfl .nil) (fun F1 e1 => ?_)
  repeat walk_at "dl"
  have gz : ∀ y, D.str z = .str y → GoodS y := fun y e => by cases e; exact ⟨Nat.le_trans hz.1 (by decide), hz.2⟩
  have er1 := lawRead_eq z
  cases ho : lawRead z with
  | some is =>
    rw [ho] at er1
    have hl := lawRead_len ho hz.1
    cases nm with
    | true =>
      repeat walk_at "dl"
      refine ⟨_, .str, rfl, rfl, gz, fun ns hn => ?_, fun hn => nomatch er1.trans hn⟩
      cases er1.trans hn
      repeat first | ((with_reducible show WSs _ _ _ _ _); exact val_end1 B Df hl (q _ _)) | walk_at "dl"
    | false =>
      repeat walk_at "dl"
      refine we_callK0 g2 kw_read_outcome (Nat.le_of_ble_eq_true rfl) rfl rfl ?_
      repeat walk_at "dl"
      refine ⟨rfl, _, .str, rfl, rfl, gz, fun ns hn => ?_, fun hn => nomatch er1.trans hn⟩
      cases er1.trans hn
      repeat first | ((with_reducible show WSs _ _ _ _ _); exact val_end1 B Df hl (q _ _)) | walk_at "dl"
  | none =>
    rw [ho] at er1
    cases nm with
    | true =>
      repeat walk_at "dl"
      refine ⟨_, .str, rfl, rfl, gz, fun ns hn => (nomatch er1.trans hn), fun _ => ?_⟩
      refine ⟨true, by rw [show (giv er.text (.str z)).cls = er.text from rfl]; exact K3.one (i := 2) (j := 2) rfl rfl, fun _ F2 a da e2 rx => ?_, fun h => nomatch h⟩
      repeat walk_at "dl"
      refine we_given rx Er.text.rd Er.text.no ?_
      repeat walk_at "dl"
      refine ⟨rfl, ?_⟩
      repeat first | ((with_reducible show WSs _ _ _ _ _); exact val_end2 B Df hz (q _ _)) | walk_at "dl"
    | false =>
      repeat walk_at "dl"
      refine we_callK0 g2 kw_read_outcome (Nat.le_of_ble_eq_true rfl) rfl rfl ?_
      repeat walk_at "dl"
      refine ⟨rfl, _, .str, rfl, rfl, gz, fun ns hn => (nomatch er1.trans hn), fun _ => ?_⟩
      refine ⟨true, by rw [show (giv er.text (.str z)).cls = er.text from rfl]; exact K3.one (i := 2) (j := 2) rfl rfl, fun _ F2 a da e2 rx => ?_, fun h => nomatch h⟩
      repeat walk_at "dl"
      refine we_given rx Er.text.rd Er.text.no ?_
      repeat walk_at "dl"
      refine ⟨rfl, ?_⟩
      repeat first | ((with_reducible show WSs _ _ _ _ _); exact val_end2 B Df hz (q _ _)) | walk_at "dl"
end
section
open PySem PySem.Spec PyProof.Rows L2 DL PySem.NumText
local macro_rules | `(tactic| walk_at "dlS") => `(tactic| ((with_reducible show WS _ (Stmt.Assign [Expr.Name _ _] (Expr.ListComp _ _ _ _) _) _ _ _); refine ws_lc rfl rfl rfl rfl rfl (by kernel_rfl) (by kernel_rfl) ?_))
local macro_rules | `(tactic| walk_at "dl") => `(tactic| ((with_reducible show WK _ _ _ _ _); first | refine wk_cons ?_ | refine wk_nil ?_))
/-- a text of at most k signs, each right -/
def TK (k : Nat) (z : Str) : Prop := z.length ≤ k ∧ PyData.strOk z = true
theorem TK.app {k l : Nat} {x y : Str} (h1 : TK k x) (h2 : TK l y) : TK (k + l) (x ++ y) := ⟨by rw [str_len]; have := h1.1; have := h2.1; omega, ok_app h1.2 h2.2⟩
theorem TK.le {k l : Nat} {x : Str} (h1 : TK k x) (h : k ≤ l) : TK l x := ⟨Nat.le_trans h1.1 h, h1.2⟩
theorem TK.cut {k : Nat} {x : Str} (h1 : TK k x) (lo hi : Option Int) : TK k (cutS x lo hi) := SV.cut h1 lo hi
theorem q_addT {k l : Nat} {x y : Str} {O : Opens} {Q : DK} (h1 : TK k x) (h2 : TK l y) (h : Q (.str (x ++ y)) O) (hk : k + l ≤ 16777216 := by decide) : BinQ .Add (.str x) (.str y) O Q := q_adds (by have := h1.1; have := h2.1; have : sizeLine = 16777216 := rfl; omega) h
theorem q_slT {k : Nat} {z : Str} {lo hi : Option Int} {O : Opens} {Q : DK} (h1 : TK k z) (h : Q (.str (cutS z lo hi)) O) (hk : k ≤ 16777216 := by decide) : SlQ (.str z) lo hi O Q := q_sls (Nat.le_trans h1.1 hk) h
theorem txt_vals {M : Mo} {er : ErrA} {F : DL.Fr} {Ed : XD → Opens → Prop} {Qd : DK} {O : Opens} {x0 x5 : Option D} {nm : Bool} {ns : List Int} {z sg : Str} {at_ : Int} (B : Blt M) (Er : Errs M er) (K3 : Kin3 M er) (Df : TxDefs M er) (hl : ns.length ≤ 100) (hz : TK 400 z) (hs : TK 2 sg)
    (q : Qd (.bl true) O) :
    WSs (bodyG M NT (defScope (topS 71)) 7 F Ed) ((defBody (topS 71)).drop 5) [x0, some (.bl nm), some (.tup (ns.map .int)), none, some (.str z), x5, some (.int at_), some (.str sg), none, none, none, none, none, none, none, none] O { nx := fun _ O' => Qd .non O', rt := Qd } := by
  have s0 : TK 1 (Str.ofString " ") := by unfold TK; decide +kernel
  have s1 : TK 1 (Str.ofString "0") := by unfold TK; decide +kernel
  have s2 : TK 4 (Str.ofString " 100") := by unfold TK; decide +kernel
  have c1 := hz.cut none (some at_)
  have c2 := hz.cut (some at_) none
  have c3 := hz.cut (some (at_ + 1)) none
  repeat walk_at "dl"
  refine q_slT hz ?_
  repeat walk_at "dl"
  refine q_addT c1 hs ?_
  repeat walk_at "dl"
  refine q_slT hz ?_
  refine q_addT (c1.app hs) c2 ?_
  repeat walk_at "dl"
  refine q_slT hz ?_
  repeat walk_at "dl"
  refine q_slT hz ?_
  refine q_addT c1 c3 ?_
  repeat walk_at "dl"
  refine q_addT hz s0 ?_
  repeat walk_at "dl"
  refine q_addT s0 hz ?_
  repeat walk_at "dl"
  refine q_addT s1 hz ?_
  repeat walk_at "dl"
  refine q_addT hz s0 ?_
  repeat walk_at "dl"
  refine q_addT (hz.app s0) hz ?_
  repeat walk_at "dl"
  refine q_addT hz s2 ?_
  repeat walk_at "dl"
  refine ws_forI rfl ?_
  refine pi_ls ?_
  repeat walk_at "dl"
  refine ⟨_, .inl rfl, ?_⟩
  refine for_stateD _ (fun j ρ' O' => (∃ x5 x8 x9 x10, ρ' = [x0, some (.bl nm), some (.tup (ns.map .int)), none, some (.str z), x5, some (.int at_), some (.str sg), x8, x9, x10, none, none, none, none, none]) ∧ O' = O) ⟨⟨_, _, _, _, rfl⟩, rfl⟩ (fun j x ρ' O' hj hx w => ?_) fun ρ' O' w => ?_
  · obtain ⟨⟨x5, x8, x9, x10, rfl⟩, rfl⟩ := w
    have hv : ∃ y, x = .str y ∧ SV y := by
      have hx := List.mem_of_getElem? hx
      simp only [List.mem_cons, List.not_mem_nil, or_false] at hx
      rcases hx with rfl | rfl | rfl | rfl | rfl | rfl | rfl | rfl | rfl
      · exact ⟨_, rfl, (((c1.app hs).app c2).le (by decide : _ ≤ 4000))⟩
      · exact ⟨_, rfl, ((c1.app c3).le (by decide : _ ≤ 4000))⟩
      · exact ⟨_, rfl, ((hz.app s0).le (by decide : _ ≤ 4000))⟩
      · exact ⟨_, rfl, ((s0.app hz).le (by decide : _ ≤ 4000))⟩
      · exact ⟨_, rfl, ((s1.app hz).le (by decide : _ ≤ 4000))⟩
      · exact ⟨_, rfl, (((hz.app s0).app hz).le (by decide : _ ≤ 4000))⟩
      · exact ⟨_, rfl, by unfold SV; decide +kernel⟩
      · exact ⟨_, rfl, by unfold SV; decide +kernel⟩
      · exact ⟨_, rfl, ((hz.app s2).le (by decide : _ ≤ 4000))⟩
    obtain ⟨y, rfl, hy⟩ := hv
    repeat first | ((with_reducible show WSs _ _ _ _ _); exact val_one B Er K3 Df hy fun x5 x10 => ⟨⟨_, _, _, _, rfl⟩, rfl⟩) | walk_at "dl"
  · obtain ⟨⟨x5, x8, x9, x10, rfl⟩, rfl⟩ := w
    repeat first | ((with_reducible show WSs _ _ _ _ _); exact txt_rows B Df hl q) | walk_at "dl"
end
section
open PySem PySem.Spec PyProof.Rows L2 DL PySem.NumText
local macro_rules | `(tactic| walk_at "dlS") => `(tactic| ((with_reducible show WS _ (Stmt.Assign [Expr.Name _ _] (Expr.ListComp _ _ _ _) _) _ _ _); refine ws_lc rfl rfl rfl rfl rfl (by kernel_rfl) (by kernel_rfl) ?_))
local macro_rules | `(tactic| walk_at "dl") => `(tactic| ((with_reducible show WK _ _ _ _ _); first | refine wk_cons ?_ | refine wk_nil ?_))
theorem joinL_mem2 {s : List Nat} {c : Nat} : ∀ {ps : List (List Nat)}, c ∈ TL.joinL s ps → c ∈ s ∨ ∃ p ∈ ps, c ∈ p
  | [], h => absurd h (by simp [TL.joinL])
  | [q], h => .inr ⟨q, List.mem_cons_self, h⟩
  | q :: r :: t, h => by
    rcases List.mem_append.mp (show c ∈ q ++ (s ++ TL.joinL s (r :: t)) from h) with h | h
    · exact .inr ⟨q, List.mem_cons_self, h⟩
    · rcases List.mem_append.mp h with h | h
      · exact .inl h
      · rcases joinL_mem2 h with h | ⟨p, hp, h⟩
        · exact .inl h
        · exact .inr ⟨p, List.mem_cons_of_mem _ hp, h⟩
theorem joinL_len {s : List Nat} {k : Nat} : ∀ {ps : List (List Nat)}, (∀ p ∈ ps, p.length ≤ k) → (TL.joinL s ps).length ≤ ps.length * (k + s.length)
  | [], _ => Nat.zero_le _
  | [q], h => by
    have := h q List.mem_cons_self
    show q.length ≤ 1 * _
    omega
  | q :: r :: t, h => by
    have h1 := h q List.mem_cons_self
    have h2 := joinL_len (s := s) (k := k) (ps := r :: t) fun p hp => h p (List.mem_cons_of_mem _ hp)
    show (q ++ (s ++ TL.joinL s (r :: t))).length ≤ _
    rw [List.length_append, List.length_append, List.length_cons, Nat.add_mul]
    omega
theorem joinL_pos {s q : List Nat} {ps : List (List Nat)} (h : 1 ≤ q.length) : 1 ≤ (TL.joinL s (q :: ps)).length := by
  cases ps with
  | nil => exact h
  | cons r t =>
    show 1 ≤ (q ++ (s ++ TL.joinL s (r :: t))).length
    rw [List.length_append]; omega
theorem evText_toL (ns : List Int) : (evText ns).cps.toList = TL.joinL [32] ((ns.map fun n => Str.ofString (toString n)).map TL.tl) := by
  have e := TL.tl_join (Str.ofString " ") (ns.map fun n => Str.ofString (toString n))
  have e2 : TL.tl (Str.ofString " ") = [32] := by decide +kernel
  rw [e2] at e
  unfold evText
  rw [TL.join_eq]
  exact e
theorem evText_tk {ns : List Int} (hn : ∀ n ∈ ns, 0 ≤ n ∧ n ≤ 99) (hl : ns.length ≤ 100) : TK 300 (evText ns) := by
  refine ⟨?_, ?_⟩
  · rw [len_cps, evText_toL]
    refine Nat.le_trans (joinL_len (k := 2) fun p hp => ?_) ?_
    · obtain ⟨w, hw, rfl⟩ := List.mem_map.mp hp
      obtain ⟨n, hm, rfl⟩ := List.mem_map.mp hw
      have := len99' (hn n hm)
      rw [len_cps] at this
      exact this
    · rw [List.length_map, List.length_map]
      show ns.length * (2 + 1) ≤ 300
      omega
  · unfold PyData.strOk
    rw [← Array.all_toList, evText_toL]
    refine List.all_eq_true.mpr fun c hc => ?_
    rcases joinL_mem2 hc with h | ⟨p, hp, h⟩
    · rw [List.mem_singleton.mp h]; decide
    · obtain ⟨w, hw, rfl⟩ := List.mem_map.mp hp
      obtain ⟨n, hm, rfl⟩ := List.mem_map.mp hw
      have := ok_int n
      unfold PyData.strOk at this
      rw [← Array.all_toList] at this
      exact List.all_eq_true.mp this c h
theorem evText_pos {n : Int} {ns : List Int} (hn : 0 ≤ n) : 1 ≤ (evText (n :: ns)).length := by
  rw [len_cps, evText_toL]
  refine joinL_pos ?_
  show 1 ≤ (Str.ofString (toString n)).cps.toList.length
  rw [pos_text hn, num_toL]
  cases hc : TL.numL n.natAbs with
  | nil => exact absurd hc (TL.numL_ne _)
  | cons _ _ => exact Nat.succ_le_succ (Nat.zero_le _)
theorem isOut_asc {ns : List Int} (hn : ∀ n ∈ ns, 0 ≤ n ∧ n ≤ 99) (ha : ns.Pairwise (· < ·)) : isOut (.tup (ns.map .int)) = true := by
  rw [isOut_ints, ascI_iff.mpr ha, List.all_eq_true.mpr fun n h => ?_]
  · rfl
  · have := hn n h
    unfold in99
    rw [decide_eq_true this.1, decide_eq_true this.2]; rfl
theorem ask_out {O : Opens} {ns : List Int} (hl : ns.length ≤ 100) : AskOut O (.tup (ns.map .int)) := VR.ask (.inl ⟨ns, rfl, by omega⟩)
theorem otext_sp {er : ErrA} {O : Opens} {Q : DK} {E : XD → Opens → Prop} {ns : List Int} (hl : ns.length ≤ 100) (ho : isOut (.tup (ns.map .int)) = true) (q : Q (.str (outText (ns.map .int))) O) : spOutText er [.tup (ns.map .int)] O Q E :=
  ⟨_, rfl, ask_out hl, fun xs e => by cases e; rw [List.length_map]; omega, fun xs e _ => by cases e; exact q, fun z => by rw [ho] at z; cases z⟩
theorem oread_sp {er : ErrA} {O : Opens} {Q : DK} {E : XD → Opens → Prop} {ns : List Int} (hn : ∀ n ∈ ns, 0 ≤ n ∧ n ≤ 99) (hz : TK 400 (outText (ns.map .int))) (ho : isOut (.tup (ns.map .int)) = true) (q : Q (.tup (ns.map .int)) O) : spReadOut er [.str (outText (ns.map .int))] O Q E := by
  have r1 : readOut (.str (outText (ns.map .int))) = some ns := out_round hn ho
  exact ⟨_, .str, rfl, rfl, fun z e => by cases e; exact ⟨Nat.le_trans hz.1 (by decide), hz.2⟩, fun p hp => by cases r1.symm.trans hp; exact q, fun z => nomatch r1.symm.trans z⟩
def spTxR : SpD := fun ds O Q _ => ∃ (a : Addr) (nm : Bool) (n : Nat), ds = [.raw (.ref a), .bl nm] ∧ Bx a n O ∧ n + 300 ≤ 1000000 ∧ ∀ O', Bx a (n + 202) O' → Q (.bl true) O'
theorem txt_three {M : Mo} {er : ErrA} {F : DL.Fr} {Ed : XD → Opens → Prop} {Qd : DK} {O : Opens} {a : Addr} {n : Nat} {nm : Bool} {ns : List Int} (B : Blt M) (Er : Errs M er) (K3 : Kin3 M er) (Df : TxDefs M er) (hl : ns.length ≤ 100) (hn : ∀ n ∈ ns, 0 ≤ n ∧ n ≤ 99) (ha : ns.Pairwise (· < ·)) (hb : Bx a n O) (hN : n + 10 ≤ 1000000)
    (hz : TK 400 (outText (ns.map .int))) (hp : 1 ≤ (outText (ns.map .int)).length) (q : ∀ O', Bx a (n + 2) O' → Qd (.bl true) O') :
    WSs (bodyG M NT (defScope (topS 71)) 7 F Ed) ((defBody (topS 71)).drop 2) [some (.raw (.ref a)), some (.bl nm), some (.tup (ns.map .int)), none, some (.str (outText (ns.map .int))), none, none, none, none, none, none, none, none, none, none, none] O { nx := fun _ O' => Qd .non O', rt := Qd } := by
  obtain ⟨g1, g2, _, _, _, g6, _, g8⟩ := id Df
  have ho := isOut_asc hn ha
  have rest : WSs (bodyG M NT (defScope (topS 71)) 7 F Ed) ((defBody (topS 71)).drop 4) [some (.raw (.ref a)), some (.bl nm), some (.tup (ns.map .int)), none, some (.str (outText (ns.map .int))), some (.lst [.str (outText (ns.map .int)), .tup (ns.map .int)]), none, none, none, none, none, none, none, none, none, none] O { nx := fun _ O' => Qd .non O', rt := Qd } := by
    repeat walk_at "dl"
    refine q_lens (Nat.le_trans hz.1 (by decide)) ?_
    repeat walk_at "dl"
    refine ⟨a, _, _, rfl, hb, by omega, by omega, by have := hz.1; omega, fun r O2 r0 r1 b2 u2 => ?_⟩
    repeat walk_at "dl"
    refine ⟨a, 7, _, rfl, b2, by omega, by decide, by decide, fun k O3 k0 k1 b3 u3 => ?_⟩
    repeat walk_at "dl"
    have pick : ∃ sg, atI [D.str (Str.ofString "0"), D.str (Str.ofString " "), D.str (Str.ofString "-"), D.str (Str.ofString "5"), D.str (Str.ofString "  "), D.str (Str.ofString "x"), D.str (Str.ofString "+")] k = some (.str sg) ∧ TK 2 sg := by
      rcases (show k = 0 ∨ k = 1 ∨ k = 2 ∨ k = 3 ∨ k = 4 ∨ k = 5 ∨ k = 6 by omega) with rfl | rfl | rfl | rfl | rfl | rfl | rfl <;> exact ⟨_, rfl, by unfold TK; decide +kernel⟩
    obtain ⟨sg, hk, hs⟩ := pick
    refine q_ixl hk ?_
    repeat first | ((with_reducible show WSs _ _ _ _ _); exact txt_vals B Er K3 Df hl hz hs (q _ b3)) | walk_at "dl"
  cases nm with
  | true =>
    repeat walk_at "dl"
    refine we_callK0 g1 kw_outcome_text (Nat.le_of_ble_eq_true rfl) rfl rfl ?_
    repeat walk_at "dl"
    refine ⟨rfl, otext_sp hl ho ?_⟩
    repeat walk_at "dl"
    refine we_callK0 g2 kw_read_outcome (Nat.le_of_ble_eq_true rfl) rfl rfl ?_
    repeat walk_at "dl"
    refine ⟨rfl, oread_sp hn hz ho ?_⟩
    repeat walk_at "dl"
    refine ⟨_, rfl, .lst (Nat.le_of_ble_eq_true rfl) (plain_two (.str (Nat.le_trans hz.1 (by decide))) (plain_ints (by omega))), ?_⟩
    repeat first | exact rest | walk_at "dl"
  | false =>
    repeat walk_at "dl"
    refine otext_sp hl ho ?_
    repeat walk_at "dl"
    refine oread_sp hn hz ho ?_
    repeat walk_at "dl"
    refine ⟨_, rfl, .lst (Nat.le_of_ble_eq_true rfl) (plain_two (.str (Nat.le_trans hz.1 (by decide))) (plain_ints (by omega))), ?_⟩
    repeat first | exact rest | walk_at "dl"
end
section
open PySem PySem.Spec PyProof.Rows L2 DL PySem.NumText
local macro_rules | `(tactic| walk_at "dlS") => `(tactic| ((with_reducible show WS _ (Stmt.Assign [Expr.Name _ _] (Expr.ListComp _ _ _ _) _) _ _ _); refine ws_lc rfl rfl rfl rfl rfl (by kernel_rfl) (by kernel_rfl) ?_))
theorem txt_two {M : Mo} {er : ErrA} {F : DL.Fr} {Ed : XD → Opens → Prop} {Qd : DK} {O : Opens} {a : Addr} {n : Nat} {nm : Bool} {ns : List Int} (B : Blt M) (Er : Errs M er) (K3 : Kin3 M er) (Df : TxDefs M er) (hl : ns.length ≤ 100) (hn : ∀ n ∈ ns, 0 ≤ n ∧ n ≤ 99) (ha : ns.Pairwise (· < ·)) (hb : Bx a n O) (hN : n + 10 ≤ 1000000)
    (q : ∀ O', Bx a (n + 2) O' → Qd (.bl true) O') :
    WSs (bodyG M NT (defScope (topS 71)) 7 F Ed) ((defBody (topS 71)).drop 1) [some (.raw (.ref a)), some (.bl nm), some (.tup (ns.map .int)), none, none, none, none, none, none, none, none, none, none, none, none, none] O { nx := fun _ O' => Qd .non O', rt := Qd } := by
  have et : outText (ns.map D.int) = if (ns.map D.int).isEmpty then Str.ofString "none" else evText ns := by
    unfold outText; rw [map_intOf]
  repeat walk_at "dl"
  refine q_ned (Lay.le (lay_tup (n := 0) lays_ints) (by decide)) (Lay.le (lay_tup (n := 0) fun d hd => nomatch hd) (by decide)) ?_
  rw [eqD_tup, show eqDs (ns.map D.int) [] = decide (ns = []) from eqDs_ints (ms := [])]
  cases ns with
  | nil =>
    have fin := txt_three (F := F) (Ed := Ed) (nm := nm) (ns := []) B Er K3 Df hl hn ha hb hN (by unfold TK; decide +kernel) (by decide +kernel) q
    have e : outText (([] : List Int).map D.int) = Str.ofString "none" := by decide +kernel
    rw [e] at fin
    repeat first | ((with_reducible show WSs _ _ _ _ _); exact fin) | walk_at "dl"
  | cons n0 r =>
    have et : outText ((n0 :: r).map D.int) = evText (n0 :: r) := et
    have fin := txt_three (F := F) (Ed := Ed) (nm := nm) (ns := n0 :: r) B Er K3 Df hl hn ha hb hN (by rw [et]; exact (evText_tk hn hl).le (by decide)) (by rw [et]; exact evText_pos (hn n0 List.mem_cons_self).1) q
    rw [et] at fin
    rw [decide_eq_false (by simp)]
    repeat walk_at "dl"
    refine we_join ?_
    repeat walk_at "dl"
    refine pi_tp ?_
    repeat walk_at "dl"
    refine ⟨_, rfl, lc_mapA (n0 :: r) D.int (fun n => .str (Str.ofString (toString n))) (Nat.le_trans hl (by decide)) (fun F0 m hm => ?_) ?_⟩
    · repeat walk_at "dl"
      exact ⟨log99 (hn m hm), rfl, rfl⟩
    · refine ⟨(n0 :: r).map fun n => Str.ofString (toString n), .inl (by rw [List.map_map]; rfl), ?_, ?_⟩
      · have h1 := sum_le_two (n0 :: r) hn
        have h2 : (Str.ofString " ").length = 1 := by decide +kernel
        rw [List.length_map, h2]
        omega
      · have ee : Txt.join (Str.ofString " ") ((n0 :: r).map fun n => Str.ofString (toString n)) = evText (n0 :: r) := rfl
        rw [ee]
        repeat first | ((with_reducible show WSs _ _ _ _ _); exact fin) | walk_at "dl"
theorem ok_texts_right {M : Mo} {er : ErrA} {f : Addr} {fd : FuncData} (B : Blt M) (Er : Errs M er) (K3 : Kin3 M er) (Df : TxDefs M er)
    (hm : M.mg "_law_texts_right" = some (.ref f)) (Fn : Fun M.K "_law_texts_right" "_law_texts_right" (topS 71) f fd) : DefD M "_law_texts_right" (topS 71) ["box", "named"] 8 spTxR := by
  have h_take := Df.take
  refine def_ok (N := NT) hm Fn ⟨rfl, rfl, rfl, by decide +kernel, rfl, by decide +kernel, by decide +kernel⟩ (fun _ _ _ _ _ _ us hl => match us, hl with | [_, _], _ => rfl) (fun ds O Q E ⟨_, _, _, e, _⟩ => by rw [e]; rfl) fun F ds O Qd Ed ⟨a, nm, n, e, hb, hn, q⟩ => ?_
  subst e
  repeat walk_at "dl"
  refine ⟨by decide, by decide, ?_⟩
  refine lc_stateC (List.range 100) (fun i : Nat => D.int (i : Int)) (fun i acc O' => ∃ is : List Int, acc = is.map D.int ∧ is.Pairwise (· < ·) ∧ (∀ k ∈ is, 0 ≤ k ∧ k < (i : Int)) ∧ is.length ≤ i ∧ Bx a (n + 2 * i) O') (by decide) ⟨[], rfl, .nil, (fun _ h => nomatch h), Nat.le_refl _, hb⟩ (fun i acc O' _ ⟨is, w, _, _, hl, _⟩ => by rw [w, List.length_map]; exact hl) (fun F0 i x acc O' hi hx w => ?_) fun acc O1 w => ?_
  · obtain ⟨is, rfl, w1, w2, w3, w4⟩ := w
    rw [List.length_range] at hi
    have hxi : x = i := by
      rw [List.getElem?_range hi] at hx
      exact (Option.some.inj hx).symm
    subst hxi
    repeat walk_at "dl"
    refine ⟨a, 3, _, rfl, w4, by omega, by decide, by decide, fun r O2 r0 r1 b2 u2 => ?_⟩
    have pick : ∃ m : Int, atI [D.int 4, D.int 30, D.int 100] r = some (.int m) ∧ 1 ≤ m ∧ m < 2 ^ 64 := by
      rcases (show r = 0 ∨ r = 1 ∨ r = 2 by omega) with rfl | rfl | rfl
      · exact ⟨4, rfl, by decide, by decide⟩
      · exact ⟨30, rfl, by decide, by decide⟩
      · exact ⟨100, rfl, by decide, by decide⟩
    obtain ⟨m, hm, m1, m2⟩ := pick
    refine q_ixl hm ?_
    repeat walk_at "dl"
    refine ⟨a, m, _, rfl, b2, by omega, m1, m2, fun s O3 s0 s1 b3 u3 => ?_⟩
    repeat walk_at "dl"
    have b4 : Bx a (n + 2 * (x + 1)) O3 := b3.le (by omega)
    refine if2 (fun h => ?_) (fun h => ?_)
    · repeat walk_at "dl"
      refine ⟨is ++ [(x : Int)], by rw [List.map_append]; rfl, ?_, fun k hk => ?_, by rw [List.length_append, List.length_singleton]; omega, b4⟩
      · refine List.pairwise_append.mpr ⟨w1, List.pairwise_singleton _ _, fun k hk j hj => ?_⟩
        rw [List.mem_singleton.mp hj]
        exact (w2 k hk).2
      · rcases List.mem_append.mp hk with hk | hk
        · have := w2 k hk; omega
        · rw [List.mem_singleton.mp hk]; omega
    · exact ⟨is, rfl, w1, fun k hk => by have := w2 k hk; omega, by omega, b4⟩
  · obtain ⟨is, rfl, w1, w2, w3, w4⟩ := w
    rw [List.length_range] at w2 w3 w4
    repeat first | ((with_reducible show WSs _ _ _ _ _); exact txt_two B Er K3 Df w3 (fun k hk => by have := w2 k hk; omega) w1 w4 (by omega) q) | walk_at "dl"
end
section
open PySem PySem.Spec PyProof.Rows L2 DL PySem.NumText
local macro_rules | `(tactic| walk_at "dlE") => `(tactic| ((with_reducible show We _ (Expr.Call (Expr.Name "isinstance" _) [Expr.Name "error" _, _] [] _) _ _ _); refine we_isx (by assumption) rfl ?_))
abbrev ND : List Str := ["way", "one", "other", "error"]
def hdB (k : Nat) (l : List Stmt) : List Stmt := match l with
  | .Try _ hs _ _ _ :: _ => (match hs[k]? with
    | some (.ExceptHandler _ _ b _) => b
    | _ => [])
  | _ => []
structure ToDefs (M : Mo) (er : ErrA) : Prop where
  lowest : DefD M "lowest" (topS 47) ["top", "base"] 3 (spLowest er)
  plus : DefD M "plus" (topS 50) ["one", "other"] 5 (spBin er plusI)
  minus : DefD M "minus" (topS 51) ["one", "other"] 5 (spBin er minusI)
  times : DefD M "times" (topS 52) ["one", "other"] 5 (spBin er timesI)
  compared : DefD M "compared" (topS 53) ["one", "other"] 5 (spBin er comparedI)
  ftext : DefD M "fraction_text" (topS 54) ["fraction"] 4 (spFrText er)
  fread : DefD M "read_fraction" (topS 56) ["text"] 4 (spReadFr er)
  otext : DefD M "outcome_text" (topS 42) ["outcome"] 5 (spOutText er)
  p0 : ∃ f, M.mg "plus" = some (.ref f)
  p1 : ∃ f, M.mg "minus" = some (.ref f)
  p2 : ∃ f, M.mg "times" = some (.ref f)
  p3 : ∃ f, M.mg "compared" = some (.ref f)
  p4 : ∃ f, M.mg "fraction_text" = some (.ref f)
  p5 : ∃ f, M.mg "outcome_text" = some (.ref f)
  p6 : ∃ f, M.mg "read_fraction" = some (.ref f)
theorem pin_xd {Γ : G} {F0 : DL.Fr} {C : Addr} {d : D} {da : Option Addr} (rx : RepX Γ.M.K F0 (giv C d) (.ref C) da) : ∃ dd, da = some dd ∧ ∃ (ns : List Str) (vs : List V), F0.z dd = some (.xd (ns.zip vs)) := by
  obtain ⟨_, _, hx⟩ := rx
  rcases hx with hx | ⟨dd, vs, rfl, h1, h2⟩
  · cases hx
  · exact ⟨dd, rfl, _, vs, h1⟩
/-- isinstance(error, C) where an except suite holds it -/
theorem isx_suite {Γ : G} {F0 : DL.Fr} {a C D' : Addr} {d : D} {da : Option Addr} {O : Opens} {Q : DK} {b : Bool} (rx : RepX Γ.M.K F0 (giv C d) (.ref C) da) (ec : ExcC Γ.M.K C) (kk : PySem.W.kitOne Γ.M.K (.ref C) (.ref D') = some b) (q : Q (.bl b) O) :
    IsXQ (suiteG Γ F0 a (giv C d) da) [.raw (.ref a), .raw (.ref D')] O Q := by
  obtain ⟨dd, rfl, h⟩ := pin_xd rx
  exact ⟨C, dd, _, b, ⟨rfl, rfl, rfl⟩, h, rfl, ec, kk, q⟩
theorem told_s1 {M : Mo} {er : ErrA} {E : Addr} {F F2 : DL.Fr} {Ed : XD → Opens → Prop} {Z : EndsD} {O : Opens} {x0 x1 x2 : Option D} {a C : Addr} {d : D} {da : Option Addr} {i : Nat} (B : Blt M) (Er : Errs M er) (Kn : Kin M er) (K2 : Kin2 M er E) (hC : (clsAt er)[i]? = some C) (hi : fldAt[i]? = some ("given" : Str)) (rx : RepX M.K F2 (giv C d) (.ref C) da)
    (q : Z.rt (.lst [.str (if 1 = i then Str.ofString "fraction" else Str.ofString "number"), d]) O) :
    WSs (suiteG (bodyG M ND (defScope (topS 73)) 5 F Ed) F2 a (giv C d) da) (hdB 0 (defBody (topS 73))) [x0, x1, x2, some (.raw (.ref a))] O Z := by
  repeat walk_at "dl"
  refine we_cls rfl Er.frac.g ?_
  refine isx_suite rx (Kn.is i C hC) (Kn.own i 1 C er.frac hC rfl) ?_
  have rd := K2.rd i C hC
  have no := K2.no i C _ hC hi
  repeat walk_at "dl"
  refine if2 (fun h => ?_) (fun h => ?_)
  · rw [if_pos (of_decide_eq_true h)] at q
    repeat walk_at "dl"
    refine we_given rx rd no ?_
    repeat walk_at "dl"
    refine ⟨rfl, ?_⟩
    repeat walk_at "dl"
    exact q
  · rw [if_neg (of_decide_eq_false h)] at q
    repeat walk_at "dl"
    refine we_given rx rd no ?_
    repeat walk_at "dl"
    refine ⟨rfl, ?_⟩
    repeat walk_at "dl"
    exact q
theorem told_s2 {M : Mo} {er : ErrA} {E : Addr} {F F2 : DL.Fr} {Ed : XD → Opens → Prop} {Z : EndsD} {O : Opens} {x0 x1 x2 : Option D} {a C : Addr} {d : D} {da : Option Addr} {i : Nat} (B : Blt M) (Er : Errs M er) (Kn : Kin M er) (K2 : Kin2 M er E) (hC : (clsAt er)[i]? = some C) (hi : fldAt[i]? = some ("given" : Str)) (rx : RepX M.K F2 (giv C d) (.ref C) da)
    (q : Z.rt (.lst [.str (if 6 = i then Str.ofString "outcome" else Str.ofString "text"), d]) O) :
    WSs (suiteG (bodyG M ND (defScope (topS 73)) 5 F Ed) F2 a (giv C d) da) (hdB 1 (defBody (topS 73))) [x0, x1, x2, some (.raw (.ref a))] O Z := by
  repeat walk_at "dl"
  refine we_cls rfl Er.outcome.g ?_
  refine isx_suite rx (Kn.is i C hC) (Kn.own i 6 C er.outcome hC rfl) ?_
  have rd := K2.rd i C hC
  have no := K2.no i C _ hC hi
  repeat walk_at "dl"
  refine if2 (fun h => ?_) (fun h => ?_)
  · rw [if_pos (of_decide_eq_true h)] at q
    repeat walk_at "dl"
    refine we_given rx rd no ?_
    repeat walk_at "dl"
    refine ⟨rfl, ?_⟩
    repeat walk_at "dl"
    exact q
  · rw [if_neg (of_decide_eq_false h)] at q
    repeat walk_at "dl"
    refine we_given rx rd no ?_
    repeat walk_at "dl"
    refine ⟨rfl, ?_⟩
    repeat walk_at "dl"
    exact q
abbrev toldL' (er : ErrA) : List HdD := [([Value.ref er.frac, Value.ref er.num], 3, hdB 0 (defBody (topS 73))), ([Value.ref er.outcome, Value.ref er.text], 3, hdB 1 (defBody (topS 73)))]
theorem told_e1 {M : Mo} {er : ErrA} {E : Addr} {F : DL.Fr} {Ed : XD → Opens → Prop} {Z : EndsD} {O : Opens} {x0 x1 x2 x3 : Option D} {C : Addr} {d : D} {i : Nat} (B : Blt M) (Er : Errs M er) (Kn : Kin M er) (K2 : Kin2 M er E) (K3 : Kin3 M er) (hC : (clsAt er)[i]? = some C) (hi : i = 0 ∨ i = 1)
    (q : Z.rt (.lst [.str (if 1 = i then Str.ofString "fraction" else Str.ofString "number"), d]) O) :
    EHs (bodyG M ND (defScope (topS 73)) 5 F Ed) Z (toldL' er) (giv C d) [x0, x1, x2, x3] O := by
  have hg : fldAt[i]? = some ("given" : Str) := by rcases hi with rfl | rfl <;> rfl
  refine ⟨true, ?_, fun _ F2 a da e2 rx => ?_, fun h => nomatch h⟩
  · rcases hi with rfl | rfl
    · exact K3.two (j := 1) (l := 0) hC rfl rfl
    · exact K3.two (j := 1) (l := 0) hC rfl rfl
  · exact told_s1 B Er Kn K2 hC hg rx q
theorem told_e2 {M : Mo} {er : ErrA} {E : Addr} {F : DL.Fr} {Ed : XD → Opens → Prop} {Z : EndsD} {O : Opens} {x0 x1 x2 x3 : Option D} {C : Addr} {d : D} {i : Nat} (B : Blt M) (Er : Errs M er) (Kn : Kin M er) (K2 : Kin2 M er E) (K3 : Kin3 M er) (hC : (clsAt er)[i]? = some C) (hi : i = 6 ∨ i = 2)
    (q : Z.rt (.lst [.str (if 6 = i then Str.ofString "outcome" else Str.ofString "text"), d]) O) :
    EHs (bodyG M ND (defScope (topS 73)) 5 F Ed) Z (toldL' er) (giv C d) [x0, x1, x2, x3] O := by
  have hg : fldAt[i]? = some ("given" : Str) := by rcases hi with rfl | rfl <;> rfl
  refine ⟨false, ?_, (fun h => nomatch h), fun _ => ⟨true, ?_, fun _ F2 a da e2 rx => ?_, fun h => nomatch h⟩⟩
  · rcases hi with rfl | rfl
    · exact K3.two (j := 1) (l := 0) hC rfl rfl
    · exact K3.two (j := 1) (l := 0) hC rfl rfl
  · rcases hi with rfl | rfl
    · exact K3.two (j := 6) (l := 2) hC rfl rfl
    · exact K3.two (j := 6) (l := 2) hC rfl rfl
  · exact told_s2 B Er Kn K2 hC hg rx q
/-- what is told of a call that is refused -/
def ToldR (O : Opens) (w : Int) (x y : D) (wd : Str) (d : D) : Prop :=
  (0 ≤ w ∧ w < 4 ∧ AskFr O x ∧ AskFr O y ∧ ((isFrac x = false ∧ wd = Str.ofString "fraction" ∧ d = x) ∨ (isFrac x = true ∧ isFrac y = false ∧ wd = Str.ofString "fraction" ∧ d = y))) ∨
  (w = 4 ∧ (∃ t, tyD O x = some t) ∧ (∃ t, tyD O y = some t) ∧ ((isInt x = false ∧ wd = Str.ofString "number" ∧ d = x) ∨ (isInt x = true ∧ isBase y = false ∧ wd = Str.ofString "number" ∧ d = y))) ∨
  (w = 5 ∧ AskFr O x ∧ isFrac x = false ∧ wd = Str.ofString "fraction" ∧ d = x) ∨
  (w = 6 ∧ AskOut O x ∧ (∀ xs, x = .tup xs → xs.length ≤ 1000) ∧ isOut x = false ∧ wd = Str.ofString "outcome" ∧ d = x) ∨
  (w = 7 ∧ (∃ t, tyD O x = some t) ∧ (∀ z, x = .str z → GoodS z) ∧ readFr x = none ∧ wd = Str.ofString "text" ∧ d = x)
def spTold : SpD := fun ds O Q _ => ∃ (w : Int) (x y : D) (wd : Str) (d : D), ds = [.int w, x, y] ∧ ToldR O w x y wd d ∧ Q (.lst [.str wd, d]) O
theorem ok_told {M : Mo} {er : ErrA} {E : Addr} {f : Addr} {fd : FuncData} (B : Blt M) (Er : Errs M er) (Kn : Kin M er) (K2 : Kin2 M er E) (K3 : Kin3 M er) (Td : ToDefs M er)
    (hm : M.mg "_law_told" = some (.ref f)) (Fn : Fun M.K "_law_told" "_law_told" (topS 73) f fd) : DefD M "_law_told" (topS 73) ["way", "one", "other"] 6 spTold := by
  refine def_ok (N := ND) hm Fn ⟨rfl, rfl, rfl, by decide +kernel, rfl, by decide +kernel, by decide +kernel⟩ (fun _ _ _ _ _ _ us hl => match us, hl with | [_, _, _], _ => rfl) (fun ds O Q E ⟨_, _, _, _, _, e, _⟩ => by rw [e]; rfl) fun F ds O Qd Ed ⟨w, x, y, wd, d, e, hT, q⟩ => ?_
  subst e
  obtain ⟨g1, g2, g3, g4, g5, g6, g7, g8, ⟨f0, p0⟩, ⟨f1, p1⟩, ⟨f2, p2⟩, ⟨f3, p3⟩, ⟨f4, p4⟩, ⟨f5, p5⟩, ⟨f6, p6⟩⟩ := Td
  repeat walk_at "dl"
  refine ws_try rfl (.cons (i := 3) (asksD_two rfl Er.frac.g rfl Er.num.g) rfl rfl (.cons (i := 3) (asksD_two rfl Er.outcome.g rfl Er.text.g) rfl rfl .nil)) (fun F1 e1 => ?_)
  rcases hT with ⟨w0, w1, ax, ay, hT⟩ | ⟨rfl, ax, ay, hT⟩ | ⟨rfl, ax, hx, rfl, rfl⟩ | ⟨rfl, ax, al, hx, rfl, rfl⟩ | ⟨rfl, ⟨t, ax⟩, ag, hx, rfl, rfl⟩
  · have bin : ∀ {g : Int → Int → Int → Int → D} {Q : DK} {E' : XD → Opens → Prop}, (∀ C d', (clsAt er)[1]? = some C → wd = Str.ofString "fraction" → d = d' → E' (giv C d') O) → spBin er g [x, y] O Q E' := fun {g Q E'} h => by
      refine ⟨x, y, rfl, ax, ay, fun a b c d _ _ h1 h2 => ?_, fun h1 => ?_, fun h1 h2 => ?_⟩
      · rcases hT with ⟨k1, _, _⟩ | ⟨_, k2, _, _⟩
        · rw [k1] at h1; cases h1
        · rw [k2] at h2; cases h2
      · rcases hT with ⟨_, k2, k3⟩ | ⟨k1, _, _, _⟩
        · exact h _ _ rfl k2 k3
        · rw [k1] at h1; cases h1
      · rcases hT with ⟨k1, _, _⟩ | ⟨_, _, k3, k4⟩
        · rw [k1] at h1; cases h1
        · exact h _ _ rfl k3 k4
    have e1 : decide (w < 4) = true := decide_eq_true w1
    repeat walk_at "dl"
    rw [e1]
    repeat walk_at "dl"
    refine we_callS rfl ?_
    repeat walk_at "dl"
    refine we_cls rfl p0 ?_
    repeat walk_at "dl"
    refine we_cls rfl p1 ?_
    repeat walk_at "dl"
    refine we_cls rfl p2 ?_
    repeat walk_at "dl"
    refine we_cls rfl p3 ?_
    repeat walk_at "dl"
    rcases (show w = 0 ∨ w = 1 ∨ w = 2 ∨ w = 3 by omega) with rfl | rfl | rfl | rfl
    · refine q_ixl (d := .raw (.ref f0)) rfl ?_
      refine ⟨_, ⟨_, _, _, _, f0, rfl, p0, g2, Nat.le_of_ble_eq_true rfl⟩, ?_⟩
      repeat walk_at "dl"
      refine bin fun C d' hC hw hd => ?_
      subst hw hd
      exact told_e1 B Er Kn K2 K3 hC (.inr rfl) q
    · refine q_ixl (d := .raw (.ref f1)) rfl ?_
      refine ⟨_, ⟨_, _, _, _, f1, rfl, p1, g3, Nat.le_of_ble_eq_true rfl⟩, ?_⟩
      repeat walk_at "dl"
      refine bin fun C d' hC hw hd => ?_
      subst hw hd
      exact told_e1 B Er Kn K2 K3 hC (.inr rfl) q
    · refine q_ixl (d := .raw (.ref f2)) rfl ?_
      refine ⟨_, ⟨_, _, _, _, f2, rfl, p2, g4, Nat.le_of_ble_eq_true rfl⟩, ?_⟩
      repeat walk_at "dl"
      refine bin fun C d' hC hw hd => ?_
      subst hw hd
      exact told_e1 B Er Kn K2 K3 hC (.inr rfl) q
    · refine q_ixl (d := .raw (.ref f3)) rfl ?_
      refine ⟨_, ⟨_, _, _, _, f3, rfl, p3, g5, Nat.le_of_ble_eq_true rfl⟩, ?_⟩
      repeat walk_at "dl"
      refine bin fun C d' hC hw hd => ?_
      subst hw hd
      exact told_e1 B Er Kn K2 K3 hC (.inr rfl) q
  · repeat walk_at "dl"
    refine ⟨x, y, rfl, ax, ay, fun t b h1 h2 hb => ?_, fun h1 => ?_, fun h1 h2 => ?_⟩
    · subst h1 h2
      rcases hT with ⟨k1, _, _⟩ | ⟨_, k2, _, _⟩
      · cases k1
      · rw [show isBase (.int b) = decide (1 ≤ b) from rfl, decide_eq_true hb] at k2; cases k2
    · rcases hT with ⟨_, rfl, rfl⟩ | ⟨k1, _, _, _⟩
      · exact told_e1 (i := 0) B Er Kn K2 K3 rfl (.inl rfl) q
      · rw [k1] at h1; cases h1
    · rcases hT with ⟨k1, _, _⟩ | ⟨_, _, rfl, rfl⟩
      · rw [k1] at h1; cases h1
      · exact told_e1 (i := 0) B Er Kn K2 K3 rfl (.inl rfl) q
  · repeat walk_at "dl"
    refine we_callS rfl ?_
    repeat walk_at "dl"
    refine we_cls rfl p4 ?_
    repeat walk_at "dl"
    refine we_cls rfl p5 ?_
    repeat walk_at "dl"
    refine we_cls rfl p6 ?_
    repeat walk_at "dl"
    refine ⟨_, ⟨_, _, _, _, f4, rfl, p4, g6, Nat.le_of_ble_eq_true rfl⟩, ?_⟩
    repeat walk_at "dl"
    exact ⟨_, rfl, ax, (fun a b e h => by rw [hx] at h; cases h), fun _ => told_e1 (i := 1) B Er Kn K2 K3 rfl (.inr rfl) q⟩
  · repeat walk_at "dl"
    refine we_callS rfl ?_
    repeat walk_at "dl"
    refine we_cls rfl p4 ?_
    repeat walk_at "dl"
    refine we_cls rfl p5 ?_
    repeat walk_at "dl"
    refine we_cls rfl p6 ?_
    repeat walk_at "dl"
    refine ⟨_, ⟨_, _, _, _, f5, rfl, p5, g8, Nat.le_of_ble_eq_true rfl⟩, ?_⟩
    repeat walk_at "dl"
    exact ⟨_, rfl, ax, al, (fun xs e h => by rw [hx] at h; cases h), fun _ => told_e2 (i := 6) B Er Kn K2 K3 rfl (.inl rfl) q⟩
  · repeat walk_at "dl"
    refine we_callS rfl ?_
    repeat walk_at "dl"
    refine we_cls rfl p4 ?_
    repeat walk_at "dl"
    refine we_cls rfl p5 ?_
    repeat walk_at "dl"
    refine we_cls rfl p6 ?_
    repeat walk_at "dl"
    refine ⟨_, ⟨_, _, _, _, f6, rfl, p6, g7, Nat.le_of_ble_eq_true rfl⟩, ?_⟩
    repeat walk_at "dl"
    exact ⟨_, t, rfl, ax, ag, (fun p e => by rw [hx] at e; cases e), fun _ => told_e2 (i := 2) B Er Kn K2 K3 rfl (.inr rfl) q⟩
end
section
open PySem PySem.Spec PyProof.Rows L2 DL PySem.NumText
local macro_rules | `(tactic| walk_at "dlS") => `(tactic| ((with_reducible show WS _ (Stmt.Assign [Expr.Name _ _] (Expr.ListComp _ _ _ _) _) _ _ _); refine ws_lc rfl rfl rfl rfl rfl (by kernel_rfl) (by kernel_rfl) ?_))
abbrev NV : List Str := ["box", "bad", "odd", "base", "out", "text", "told", "way", "due"]
theorem at_mem {xs : List D} {r : Int} (h0 : 0 ≤ r) (h1 : r < xs.length) : ∃ x, atI xs r = some x ∧ x ∈ xs := by
  obtain ⟨n, rfl⟩ := Int.eq_ofNat_of_zero_le h0
  have hn : n < xs.length := by omega
  exact ⟨xs[n], at_nat rfl (List.getElem?_eq_getElem hn), List.getElem_mem hn⟩
abbrev badL : List D := [.non, .int 5, .tup [.int 1, .int 0], .tup [.int 2, .int 4], .tup [.int 1], .lst [.int 1, .int 2], .tup [.int 1, .int (-2)], .tup [.bl true, .int 2], .str (Str.ofString "1/2"), .tup [.int 0, .int 3]]
def BadOk (x : D) : Prop := (∀ O, AskFr O x) ∧ isFrac x = false ∧ Plain 2 x
theorem plain_pair2 {x y : D} (h1 : Plain 1 x) (h2 : Plain 1 y) : Plain 2 (.tup [x, y]) := .tup (Nat.le_of_ble_eq_true rfl) (plain_two h1 h2)
theorem bad_all : ∀ x ∈ badL, BadOk x := by
  intro x hx
  simp only [badL, List.mem_cons, List.not_mem_nil, or_false] at hx
  rcases hx with rfl | rfl | rfl | rfl | rfl | rfl | rfl | rfl | rfl | rfl
  · exact ⟨fun O => ⟨⟨_, rfl⟩, fun x y e => nomatch e⟩, rfl, .non⟩
  · exact ⟨fun O => ⟨⟨_, rfl⟩, fun x y e => nomatch e⟩, rfl, .int⟩
  · exact ⟨fun O => ask_fr 1 0, by decide +kernel, plain_pair2 .int .int⟩
  · exact ⟨fun O => ask_fr 2 4, by decide +kernel, plain_pair2 .int .int⟩
  · exact ⟨fun O => ⟨⟨_, rfl⟩, fun x y e => nomatch e⟩, rfl, .tup (by decide) fun x hx => by rw [List.mem_singleton.mp hx]; exact .int⟩
  · exact ⟨fun O => ⟨⟨_, rfl⟩, fun x y e => nomatch e⟩, rfl, .lst (by decide) (plain_two .int .int)⟩
  · exact ⟨fun O => ask_fr 1 (-2), by decide +kernel, plain_pair2 .int .int⟩
  · exact ⟨fun O => ⟨⟨_, rfl⟩, fun x y e => by cases e; exact ⟨⟨_, rfl⟩, _, rfl⟩⟩, by decide +kernel, plain_pair2 .bl .int⟩
  · exact ⟨fun O => ⟨⟨_, rfl⟩, fun x y e => nomatch e⟩, rfl, .str (by decide +kernel)⟩
  · exact ⟨fun O => ask_fr 0 3, by decide +kernel, plain_pair2 .int .int⟩
abbrev oddL : List D := [.non, .str (Str.ofString "5"), .bl true, .tup [.int 1, .int 2], .lst [.int 1]]
def OddOk (x : D) : Prop := (∀ O, ∃ t, tyD O x = some t) ∧ isInt x = false ∧ Plain 2 x
theorem odd_all : ∀ x ∈ oddL, OddOk x := by
  intro x hx
  simp only [oddL, List.mem_cons, List.not_mem_nil, or_false] at hx
  rcases hx with rfl | rfl | rfl | rfl | rfl
  · exact ⟨fun O => ⟨_, rfl⟩, rfl, .non⟩
  · exact ⟨fun O => ⟨_, rfl⟩, rfl, .str (by decide +kernel)⟩
  · exact ⟨fun O => ⟨_, rfl⟩, rfl, .bl⟩
  · exact ⟨fun O => ⟨_, rfl⟩, rfl, plain_pair2 .int .int⟩
  · exact ⟨fun O => ⟨_, rfl⟩, rfl, .lst (by decide) fun x hx => by rw [List.mem_singleton.mp hx]; exact .int⟩
abbrev baseL : List D := [.int 0, .int (-1), .non, .bl true, .str (Str.ofString "1")]
def BaseOk (x : D) : Prop := (∀ O, ∃ t, tyD O x = some t) ∧ isBase x = false ∧ Plain 2 x
theorem base_all : ∀ x ∈ baseL, BaseOk x := by
  intro x hx
  simp only [baseL, List.mem_cons, List.not_mem_nil, or_false] at hx
  rcases hx with rfl | rfl | rfl | rfl | rfl
  · exact ⟨fun O => ⟨_, rfl⟩, by decide, .int⟩
  · exact ⟨fun O => ⟨_, rfl⟩, by decide, .int⟩
  · exact ⟨fun O => ⟨_, rfl⟩, rfl, .non⟩
  · exact ⟨fun O => ⟨_, rfl⟩, rfl, .bl⟩
  · exact ⟨fun O => ⟨_, rfl⟩, rfl, .str (by decide +kernel)⟩
abbrev outL : List D := [.non, .int 5, .tup [.int 2, .int 1], .tup [.int 1, .int 1], .lst [.int 1], .tup [.int 100], .tup [.int (-1)], .tup [.bl true], .str (Str.ofString "none")]
def OutOk (x : D) : Prop := (∀ O, AskOut O x) ∧ (∀ xs, x = .tup xs → xs.length ≤ 1000) ∧ isOut x = false ∧ Plain 2 x
theorem out_of {O : Opens} {is : List Int} (h : is.length ≤ 300) : AskOut O (.tup (is.map .int)) := VR.ask (.inl ⟨is, rfl, h⟩)
theorem out_all : ∀ x ∈ outL, OutOk x := by
  intro x hx
  simp only [outL, List.mem_cons, List.not_mem_nil, or_false] at hx
  rcases hx with rfl | rfl | rfl | rfl | rfl | rfl | rfl | rfl | rfl
  · exact ⟨fun O => ⟨⟨_, rfl⟩, fun xs e => nomatch e⟩, fun xs e => (nomatch e), rfl, .non⟩
  · exact ⟨fun O => ⟨⟨_, rfl⟩, fun xs e => nomatch e⟩, fun xs e => (nomatch e), rfl, .int⟩
  · exact ⟨fun O => out_of (is := [2, 1]) (by decide), fun xs e => by cases e; decide, by decide +kernel, plain_pair2 .int .int⟩
  · exact ⟨fun O => out_of (is := [1, 1]) (by decide), fun xs e => by cases e; decide, by decide +kernel, plain_pair2 .int .int⟩
  · exact ⟨fun O => ⟨⟨_, rfl⟩, fun xs e => nomatch e⟩, fun xs e => (nomatch e), rfl, .lst (by decide) fun x hx => by rw [List.mem_singleton.mp hx]; exact .int⟩
  · exact ⟨fun O => out_of (is := [100]) (by decide), fun xs e => by cases e; decide, by decide +kernel, .tup (by decide) fun x hx => by rw [List.mem_singleton.mp hx]; exact .int⟩
  · exact ⟨fun O => out_of (is := [-1]) (by decide), fun xs e => by cases e; decide, by decide +kernel, .tup (by decide) fun x hx => by rw [List.mem_singleton.mp hx]; exact .int⟩
  · exact ⟨fun O => VR.ask (.inr (.inr (.inl rfl))), fun xs e => by cases e; decide, by decide +kernel, .tup (by decide) fun x hx => by rw [List.mem_singleton.mp hx]; exact .bl⟩
  · exact ⟨fun O => ⟨⟨_, rfl⟩, fun xs e => nomatch e⟩, fun xs e => (nomatch e), rfl, .str (by decide +kernel)⟩
abbrev textL : List D := [.non, .int 5, .str (Str.ofString ""), .str (Str.ofString "1/"), .str (Str.ofString "/2"), .str (Str.ofString "2/4"), .str (Str.ofString "01"), .str (Str.ofString "+1"), .str (Str.ofString "1/0"), .str (Str.ofString "-0"), .str (Str.ofString "1/1"), .str (Str.ofString " 1"), .lst [.str (Str.ofString "1")]]
def TextOk (x : D) : Prop := (∀ O, ∃ t, tyD O x = some t) ∧ (∀ z, x = .str z → GoodS z) ∧ readFr x = none ∧ Plain 2 x
theorem text_of {z : Str} (h1 : z.length ≤ 10000) (h2 : PyData.strOk z = true) (h3 : fracIn z = none) : TextOk (.str z) := ⟨fun O => ⟨_, rfl⟩, fun y e => by cases e; exact ⟨h1, h2⟩, h3, .str (by omega)⟩
theorem text_all : ∀ x ∈ textL, TextOk x := by
  intro x hx
  simp only [textL, List.mem_cons, List.not_mem_nil, or_false] at hx
  rcases hx with rfl | rfl | rfl | rfl | rfl | rfl | rfl | rfl | rfl | rfl | rfl | rfl | rfl
  · exact ⟨fun O => ⟨_, rfl⟩, (fun z e => nomatch e), rfl, .non⟩
  · exact ⟨fun O => ⟨_, rfl⟩, (fun z e => nomatch e), rfl, .int⟩
  · exact text_of (by decide +kernel) (by decide +kernel) (by decide +kernel)
  · exact text_of (by decide +kernel) (by decide +kernel) (by decide +kernel)
  · exact text_of (by decide +kernel) (by decide +kernel) (by decide +kernel)
  · exact text_of (by decide +kernel) (by decide +kernel) (by decide +kernel)
  · exact text_of (by decide +kernel) (by decide +kernel) (by decide +kernel)
  · exact text_of (by decide +kernel) (by decide +kernel) (by decide +kernel)
  · exact text_of (by decide +kernel) (by decide +kernel) (by decide +kernel)
  · exact text_of (by decide +kernel) (by decide +kernel) (by decide +kernel)
  · exact text_of (by decide +kernel) (by decide +kernel) (by decide +kernel)
  · exact text_of (by decide +kernel) (by decide +kernel) (by decide +kernel)
  · exact ⟨fun O => ⟨_, rfl⟩, (fun z e => nomatch e), rfl, .lst (by decide) fun x hx => by rw [List.mem_singleton.mp hx]; exact .str (by decide +kernel)⟩
end
section
open PySem PySem.Spec PyProof.Rows L2 DL PySem.NumText
local macro_rules | `(tactic| walk_at "dlS") => `(tactic| ((with_reducible show WS _ (Stmt.Assign [Expr.Name _ _] (Expr.ListComp _ _ _ _) _) _ _ _); refine ws_lc rfl rfl rfl rfl rfl (by kernel_rfl) (by kernel_rfl) ?_))
local macro_rules | `(tactic| walk_at "dlS") => `(tactic| first
  | ((with_reducible show WS _ (Stmt.Assign [Expr.Name _ _] (Expr.ListComp _ _ _ _) _) _ _ _); refine ws_lc rfl rfl rfl rfl rfl (by kernel_rfl) (by kernel_rfl) ?_)
  | ((with_reducible show WS _ (Stmt.Assign [Expr.Name _ _] _ _) _ _ _); (refine ws_nm ?a ?v ?hq ?hs; (case a => rfl); (case v => walk_at "loc"); (case hs => (intro env he; rfl)))))
def spRef : SpD := fun ds O Q _ => ∃ (a : Addr) (n : Nat), ds = [.raw (.ref a)] ∧ Bx a n O ∧ n + 10 ≤ 1000000 ∧ ∀ O', Bx a (n + 5) O' → Q (.bl true) O'
theorem ok_refused {M : Mo} {er : ErrA} {f : Addr} {fd : FuncData} (B : Blt M) (h_take : DefD M "_law_take" (topS 61) ["box", "many"] 1 spTake) (h_told : DefD M "_law_told" (topS 73) ["way", "one", "other"] 6 spTold) (h_same : DefD M "_law_same" (topS 62) ["told", "due"] 5 (spSame 4))
    (hm : M.mg "_law_refused" = some (.ref f)) (Fn : Fun M.K "_law_refused" "_law_refused" (topS 74) f fd) : DefD M "_law_refused" (topS 74) ["box"] 7 spRef := by
  refine def_ok (N := NV) hm Fn ⟨rfl, rfl, rfl, by decide +kernel, rfl, by decide +kernel, by decide +kernel⟩ (fun _ _ _ _ _ _ us hl => match us, hl with | [_], _ => rfl) (fun ds O Q E ⟨_, _, e, _⟩ => by rw [e]; rfl) fun F ds O Qd Ed ⟨a, n, e, hb, hn, q⟩ => ?_
  subst e
  repeat walk_at "dl"
  refine ⟨a, 10, _, rfl, hb, by omega, by decide, by decide, fun r1 O1 l1 u1 b1 _ => ?_⟩
  obtain ⟨bad, e1, m1⟩ := at_mem (xs := badL) l1 (by exact u1)
  obtain ⟨ba, bf, bp⟩ := bad_all bad m1
  refine q_ixl e1 ?_
  repeat walk_at "dl"
  refine ⟨a, 5, _, rfl, b1, by omega, by decide, by decide, fun r2 O2 l2 u2 b2 _ => ?_⟩
  obtain ⟨odd, e2, m2⟩ := at_mem (xs := oddL) l2 (by exact u2)
  obtain ⟨oa, of, op⟩ := odd_all odd m2
  refine q_ixl e2 ?_
  repeat walk_at "dl"
  refine ⟨a, 5, _, rfl, b2, by omega, by decide, by decide, fun r3 O3 l3 u3 b3 _ => ?_⟩
  obtain ⟨base, e3, m3⟩ := at_mem (xs := baseL) l3 (by exact u3)
  obtain ⟨ca, cf, cp⟩ := base_all base m3
  refine q_ixl e3 ?_
  repeat walk_at "dl"
  refine ⟨a, 9, _, rfl, b3, by omega, by decide, by decide, fun r4 O4 l4 u4 b4 _ => ?_⟩
  obtain ⟨out, e4, m4⟩ := at_mem (xs := outL) l4 (by exact u4)
  obtain ⟨da, dl, df, dp⟩ := out_all out m4
  refine q_ixl e4 ?_
  repeat walk_at "dl"
  refine ⟨a, 13, _, rfl, b4, by omega, by decide, by decide, fun r5 O5 l5 u5 b5 _ => ?_⟩
  obtain ⟨text, e5, m5⟩ := at_mem (xs := textL) l5 (by exact u5)
  obtain ⟨ta, tg, tf, tp⟩ := text_all text m5
  refine q_ixl e5 ?_
  repeat walk_at "dl"
  refine ⟨by decide, by decide, ?_⟩
  refine lc_mapA (List.range 4) (fun i : Nat => D.int (i : Int)) (fun _ => .lst [.str (Str.ofString "fraction"), bad]) (by decide) (fun F0 i hi => ?_) ?_
  · have hi := List.mem_range.mp hi
    repeat walk_at "dl"
    refine ⟨_, bad, .non, _, bad, rfl, .inl ⟨by omega, by omega, ba _, ⟨⟨_, rfl⟩, fun x y e => nomatch e⟩, .inl ⟨bf, rfl, rfl⟩⟩, rfl, rfl⟩
  repeat walk_at "dl"
  refine ⟨by decide, by decide, ?_⟩
  refine lc_mapA (List.range 4) (fun i : Nat => D.int (i : Int)) (fun _ => .lst [.str (Str.ofString "fraction"), bad]) (by decide) (fun F0 i hi => ?_) ?_
  · have hi := List.mem_range.mp hi
    repeat walk_at "dl"
    refine ⟨_, .tup [.int 1, .int 2], bad, _, bad, rfl, .inl ⟨by omega, by omega, ask_fr 1 2, ba _, .inr ⟨by decide +kernel, bf, rfl, rfl⟩⟩, rfl, rfl⟩
  repeat walk_at "dl"
  have em : ∀ z : D, List.map (fun _ : Nat => z) (List.range 4) = [z, z, z, z] := fun _ => rfl
  rw [em]
  refine q_addl (show 8 ≤ sizeLine from by decide) ?_
  repeat walk_at "dl"
  refine ⟨4, odd, base, Str.ofString "number", odd, rfl, .inr (.inl ⟨rfl, oa _, ca _, .inl ⟨of, rfl, rfl⟩⟩), ?_⟩
  repeat walk_at "dl"
  refine ⟨4, .int 3, base, Str.ofString "number", base, rfl, .inr (.inl ⟨rfl, ⟨_, rfl⟩, ca _, .inr ⟨rfl, cf, rfl, rfl⟩⟩), ?_⟩
  repeat walk_at "dl"
  refine ⟨5, bad, .non, Str.ofString "fraction", bad, rfl, .inr (.inr (.inl ⟨rfl, ba _, bf, rfl, rfl⟩)), ?_⟩
  repeat walk_at "dl"
  refine ⟨6, out, .non, Str.ofString "outcome", out, rfl, .inr (.inr (.inr (.inl ⟨rfl, da _, dl, df, rfl, rfl⟩))), ?_⟩
  repeat walk_at "dl"
  refine ⟨7, text, .non, Str.ofString "text", text, rfl, .inr (.inr (.inr (.inr ⟨rfl, ta _, tg, tf, rfl, rfl⟩))), ?_⟩
  repeat walk_at "dl"
  refine q_addl (show 13 ≤ sizeLine from by decide) ?_
  repeat walk_at "dl"
  refine ⟨by decide, by decide, (show 8 ≤ sizeLine from by decide), ?_⟩
  repeat walk_at "dl"
  refine q_addl (show 13 ≤ sizeLine from by decide) ?_
  repeat walk_at "dl"
  have pp : ∀ (w : Str) (x : D), w.length ≤ 100000 → Plain 2 x → Plain 3 (.lst [.str w, x]) := fun w x h1 h2 => .lst (Nat.le_of_ble_eq_true rfl) (plain_two (.str h1) h2)
  have w1 : (Str.ofString "fraction").length ≤ 100000 := by decide +kernel
  have w2 : (Str.ofString "number").length ≤ 100000 := by decide +kernel
  have w3 : (Str.ofString "outcome").length ≤ 100000 := by decide +kernel
  have w4 : (Str.ofString "text").length ≤ 100000 := by decide +kernel
  have fb := pp _ _ w1 bp
  refine ⟨.lst [.lst [.str (Str.ofString "fraction"), bad], .lst [.str (Str.ofString "fraction"), bad], .lst [.str (Str.ofString "fraction"), bad], .lst [.str (Str.ofString "fraction"), bad], .lst [.str (Str.ofString "fraction"), bad], .lst [.str (Str.ofString "fraction"), bad], .lst [.str (Str.ofString "fraction"), bad], .lst [.str (Str.ofString "fraction"), bad], .lst [.str (Str.ofString "number"), odd], .lst [.str (Str.ofString "number"), base], .lst [.str (Str.ofString "fraction"), bad], .lst [.str (Str.ofString "outcome"), out], .lst [.str (Str.ofString "text"), text]], rfl, .lst (Nat.le_of_ble_eq_true rfl) (fun x hx => ?_), q _ b5⟩
  simp only [List.mem_cons, List.not_mem_nil, or_false, or_self_left] at hx
  rcases hx with rfl | rfl | rfl | rfl | rfl | rfl
  · exact fb
  · exact pp _ _ w2 op
  · exact pp _ _ w2 cp
  · exact fb
  · exact pp _ _ w3 dp
  · exact pp _ _ w4 tp
end
section
open PySem PySem.Spec PyProof.Rows L2 DL PySem.NumText
local macro_rules | `(tactic| walk_at "dlS") => `(tactic| first
  | ((with_reducible show WS _ (Stmt.Assign [Expr.Name _ _] _ _) _ _ _); (refine ws_nm ?a ?v ?hq ?hs; (case a => rfl); (case v => walk_at "loc"); (case hs => (intro env he; rfl)))))
abbrev NL : List Str := ["script", "k", "box", "named", "turn"]
def spLaw : SpD := fun ds O Q _ => ∃ ns : List Int, ds = [.rls (ns.map .int)] ∧ ns.length ≤ 63 ∧ ∀ O', Q (.bl true) O'
theorem ok_law {M : Mo} {f : Addr} {fd : FuncData} (B : Blt M) (h_cell : DefD M "_law_cell" (topS 59) ["script", "k"] 1 spCell) (h_box : DefD M "_law_box" (topS 60) ["great"] 1 spBox) (h_take : DefD M "_law_take" (topS 61) ["box", "many"] 1 spTake)
    (h_err : DefD M "_law_errors_right" (topS 68) ["box"] 7 spErrR) (h_fr : DefD M "_law_fractions_right" (topS 70) ["box", "named"] 8 spFrR) (h_tx : DefD M "_law_texts_right" (topS 71) ["box", "named"] 8 spTxR) (h_ref : DefD M "_law_refused" (topS 74) ["box"] 7 spRef)
    (hm : M.mg "law" = some (.ref f)) (Fn : Fun M.K "law" "law" (topS 75) f fd) : DefD M "law" (topS 75) ["script"] 9 spLaw := by
  refine def_ok (N := NL) hm Fn ⟨rfl, rfl, rfl, by decide +kernel, rfl, by decide +kernel, by decide +kernel⟩ (fun _ _ _ _ _ _ us hl => match us, hl with | [_], _ => rfl) (fun ds O Q E ⟨_, e, _⟩ => by rw [e]; rfl) fun F ds O Qd Ed ⟨ns, e, hl, q⟩ => ?_
  subst e
  repeat walk_at "dl"
  refine ws_forI rfl ?_
  repeat walk_at "dl"
  obtain ⟨m, hm3, em⟩ : ∃ m : Nat, m ≤ 3 ∧ (if (if (((ns.map D.int).length : Nat) : Int) < 3 then (((ns.map D.int).length : Nat) : Int) else 3) > 1 then (if (((ns.map D.int).length : Nat) : Int) < 3 then (((ns.map D.int).length : Nat) : Int) else 3) else 1) = (m : Int) := by
    refine ⟨(if (if (((ns.map D.int).length : Nat) : Int) < 3 then (((ns.map D.int).length : Nat) : Int) else 3) > 1 then (if (((ns.map D.int).length : Nat) : Int) < 3 then (((ns.map D.int).length : Nat) : Int) else 3) else 1).toNat, ?_, ?_⟩
    · split <;> split <;> omega
    · split <;> split <;> omega
  refine ⟨(m : Int), congrArg D.int em, by omega, by omega, ?_⟩
  refine for_stateA (List.range m) (fun i : Nat => D.int (i : Int)) (fun i ρ' O' => ∃ x1 x2 x3 x4, ρ' = [some (.rls (ns.map .int)), x1, x2, x3, x4]) ⟨_, _, _, _, rfl⟩ (fun i x ρ' O' hi hx w => ?_) fun ρ' O' w => ?_
  · obtain ⟨x1, x2, x3, x4, rfl⟩ := w
    rw [List.length_range] at hi
    have hxm := List.mem_range.mp (List.mem_of_getElem? hx)
    repeat walk_at "dl"
    refine ⟨ns, x, rfl, by omega, fun r => ?_⟩
    repeat walk_at "dl"
    refine ⟨r, rfl, fun p O1 hp hb _ => ?_⟩
    repeat walk_at "dl"
    refine ⟨p, 2, _, rfl, hb, by omega, by decide, by decide, fun s O2 s0 s1 b2 _ => ?_⟩
    repeat walk_at "dl"
    generalize (s == 0) = nm
    refine ⟨p, _, rfl, b2, by omega, fun O3 b3 => ?_⟩
    repeat walk_at "dl"
    refine ws_forI rfl ?_
    repeat walk_at "dl"
    refine ⟨by decide, by decide, ?_⟩
    refine for_stateA (List.range 3) (fun i : Nat => D.int (i : Int)) (fun i ρ' O' => ∃ nm x4, ρ' = [some (.rls (ns.map .int)), some (.int (x : Int)), some (.raw (.ref p)), some (.bl nm), x4] ∧ Bx p (89 + 220 * i) O') ⟨_, _, rfl, b3.le (by omega)⟩ (fun j y ρ' O' hj hy w => ?_) fun ρ' O' w => ?_
    · obtain ⟨nm, x4, rfl, bj⟩ := w
      rw [List.length_range] at hj
      repeat walk_at "dl"
      refine ⟨p, nm, _, rfl, bj, by omega, fun O4 b4 => ?_⟩
      repeat walk_at "dl"
      refine ⟨p, !nm, _, rfl, b4, by omega, fun O5 b5 => ?_⟩
      repeat walk_at "dl"
      refine ⟨p, _, rfl, b5, by omega, fun O6 b6 => ?_⟩
      repeat walk_at "dl"
      exact ⟨_, _, rfl, b6.le (by omega)⟩
    · obtain ⟨nm, x4, rfl, bj⟩ := w
      repeat walk_at "dl"
      exact ⟨_, _, _, _, rfl⟩
  · obtain ⟨x1, x2, x3, x4, rfl⟩ := w
    repeat walk_at "dl"
    exact q _
end
/-! K1F: from what the written part says to the law's promise. -/
section
open PySem PySem.Spec PyProof.Rows L2 DL PySem.NumText
/-- a def of the top, as it is written -/
def DefAt (K : PySem.W.Frag) (x : Str) (st : Stmt) : Prop := ∃ (f : Addr) (fd : FuncData), PySem.W.nsIn K mainGlobals x = some (some (.ref f)) ∧ Fun K x x st f fd
abbrev veT : List Value := [.type "ValueError", .type "Exception", .type "BaseException", .type "object"]
/-- an own exception's class, as it is written: behind it stand the classes bm -/
structure ClsAt (K : PySem.W.Frag) (x f : Str) (C fI : Addr) (bm : List Value) : Prop where
  a : PySem.W.nsIn K mainGlobals x = some (some (.ref C))
  xL : ∃ nm q N bs sn sub ab col dd k0 k1 k2 k3 k5, K.lookup C = some (excClassObj nm q C N bs bm true sn sub ab col dd k0 k1 k2 k3 k5 "ValueError.__new__")
  sa : PySem.W.findIn K (.ref C) "__setattr__" = some (some (.builtin "object.__setattr__"))
  ga : PySem.W.findIn K (.ref C) "__getattribute__" = some (some (.builtin "BaseException.__getattribute__"))
  gg : PySem.W.findIn K (.ref C) "__getattr__" = some none
  ha : PySem.W.findIn K (.ref C) "__class__" = some (some (.builtin "object.__class__"))
  no : PySem.W.findIn K (.ref C) f = some none
  iC : PySem.W.findIn K (.ref C) "__init__" = some (some (.ref fI))
  kC : PySem.W.keepIn K (.ref C) = true
theorem defAt_mk {K : PySem.W.Frag} {x : Str} {st : Stmt} {f : Addr} {oc : Value} {od an : Option Addr} {osl : Array (Option Value)} {kV doc pm cdv ct : Value} (a : PySem.W.nsIn K mainGlobals x = some (some (.ref f)))
    (l : K.lookup f = some ⟨oc, od, .func (PySem.W.fnOf x x (defArgs st) (defBody st) (defScope st) .none kV doc pm an cdv ct), osl⟩) (c : PySem.W.codeIn K cdv x = true) (k : PySem.W.keepIn K (.ref f) = true) : DefAt K x st := ⟨f, _, a, fun_mk l c k⟩
section
variable {K : PySem.W.Frag} {x f : Str} {C fI : Addr} {bm : List Value}
theorem clsAt_mk {nm q : Str} {N : Addr} {bs : List Value} {sn : List Str} {sub : List Value} {ab : Bool} {col : Option Bool} {dd : Option Addr} {k0 k1 k2 k3 k5 : Option Value} (a : PySem.W.nsIn K mainGlobals x = some (some (.ref C)))
    (xL : K.lookup C = some (excClassObj nm q C N bs bm true sn sub ab col dd k0 k1 k2 k3 k5 "ValueError.__new__"))
    (sa : PySem.W.findIn K (.ref C) "__setattr__" = some (some (.builtin "object.__setattr__"))) (ga : PySem.W.findIn K (.ref C) "__getattribute__" = some (some (.builtin "BaseException.__getattribute__"))) (gg : PySem.W.findIn K (.ref C) "__getattr__" = some none)
    (ha : PySem.W.findIn K (.ref C) "__class__" = some (some (.builtin "object.__class__"))) (no : PySem.W.findIn K (.ref C) f = some none) (iC : PySem.W.findIn K (.ref C) "__init__" = some (some (.ref fI))) (kC : PySem.W.keepIn K (.ref C) = true) : ClsAt K x f C fI bm :=
  ⟨a, ⟨nm, q, N, bs, sn, sub, ab, col, dd, k0, k1, k2, k3, k5, xL⟩, sa, ga, gg, ha, no, iC, kC⟩
theorem ClsAt.mro (c : ClsAt K x f C fI bm) (v : Value) : PySem.W.subIn K (.ref C) v = some ((Value.ref C :: bm).contains v) := by
  obtain ⟨nm, q, N, bs, sn, sub, ab, col, dd, k0, k1, k2, k3, k5, h⟩ := c.xL
  show PySem.W.mroIn K C v = _
  unfold PySem.W.mroIn PySem.W.clsIn
  rw [h]
  rfl
theorem ClsAt.is (c : ClsAt K x f C fI bm) : (PySem.W.clsIn K C).isSome = true := by
  obtain ⟨nm, q, N, bs, sn, sub, ab, col, dd, k0, k1, k2, k3, k5, h⟩ := c.xL
  unfold PySem.W.clsIn
  rw [h]
  rfl
theorem ClsAt.ty (c : ClsAt K x f C fI bm) : PySem.W.typeIn K (.ref C) = some (.type "type") := by
  obtain ⟨nm, q, N, bs, sn, sub, ab, col, dd, k0, k1, k2, k3, k5, h⟩ := c.xL
  show (K.lookup C).map (·.cls) = _
  rw [h]
  rfl
theorem ClsAt.hd (c : ClsAt K x f C fI bm) : PySem.W.hasDictIn K C = true := by
  obtain ⟨nm, q, N, bs, sn, sub, ab, col, dd, k0, k1, k2, k3, k5, h⟩ := c.xL
  unfold PySem.W.hasDictIn PySem.W.clsIn
  rw [h]
  rfl
theorem has_ve {l : List Value} {v : Value} (h : veT.contains v = true) : (Value.ref C :: (l ++ veT)).contains v = true := by
  have m : v ∈ veT := by simpa using h
  have : v ∈ Value.ref C :: (l ++ veT) := List.mem_cons_of_mem _ (List.mem_append_right _ m)
  simpa using this
variable {l : List Value}
theorem ClsAt.exC (c : ClsAt K x f C fI (l ++ veT)) : PySem.W.subIn K (.ref C) (.type "BaseException") = some true := by
  rw [c.mro, has_ve (by decide +kernel)]
theorem ClsAt.oex (c : ClsAt K x f C fI (l ++ veT)) (hr : PySem.HandSPX.refsVE (l ++ veT) = true) : OexC K C := by
  obtain ⟨nm, q, N, bs, sn, sub, ab, col, dd, k0, k1, k2, k3, k5, h⟩ := c.xL
  exact ⟨⟨nm, q, N, bs, _, sn, sub, ab, col, dd, k0, k1, k2, k3, k5, h, hr⟩, c.sa, c.exC, c.ty, c.kC⟩
theorem ClsAt.xf (c : ClsAt K x f C fI (l ++ veT)) : XfC K C := ⟨c.ga, c.gg, c.exC, c.hd⟩
theorem ClsAt.exc (c : ClsAt K x f C fI (l ++ veT)) (hn : PySem.W.specialIn K (.builtin "object.__class__") "__get__" = some (some (.builtin "getset_descriptor.__get__"))) (ht : PySem.W.takesIn K (.builtin "object.__class__") = some true) : ExcC K C :=
  ⟨c.ga, c.gg, c.exC, c.hd, c.ha, hn, ht, by have := c.mro (.type "object"); rw [has_ve (by decide +kernel)] at this; exact this⟩
theorem ClsAt.clsF (c : ClsAt K x f C fI (l ++ veT)) (hr : PySem.HandSPX.refsVE (l ++ veT) = true) (hn : PySem.W.specialIn K (.builtin "object.__class__") "__get__" = some (some (.builtin "getset_descriptor.__get__"))) (ht : PySem.W.takesIn K (.builtin "object.__class__") = some true) : ClsF K C fI f :=
  ⟨c.oex hr, c.no, c.xf, c.exc hn ht, c.iC⟩
end
/-- what is asked of one of the classes, whichever it is -/
structure ClsG (K : PySem.W.Frag) (G E C : Addr) (f : Str) : Prop where
  ex : ∃ (x : Str) (fI : Addr) (l : List Value), ClsAt K x f C fI (l ++ veT) ∧ (l = [.ref G, .ref E] ∨ l = [.ref E])
theorem ClsG.kit {K : PySem.W.Frag} {G E C D : Addr} {f g : Str} (c : ClsG K G E C f) (d : ClsG K G E D g) (h1 : D ≠ G) (h2 : D ≠ E) : PySem.W.kitCls K (.ref C) (.ref D) = some (decide (D = C)) := by
  obtain ⟨x, fI, l, c, hl⟩ := c.ex
  obtain ⟨y, fJ, l2, d, _⟩ := d.ex
  show (if ((PySem.W.clsIn K D).isSome && PySem.W.typeIn K (.ref D) == some (.type "type")) = true then PySem.W.subIn K (.ref C) (.ref D) else none) = _
  rw [d.is, d.ty, if_pos (by decide +kernel), c.mro]
  congr 1
  rw [Bool.eq_iff_iff, decide_eq_true_iff]
  have w : ∀ a b : Addr, (Value.ref a = Value.ref b) ↔ a = b := fun a b => ⟨fun e => by cases e; rfl, fun e => by rw [e]⟩
  rcases hl with rfl | rfl <;> simp [w, h1, h2]
theorem ClsG.sub {K : PySem.W.Frag} {G E C : Addr} {f : Str} (c : ClsG K G E C f) {v : Value} (h : veT.contains v = true) : PySem.W.subIn K (.ref C) v = some true := by
  obtain ⟨x, fI, l, c, hl⟩ := c.ex
  rw [c.mro, has_ve h]
theorem ClsG.subE {K : PySem.W.Frag} {G E C : Addr} {f : Str} (c : ClsG K G E C f) : PySem.W.subIn K (.ref C) (.ref E) = some true := by
  obtain ⟨x, fI, l, c, hl⟩ := c.ex
  rw [c.mro]
  rcases hl with rfl | rfl <;> simp
theorem all22 {P : Nat → Addr → Prop} {er : ErrA} (h0 : P 0 er.num) (h1 : P 1 er.frac) (h2 : P 2 er.text) (h3 : P 3 er.name) (h4 : P 4 er.event) (h5 : P 5 er.events) (h6 : P 6 er.outcome) (h7 : P 7 er.sets) (h8 : P 8 er.twins) (h9 : P 9 er.lot) (h10 : P 10 er.index) (h11 : P 11 er.room) (h12 : P 12 er.tally) (h13 : P 13 er.log) (h14 : P 14 er.total) (h15 : P 15 er.counts) (h16 : P 16 er.members) (h17 : P 17 er.rows) (h18 : P 18 er.costs) (h19 : P 19 er.colors) (h20 : P 20 er.knotted) (h21 : P 21 er.toomany) : ∀ (i : Nat) (C : Addr), (clsAt er)[i]? = some C → P i C := fun i C h => by
  have hi : i < 22 := (List.getElem?_eq_some_iff.mp h).1
  match i, hi, h with
  | 0, _, h => cases h; exact h0
  | 1, _, h => cases h; exact h1
  | 2, _, h => cases h; exact h2
  | 3, _, h => cases h; exact h3
  | 4, _, h => cases h; exact h4
  | 5, _, h => cases h; exact h5
  | 6, _, h => cases h; exact h6
  | 7, _, h => cases h; exact h7
  | 8, _, h => cases h; exact h8
  | 9, _, h => cases h; exact h9
  | 10, _, h => cases h; exact h10
  | 11, _, h => cases h; exact h11
  | 12, _, h => cases h; exact h12
  | 13, _, h => cases h; exact h13
  | 14, _, h => cases h; exact h14
  | 15, _, h => cases h; exact h15
  | 16, _, h => cases h; exact h16
  | 17, _, h => cases h; exact h17
  | 18, _, h => cases h; exact h18
  | 19, _, h => cases h; exact h19
  | 20, _, h => cases h; exact h20
  | 21, _, h => cases h; exact h21
theorem kin_all {M : Mo} {er : ErrA} {G E : Addr} (hc : ∀ (i : Nat) (C : Addr), (clsAt er)[i]? = some C → ∃ f, fldAt[i]? = some f ∧ ClsG M.K G E C f) (nd : (E :: G :: clsAt er).Nodup)
    (hn : PySem.W.specialIn M.K (.builtin "object.__class__") "__get__" = some (some (.builtin "getset_descriptor.__get__"))) (ht : PySem.W.takesIn M.K (.builtin "object.__class__") = some true)
    (gE : M.mg "EvenError" = some (.ref E)) (gV : M.mg "ValueError" = none) (eC : PySem.W.isClsIn M.K E = true) (eT : PySem.W.typeIn M.K (.ref E) = some (.type "type")) : Kin M er ∧ Kin2 M er E ∧ Kin3 M er := by
  obtain ⟨nE, nd1⟩ := List.nodup_cons.mp nd
  obtain ⟨nG, nd2⟩ := List.nodup_cons.mp nd1
  have ne : ∀ (i : Nat) (C : Addr), (clsAt er)[i]? = some C → C ≠ G ∧ C ≠ E := fun i C h => by
    have m := List.mem_of_getElem? h
    exact ⟨fun e => nG (e ▸ m), fun e => nE (List.mem_cons_of_mem _ (e ▸ m))⟩
  have inj : ∀ (i j : Nat) (C D : Addr), (clsAt er)[i]? = some C → (clsAt er)[j]? = some D → decide (D = C) = decide (j = i) := fun i j C D h1 h2 => by
    rw [Bool.eq_iff_iff, decide_eq_true_iff, decide_eq_true_iff]
    constructor
    · intro e
      subst e
      have hj := (List.getElem?_eq_some_iff.mp h2).1
      exact (List.getElem?_inj hj nd2).mp (h2.trans h1.symm)
    · intro e
      subst e
      exact Option.some.inj (h2.symm.trans h1)
  have kit : ∀ (i j : Nat) (C D : Addr), (clsAt er)[i]? = some C → (clsAt er)[j]? = some D → PySem.W.kitCls M.K (.ref C) (.ref D) = some (decide (j = i)) := fun i j C D h1 h2 => by
    obtain ⟨f, _, c⟩ := hc i C h1
    obtain ⟨g, _, d⟩ := hc j D h2
    rw [c.kit d (ne j D h2).1 (ne j D h2).2, inj i j C D h1 h2]
  have rf : ∀ a b : Addr, (Value.ref a == Value.ref b) = decide (a = b) := fun a b => by
    rw [Bool.eq_iff_iff, beq_iff_eq, decide_eq_true_iff]
    exact ⟨fun e => by cases e; rfl, fun e => by rw [e]⟩
  refine ⟨⟨fun i j C D h1 h2 => ?_, fun i C h => ?_⟩, ⟨gE, gV, fun i C h => ?_, fun i C h => ?_, fun i C h => ?_, fun i C f h hf => ?_⟩, ⟨fun i j C D h1 h2 => ?_⟩⟩
  · unfold PySem.W.kitOne
    rw [kit i j C D h1 h2, rf]
    by_cases e : C = D
    · subst e
      rw [decide_eq_true rfl, if_pos rfl, ← inj i j C C h1 h2, decide_eq_true rfl]
    · rw [decide_eq_false e, if_neg (by decide)]
  · obtain ⟨f, _, c⟩ := hc i C h
    obtain ⟨x, fI, l, c, _⟩ := c.ex
    exact c.exc hn ht
  · obtain ⟨f, _, c⟩ := hc i C h
    unfold PySem.W.kitOne
    rw [rf, decide_eq_false (ne i C h).2, if_neg (by decide)]
    show (if ((PySem.W.clsIn M.K E).isSome && PySem.W.typeIn M.K (.ref E) == some (.type "type")) = true then PySem.W.subIn M.K (.ref C) (.ref E) else none) = _
    rw [show (PySem.W.clsIn M.K E).isSome = true from eC, eT, if_pos (by decide +kernel), c.subE]
  · obtain ⟨f, _, c⟩ := hc i C h
    unfold PySem.W.kitOne
    rw [show (Value.ref C == Value.type "ValueError") = false from beq_false_of_ne (fun e => by cases e), if_neg (by decide)]
    show (if PySem.W.kitMeta "ValueError" = true then PySem.W.subIn M.K (.ref C) (.type "ValueError") else none) = _
    rw [if_pos (by decide +kernel), c.sub (by decide +kernel)]
  · obtain ⟨f, _, c⟩ := hc i C h
    obtain ⟨x, fI, l, c, _⟩ := c.ex
    exact c.xf
  · obtain ⟨g, hg, c⟩ := hc i C h
    cases hg.symm.trans hf
    obtain ⟨x, fI, l, c, _⟩ := c.ex
    exact c.no
  · obtain ⟨g, _, d⟩ := hc j D h2
    unfold PySem.W.exmOne
    rw [d.sub (by decide +kernel), if_pos (by decide +kernel)]
    exact kit i j C D h1 h2
theorem DefAt.def {M : Mo} {x : Str} {st : Stmt} {h : Heap} (X : M.K.In h) (G : h.Ns mainGlobals M.mg) (d : DefAt M.K x st) : ∃ (f : Addr) (fd : FuncData), M.mg x = some (.ref f) ∧ Fun M.K x x st f fd := by
  obtain ⟨f, fd, a, F⟩ := d
  exact ⟨f, fd, PySem.W.mg_of X G a, F⟩
theorem all_mk {P : Program} {w : World} {K : PySem.W.Frag} {h : Heap} {mg : Str → Option Value} {fa : Addr} (X : K.In h) (G : h.Ns mainGlobals mg) (hfa : mg "law" = some (.ref fa)) {E Gv fG fK fT A0 A1 A2 A3 A4 A5 A6 A7 A8 A9 A10 A11 A12 A13 A14 A15 A16 A17 A18 A19 A20 A21 : Addr} {mcE : Value} {tD tM tE tL tN : Tok} {fdG fdK fdT : FuncData}
    (d28 : DefAt K "is_integer" (topS 28))
    (d29 : DefAt K "is_from_to" (topS 29))
    (d30 : DefAt K "is_tuple" (topS 30))
    (d31 : DefAt K "ascends" (topS 31))
    (d32 : DefAt K "common" (topS 32))
    (d33 : DefAt K "count_in" (topS 33))
    (d34 : DefAt K "counts_in" (topS 34))
    (d39 : DefAt K "is_event" (topS 39))
    (d40 : DefAt K "is_outcome" (topS 40))
    (d41 : DefAt K "events_text" (topS 41))
    (d42 : DefAt K "outcome_text" (topS 42))
    (d43 : DefAt K "outcome_in" (topS 43))
    (d44 : DefAt K "read_outcome" (topS 44))
    (d45 : DefAt K "is_fraction" (topS 45))
    (d46 : DefAt K "low" (topS 46))
    (d47 : DefAt K "lowest" (topS 47))
    (d48 : DefAt K "check_fraction" (topS 48))
    (d49 : DefAt K "check_two" (topS 49))
    (d50 : DefAt K "plus" (topS 50))
    (d51 : DefAt K "minus" (topS 51))
    (d52 : DefAt K "times" (topS 52))
    (d53 : DefAt K "compared" (topS 53))
    (d54 : DefAt K "fraction_text" (topS 54))
    (d55 : DefAt K "fraction_in" (topS 55))
    (d56 : DefAt K "read_fraction" (topS 56))
    (d57 : DefAt K "is_name" (topS 57))
    (d59 : DefAt K "_law_cell" (topS 59))
    (d60 : DefAt K "_law_box" (topS 60))
    (d61 : DefAt K "_law_take" (topS 61))
    (d62 : DefAt K "_law_same" (topS 62))
    (d63 : DefAt K "_law_given" (topS 63))
    (d64 : DefAt K "_law_kept" (topS 64))
    (d65 : DefAt K "_law_first" (topS 65))
    (d66 : DefAt K "_law_second" (topS 66))
    (d67 : DefAt K "_law_kinds" (topS 67))
    (d68 : DefAt K "_law_errors_right" (topS 68))
    (d69 : DefAt K "_law_low" (topS 69))
    (d70 : DefAt K "_law_fractions_right" (topS 70))
    (d71 : DefAt K "_law_texts_right" (topS 71))
    (d72 : DefAt K "_law_read" (topS 72))
    (d73 : DefAt K "_law_told" (topS 73))
    (d74 : DefAt K "_law_refused" (topS 74))
    (d75 : DefAt K "law" (topS 75))
    (c0 : ClsAt K "InvalidNumber" "given" A0 fG ([.ref Gv, .ref E] ++ veT))
    (c1 : ClsAt K "InvalidFraction" "given" A1 fG ([.ref Gv, .ref E] ++ veT))
    (c2 : ClsAt K "InvalidText" "given" A2 fG ([.ref Gv, .ref E] ++ veT))
    (c3 : ClsAt K "InvalidName" "given" A3 fG ([.ref Gv, .ref E] ++ veT))
    (c4 : ClsAt K "InvalidEvent" "given" A4 fG ([.ref Gv, .ref E] ++ veT))
    (c5 : ClsAt K "InvalidEvents" "given" A5 fG ([.ref Gv, .ref E] ++ veT))
    (c6 : ClsAt K "InvalidOutcome" "given" A6 fG ([.ref Gv, .ref E] ++ veT))
    (c7 : ClsAt K "InvalidSets" "given" A7 fG ([.ref Gv, .ref E] ++ veT))
    (c8 : ClsAt K "InvalidTwins" "given" A8 fG ([.ref Gv, .ref E] ++ veT))
    (c9 : ClsAt K "InvalidLot" "given" A9 fG ([.ref Gv, .ref E] ++ veT))
    (c10 : ClsAt K "InvalidIndex" "given" A10 fG ([.ref Gv, .ref E] ++ veT))
    (c11 : ClsAt K "InvalidRoom" "given" A11 fG ([.ref Gv, .ref E] ++ veT))
    (c12 : ClsAt K "InvalidTally" "given" A12 fG ([.ref Gv, .ref E] ++ veT))
    (c13 : ClsAt K "InvalidLog" "given" A13 fG ([.ref Gv, .ref E] ++ veT))
    (c14 : ClsAt K "InvalidTotal" "given" A14 fG ([.ref Gv, .ref E] ++ veT))
    (c15 : ClsAt K "InvalidCounts" "given" A15 fG ([.ref Gv, .ref E] ++ veT))
    (c16 : ClsAt K "InvalidMembers" "given" A16 fG ([.ref Gv, .ref E] ++ veT))
    (c17 : ClsAt K "InvalidRows" "given" A17 fG ([.ref Gv, .ref E] ++ veT))
    (c18 : ClsAt K "InvalidCosts" "given" A18 fG ([.ref Gv, .ref E] ++ veT))
    (c19 : ClsAt K "InvalidColors" "given" A19 fG ([.ref Gv, .ref E] ++ veT))
    (c20 : ClsAt K "Knotted" "knot" A20 fK ([.ref E] ++ veT))
    (c21 : ClsAt K "TooMany" "count" A21 fT ([.ref E] ++ veT))
    (tG : PySem.W.typeIn K (.ref fG) = some (.type "function")) (tK : PySem.W.typeIn K (.ref fK) = some (.type "function")) (tT : PySem.W.typeIn K (.ref fT) = some (.type "function"))
    (FG : Fun K "__init__" "GivenError.__init__" (inClass (topS 2) 0) fG fdG) (FK : Fun K "__init__" "Knotted.__init__" (inClass (topS 18) 0) fK fdK) (FT : Fun K "__init__" "TooMany.__init__" (inClass (topS 19) 0) fT fdT)
    (gE : PySem.W.nsIn K mainGlobals "EvenError" = some (some (.ref E))) (gV : PySem.W.nsIn K mainGlobals "ValueError" = some none) (eC : PySem.W.isClsIn K E = true) (eT : PySem.W.typeIn K (.ref E) = some (.type "type"))
    (eR : PySem.W.readsIn K E mcE = true) (eG : PySem.W.specialIn K (.ref E) "__getattribute__" = some (some (.builtin "type.__getattribute__"))) (eI : PySem.W.findCls K (.ref E) mcE "__init__" = some (.val (.builtin "ValueError.__init__")))
    (hn : PySem.W.specialIn K (.builtin "object.__class__") "__get__" = some (some (.builtin "getset_descriptor.__get__"))) (ht : PySem.W.takesIn K (.builtin "object.__class__") = some true) (nd : (E :: Gv :: [A0, A1, A2, A3, A4, A5, A6, A7, A8, A9, A10, A11, A12, A13, A14, A15, A16, A17, A18, A19, A20, A21]).Nodup)
    (nD : PySem.W.nsIn K mainGlobals "DIGITS" = some (some (.str "0123456789" tD))) (nM : PySem.W.nsIn K mainGlobals "MOST_DIGITS" = some (some (.int 20 tM))) (nE : PySem.W.nsIn K mainGlobals "MOST_EVENT" = some (some (.int 99 tE))) (nL : PySem.W.nsIn K mainGlobals "MOST_LETTERS" = some (some (.int 8 tL))) (nN : PySem.W.nsIn K mainGlobals "NONE" = some (some (.str "none" tN)))
    (b0 : PySem.W.nsIn K mainGlobals "len" = some none)    (b1 : PySem.W.nsIn K mainGlobals "isinstance" = some none)    (b2 : PySem.W.nsIn K mainGlobals "range" = some none)    (b3 : PySem.W.nsIn K mainGlobals "all" = some none)
    (b4 : PySem.W.nsIn K mainGlobals "abs" = some none)    (b5 : PySem.W.nsIn K mainGlobals "int" = some none)    (b6 : PySem.W.nsIn K mainGlobals "bool" = some none)    (b7 : PySem.W.nsIn K mainGlobals "str" = some none)
    (b8 : PySem.W.nsIn K mainGlobals "list" = some none)    (b9 : PySem.W.nsIn K mainGlobals "tuple" = some none)    (b10 : PySem.W.nsIn K mainGlobals "dict" = some none)    (b11 : PySem.W.nsIn K mainGlobals "sum" = some none)
    (b12 : PySem.W.nsIn K mainGlobals "max" = some none)    (b13 : PySem.W.nsIn K mainGlobals "min" = some none)    (b14 : PySem.W.nsIn K mainGlobals "sorted" = some none)    (b15 : PySem.W.nsIn K mainGlobals "set" = some none)
    : ∃ fd : FuncData, (∀ (s : Shared) (v : Value), BindsTo s fd ⟨[v], []⟩ [("script", v)]) ∧ ∀ base : Heap, K.In base → base.Ns mainGlobals mg → FnOk P w K mg base (L2.CX P w) 9 fa fd ["script"] (lift K spLaw) := by
  obtain ⟨f28, fd28, a28, F28⟩ := d28
  obtain ⟨f29, fd29, a29, F29⟩ := d29
  obtain ⟨f30, fd30, a30, F30⟩ := d30
  obtain ⟨f31, fd31, a31, F31⟩ := d31
  obtain ⟨f32, fd32, a32, F32⟩ := d32
  obtain ⟨f33, fd33, a33, F33⟩ := d33
  obtain ⟨f34, fd34, a34, F34⟩ := d34
  obtain ⟨f39, fd39, a39, F39⟩ := d39
  obtain ⟨f40, fd40, a40, F40⟩ := d40
  obtain ⟨f41, fd41, a41, F41⟩ := d41
  obtain ⟨f42, fd42, a42, F42⟩ := d42
  obtain ⟨f43, fd43, a43, F43⟩ := d43
  obtain ⟨f44, fd44, a44, F44⟩ := d44
  obtain ⟨f45, fd45, a45, F45⟩ := d45
  obtain ⟨f46, fd46, a46, F46⟩ := d46
  obtain ⟨f47, fd47, a47, F47⟩ := d47
  obtain ⟨f48, fd48, a48, F48⟩ := d48
  obtain ⟨f49, fd49, a49, F49⟩ := d49
  obtain ⟨f50, fd50, a50, F50⟩ := d50
  obtain ⟨f51, fd51, a51, F51⟩ := d51
  obtain ⟨f52, fd52, a52, F52⟩ := d52
  obtain ⟨f53, fd53, a53, F53⟩ := d53
  obtain ⟨f54, fd54, a54, F54⟩ := d54
  obtain ⟨f55, fd55, a55, F55⟩ := d55
  obtain ⟨f56, fd56, a56, F56⟩ := d56
  obtain ⟨f57, fd57, a57, F57⟩ := d57
  obtain ⟨f59, fd59, a59, F59⟩ := d59
  obtain ⟨f60, fd60, a60, F60⟩ := d60
  obtain ⟨f61, fd61, a61, F61⟩ := d61
  obtain ⟨f62, fd62, a62, F62⟩ := d62
  obtain ⟨f63, fd63, a63, F63⟩ := d63
  obtain ⟨f64, fd64, a64, F64⟩ := d64
  obtain ⟨f65, fd65, a65, F65⟩ := d65
  obtain ⟨f66, fd66, a66, F66⟩ := d66
  obtain ⟨f67, fd67, a67, F67⟩ := d67
  obtain ⟨f68, fd68, a68, F68⟩ := d68
  obtain ⟨f69, fd69, a69, F69⟩ := d69
  obtain ⟨f70, fd70, a70, F70⟩ := d70
  obtain ⟨f71, fd71, a71, F71⟩ := d71
  obtain ⟨f72, fd72, a72, F72⟩ := d72
  obtain ⟨f73, fd73, a73, F73⟩ := d73
  obtain ⟨f74, fd74, a74, F74⟩ := d74
  obtain ⟨f75, fd75, a75, F75⟩ := d75
  have e := hfa.symm.trans (PySem.W.mg_of X G a75)
  cases e
  refine ⟨fd75, fun s v => ?_, fun base hK hN => ?_⟩
  · obtain ⟨oc, od, kV, doc, pm, an, cdv, ct, osl, rfl, lk, hcd⟩ := F75.ex
    exact .of_eq rfl
  have go : ∀ M : Mo, M = ⟨P, w, K, mg, base⟩ → DefD M "law" (topS 75) ["script"] 9 spLaw := fun M hM => by
    have eK : M.K = K := by rw [hM]
    have eg : M.mg = mg := by rw [hM]
    have mk : ∀ {x : Str} {v : Value}, PySem.W.nsIn K mainGlobals x = some (some v) → M.mg x = some v := fun h => by rw [eg]; exact PySem.W.mg_of X G h
    have mn : ∀ {x : Str}, PySem.W.nsIn K mainGlobals x = some none → M.mg x = none := fun h => by rw [eg]; exact PySem.W.mg_none_of X G h
    have B : Blt M := ⟨mn b0, mn b1, mn b2, mn b3, mn b4, mn b5, mn b6, mn b7, mn b8, mn b9, mn b10, mn b11, mn b12, mn b13, mn b14, mn b15⟩
    have Nm : Names M := ⟨⟨tD, mk nD⟩, ⟨tM, mk nM⟩, ⟨tE, mk nE⟩, ⟨tL, mk nL⟩, ⟨tN, mk nN⟩⟩
    have hu : UpC M "EvenError" E := ⟨mk gE, mcE, ⟨by rw [eK]; exact eR, by rw [eK]; exact eG⟩, by rw [eK]; exact eI⟩
    rw [← eK] at c0 c1 c2 c3 c4 c5 c6 c7 c8 c9 c10 c11 c12 c13 c14 c15 c16 c17 c18 c19 c20 c21 tG tK tT FG FK FT eC eT hn ht
    rw [← eK] at F28
    rw [← eK] at F29
    rw [← eK] at F30
    rw [← eK] at F31
    rw [← eK] at F32
    rw [← eK] at F33
    rw [← eK] at F34
    rw [← eK] at F39
    rw [← eK] at F40
    rw [← eK] at F41
    rw [← eK] at F42
    rw [← eK] at F43
    rw [← eK] at F44
    rw [← eK] at F45
    rw [← eK] at F46
    rw [← eK] at F47
    rw [← eK] at F48
    rw [← eK] at F49
    rw [← eK] at F50
    rw [← eK] at F51
    rw [← eK] at F52
    rw [← eK] at F53
    rw [← eK] at F54
    rw [← eK] at F55
    rw [← eK] at F56
    rw [← eK] at F57
    rw [← eK] at F59
    rw [← eK] at F60
    rw [← eK] at F61
    rw [← eK] at F62
    rw [← eK] at F63
    rw [← eK] at F64
    rw [← eK] at F65
    rw [← eK] at F66
    rw [← eK] at F67
    rw [← eK] at F68
    rw [← eK] at F69
    rw [← eK] at F70
    rw [← eK] at F71
    rw [← eK] at F72
    rw [← eK] at F73
    rw [← eK] at F74
    rw [← eK] at F75
    have r1 : PySem.HandSPX.refsVE ([.ref Gv, .ref E] ++ veT) = true := rfl
    have r2 : PySem.HandSPX.refsVE ([.ref E] ++ veT) = true := rfl
    obtain ⟨er, her⟩ : ∃ er : ErrA, er = ⟨A0, A1, A2, A3, A4, A5, A6, A7, A8, A9, A10, A11, A12, A13, A14, A15, A16, A17, A18, A19, A20, A21⟩ := ⟨_, rfl⟩
    have nd : (E :: Gv :: clsAt er).Nodup := by rw [her]; exact nd
    have Er : Errs M er := by
      rw [her]
      exact ⟨xcls (mk (eK ▸ c0.a)) (c0.clsF r1 hn ht) tG (ini_given hu FG), xcls (mk (eK ▸ c1.a)) (c1.clsF r1 hn ht) tG (ini_given hu FG), xcls (mk (eK ▸ c2.a)) (c2.clsF r1 hn ht) tG (ini_given hu FG), xcls (mk (eK ▸ c3.a)) (c3.clsF r1 hn ht) tG (ini_given hu FG), xcls (mk (eK ▸ c4.a)) (c4.clsF r1 hn ht) tG (ini_given hu FG), xcls (mk (eK ▸ c5.a)) (c5.clsF r1 hn ht) tG (ini_given hu FG), xcls (mk (eK ▸ c6.a)) (c6.clsF r1 hn ht) tG (ini_given hu FG), xcls (mk (eK ▸ c7.a)) (c7.clsF r1 hn ht) tG (ini_given hu FG), xcls (mk (eK ▸ c8.a)) (c8.clsF r1 hn ht) tG (ini_given hu FG), xcls (mk (eK ▸ c9.a)) (c9.clsF r1 hn ht) tG (ini_given hu FG), xcls (mk (eK ▸ c10.a)) (c10.clsF r1 hn ht) tG (ini_given hu FG), xcls (mk (eK ▸ c11.a)) (c11.clsF r1 hn ht) tG (ini_given hu FG), xcls (mk (eK ▸ c12.a)) (c12.clsF r1 hn ht) tG (ini_given hu FG), xcls (mk (eK ▸ c13.a)) (c13.clsF r1 hn ht) tG (ini_given hu FG), xcls (mk (eK ▸ c14.a)) (c14.clsF r1 hn ht) tG (ini_given hu FG), xcls (mk (eK ▸ c15.a)) (c15.clsF r1 hn ht) tG (ini_given hu FG), xcls (mk (eK ▸ c16.a)) (c16.clsF r1 hn ht) tG (ini_given hu FG), xcls (mk (eK ▸ c17.a)) (c17.clsF r1 hn ht) tG (ini_given hu FG), xcls (mk (eK ▸ c18.a)) (c18.clsF r1 hn ht) tG (ini_given hu FG), xcls (mk (eK ▸ c19.a)) (c19.clsF r1 hn ht) tG (ini_given hu FG), xcls (mk (eK ▸ c20.a)) (c20.clsF r2 hn ht) tK (ini_knot hu FK), xcls (mk (eK ▸ c21.a)) (c21.clsF r2 hn ht) tT (ini_count hu FT)⟩
    obtain ⟨Kn, K2, K3⟩ := kin_all (M := M) (er := er) (G := Gv) (E := E) (by rw [her]; exact all22 ⟨_, rfl, ⟨_, _, _, c0, .inl rfl⟩⟩ ⟨_, rfl, ⟨_, _, _, c1, .inl rfl⟩⟩ ⟨_, rfl, ⟨_, _, _, c2, .inl rfl⟩⟩ ⟨_, rfl, ⟨_, _, _, c3, .inl rfl⟩⟩ ⟨_, rfl, ⟨_, _, _, c4, .inl rfl⟩⟩ ⟨_, rfl, ⟨_, _, _, c5, .inl rfl⟩⟩ ⟨_, rfl, ⟨_, _, _, c6, .inl rfl⟩⟩ ⟨_, rfl, ⟨_, _, _, c7, .inl rfl⟩⟩ ⟨_, rfl, ⟨_, _, _, c8, .inl rfl⟩⟩ ⟨_, rfl, ⟨_, _, _, c9, .inl rfl⟩⟩ ⟨_, rfl, ⟨_, _, _, c10, .inl rfl⟩⟩ ⟨_, rfl, ⟨_, _, _, c11, .inl rfl⟩⟩ ⟨_, rfl, ⟨_, _, _, c12, .inl rfl⟩⟩ ⟨_, rfl, ⟨_, _, _, c13, .inl rfl⟩⟩ ⟨_, rfl, ⟨_, _, _, c14, .inl rfl⟩⟩ ⟨_, rfl, ⟨_, _, _, c15, .inl rfl⟩⟩ ⟨_, rfl, ⟨_, _, _, c16, .inl rfl⟩⟩ ⟨_, rfl, ⟨_, _, _, c17, .inl rfl⟩⟩ ⟨_, rfl, ⟨_, _, _, c18, .inl rfl⟩⟩ ⟨_, rfl, ⟨_, _, _, c19, .inl rfl⟩⟩ ⟨_, rfl, ⟨_, _, _, c20, .inr rfl⟩⟩ ⟨_, rfl, ⟨_, _, _, c21, .inr rfl⟩⟩) nd hn ht (mk gE) (mn gV) eC eT
    have h28 := ok_is_integer B (mk a28) F28
    have h29 := ok_is_from_to B h28 (mk a29) F29
    have h30 := ok_is_tuple B (mk a30) F30
    have h31 := ok_ascends B (mk a31) F31
    have h32 := ok_common  (mk a32) F32
    have h33 := ok_count_in B Nm (mk a33) F33
    have h34 := ok_counts_in B h33 (mk a34) F34
    have h39 := ok_is_event Nm h29 (mk a39) F39
    have h40 := ok_is_outcome B h39 h31 (mk a40) F40
    have h41 := ok_events_text B (mk a41) F41
    have h42 := ok_outcome_text B Nm Er h40 h41 (mk a42) F42
    have h43 := ok_outcome_in B Nm h34 h40 (mk a43) F43
    have h44 := ok_read_outcome B Er h43 (mk a44) F44
    have h45 := ok_is_fraction B h30 h28 h32 (mk a45) F45
    have h46 := ok_low B h32 (mk a46) F46
    have h47 := ok_lowest B Er h28 h46 (mk a47) F47
    have h48 := ok_check_fraction Er h45 (mk a48) F48
    have h49 := ok_check_two h48 (mk a49) F49
    have h50 := ok_plus h49 h46 (mk a50) F50
    have h51 := ok_minus h49 h46 (mk a51) F51
    have h52 := ok_times h49 h46 (mk a52) F52
    have h53 := ok_compared h49 (mk a53) F53
    have h54 := ok_fraction_text B h48 (mk a54) F54
    have h55 := ok_fraction_in B h33 h45 (mk a55) F55
    have h56 := ok_read_fraction B Er h55 (mk a56) F56
    have h57 := ok_is_name B Nm (mk a57) F57
    have h59 := ok_cell B (mk a59) F59
    have h60 := ok_box B (mk a60) F60
    have h61 := ok_take B (mk a61) F61
    have h62 := ok_same B (mk a62) F62 4
    have h63 := ok_given B h61 (mk a63) F63
    have h64 := ok_kept B h62 (mk a64) F64
    have h65 := ok_first Er (mk a65) F65
    have h66 := ok_second Er (mk a66) F66
    have h67 := ok_kinds B Er Kn (mk a67) F67
    have h68 := ok_errors_right B Er Kn K2 h63 h64 h65 h66 h67 (mk a68) F68
    have h69 := ok_law_low B (mk a69) F69
    have Df : FrDefs M er := ⟨h47, h50, h51, h52, h53, h54, h56, h45, h62, h69⟩
    have h70 := ok_fractions_right B h61 h69 Df (mk a70) F70
    have h72 := ok_law_read B (mk a72) F72
    have Tx : TxDefs M er := ⟨h42, h44, h40, h39, h57, h62, h72, h61⟩
    have h71 := ok_texts_right B Er K3 Tx (mk a71) F71
    have Td : ToDefs M er := ⟨h47, h50, h51, h52, h53, h54, h56, h42, ⟨_, mk a50⟩, ⟨_, mk a51⟩, ⟨_, mk a52⟩, ⟨_, mk a53⟩, ⟨_, mk a54⟩, ⟨_, mk a42⟩, ⟨_, mk a56⟩⟩
    have h73 := ok_told B Er Kn K2 K3 Td (mk a73) F73
    have h74 := ok_refused (er := er) B h61 h73 h62 (mk a74) F74
    have h75 := ok_law B h59 h60 h61 h68 h70 h71 h74 (mk a75) F75
    exact h75
  obtain ⟨f', fd', m, F', hok⟩ := (go ⟨P, w, K, mg, base⟩ rfl).ex
  have e1 : f' = fa := by
    have := m.symm.trans (PySem.W.mg_of X G a75)
    cases this; rfl
  subst e1
  have e2 : fd' = fd75 := by
    obtain ⟨oc, od, kV, doc, pm, an, cdv, ct, osl, r1, lk, hcd⟩ := F75.ex
    obtain ⟨oc2, od2, kV2, doc2, pm2, an2, cdv2, ct2, osl2, r2, lk2, hcd2⟩ := F'.ex
    have := lk.symm.trans lk2
    cases this; rfl
  subst e2
  exact hok
end
/-! K1G: the end. -/
section
open PySem PySem.Spec PyProof.Rows L2 DL PySem.NumText
theorem law_sp {K : PySem.W.Frag} {H : Hp} {a : Addr} {ns : List Int} (hl : ns.length ≤ 63) (hS : SqL K H a (ns.map V.int)) : lift K spLaw [.ref a] H (fun v _ => v = .bl true) fun _ _ _ => False := by
  refine ⟨[.rls (ns.map .int)], ⟨H, fun _ => none⟩, Opens.none, fun d _ => d = .bl true, fun _ _ => False, Reps.cons ⟨a, _, rfl, hS, Reps.ints⟩ Reps.nil, ⟨fun _ _ h => h, (fun _ _ h => nomatch h), (fun _ _ h => nomatch h)⟩, ⟨ns, rfl, hl, fun _ => rfl⟩, fun d v F' O' H' _ _ r q => ?_, fun _ _ _ _ _ _ _ _ _ h => h⟩
  subst q
  exact r
theorem law_cx {P : Program} {w : World} {H : Hp} {s : Shared} {e : Value} {s' : Shared} (h : L2.CX P w [] H s (fun _ _ _ => False) e s') : False := by
  obtain ⟨_, _, _, _, _, _, _, _, _, _, _, _, h⟩ := h
  exact h
theorem walk_ofKW {l : PySem.W.OpenLaw} {n k : Nat} {q : Program} {loose : List Str} {XP : (Str → Option Value) → Heap → Prop} {YP : World → Heap → Prop} {d : DefRec} {K : Params → PySem.W.Frag} {CX : World → CXT} {sp : PySem.W.Frag → Sp} {x : Str}
    (hn : l.most = some n) (hn2 : n ≤ sizeLine) (hdf : d.params.defaults = []) (hr : Room k callerA)
    (hY : ∀ (w : World) (h : Heap), YP w h → (K w.params).In h)
    (F : ∀ (w : World) (mg : Str → Option Value) (fa : Addr) (h : Heap), (K w.params).In h → h.Ns mainGlobals mg → mg d.name = some (.ref fa) →
      ∃ fd : FuncData, (∀ (s : Shared) (u : Value), BindsTo s fd ⟨[u], []⟩ [(x, u)]) ∧
        ∀ base : Heap, (K w.params).In base → base.Ns mainGlobals mg → FnOk l.prog w (K w.params) mg base (CX w) k fa fd [x] (sp (K w.params)))
    (hsp : ∀ (K : PySem.W.Frag) (H : Hp) (a : Addr) (ns : List Int), ns.length ≤ n → Only H → SqL K H a (ns.map V.int) → sp K [.ref a] H (fun v _ => v = .bl true) fun _ _ _ => False)
    (hCX : ∀ (w : World) (H : Hp) (s : Shared) (e : Value) (s' : Shared), CX w [] H s (fun _ _ _ => False) e s' → False) :
    PySem.W.WalkO q loose XP YP l.row.toRowW d [] (fun f vs => PySem.call f vs) :=
  walk_of (K := K) (CX := CX) (sp := fun w => sp (K w.params)) hn hn2 hdf hr hY F (fun w H a ns h1 h2 h3 => hsp (K w.params) H a ns h1 h2 h3) hCX
end
end K0

open PySem PySem.W PyProof.Rows
set_option maxHeartbeats 0 in
theorem PySem.Challenge.cw_worsttogether_k00_errors_events_and_text_holds : PySem.Challenge.rw_worsttogether_k00_errors_events_and_text.Holds := by
  w_on; o_law; k_head; (case hw => w_witness2)
  k_fill
  refine K0.walk_ofKW (l := PySem.Challenge.rw_worsttogether_k00_errors_events_and_text) (n := 63) (k := 9) (x := "script") (CX := fun w => L2.CX PySem.Challenge.rw_worsttogether_k00_errors_events_and_text.prog w) (sp := fun K => DL.lift K K0.spLaw) rfl (by decide) rfl ⟨rfl, by decide, by decide⟩ (fun w h Y => PySem.W.kIn_of Y) ?F (fun K H a ns hl ho hS => K0.law_sp hl hS) (fun w H s e s' h => K0.law_cx h)
  case F =>
    intro w mg fa h KX G hmg
    replace hmg : mg (Str.ofString "law") = some (.ref fa) := hmg
    refine' K0.all_mk (mcE := .type "type") KX G hmg ?d28 ?d29 ?d30 ?d31 ?d32 ?d33 ?d34 ?d39 ?d40 ?d41 ?d42 ?d43 ?d44 ?d45 ?d46 ?d47 ?d48 ?d49 ?d50 ?d51 ?d52 ?d53 ?d54 ?d55 ?d56 ?d57 ?d59 ?d60 ?d61 ?d62 ?d63 ?d64 ?d65 ?d66 ?d67 ?d68 ?d69 ?d70 ?d71 ?d72 ?d73 ?d74 ?d75 ?c0 ?c1 ?c2 ?c3 ?c4 ?c5 ?c6 ?c7 ?c8 ?c9 ?c10 ?c11 ?c12 ?c13 ?c14 ?c15 ?c16 ?c17 ?c18 ?c19 ?c20 ?c21 ?tG ?tK ?tT ?FG ?FK ?FT ?gE ?gV ?eC ?eT ?eR ?eG ?eI ?hn ?ht ?nd ?nD ?nM ?nE ?nL ?nN ?b0 ?b1 ?b2 ?b3 ?b4 ?b5 ?b6 ?b7 ?b8 ?b9 ?b10 ?b11 ?b12 ?b13 ?b14 ?b15
    case d28 => (refine' K0.defAt_mk ?da28 ?dl28 ?dc28 ?dk28; (case da28 => k_is); (case dl28 => k_is); (case dc28 => k_is); (case dk28 => k_is))
    case d29 => (refine' K0.defAt_mk ?da29 ?dl29 ?dc29 ?dk29; (case da29 => k_is); (case dl29 => k_is); (case dc29 => k_is); (case dk29 => k_is))
    case d30 => (refine' K0.defAt_mk ?da30 ?dl30 ?dc30 ?dk30; (case da30 => k_is); (case dl30 => k_is); (case dc30 => k_is); (case dk30 => k_is))
    case d31 => (refine' K0.defAt_mk ?da31 ?dl31 ?dc31 ?dk31; (case da31 => k_is); (case dl31 => k_is); (case dc31 => k_is); (case dk31 => k_is))
    case d32 => (refine' K0.defAt_mk ?da32 ?dl32 ?dc32 ?dk32; (case da32 => k_is); (case dl32 => k_is); (case dc32 => k_is); (case dk32 => k_is))
    case d33 => (refine' K0.defAt_mk ?da33 ?dl33 ?dc33 ?dk33; (case da33 => k_is); (case dl33 => k_is); (case dc33 => k_is); (case dk33 => k_is))
    case d34 => (refine' K0.defAt_mk ?da34 ?dl34 ?dc34 ?dk34; (case da34 => k_is); (case dl34 => k_is); (case dc34 => k_is); (case dk34 => k_is))
    case d39 => (refine' K0.defAt_mk ?da39 ?dl39 ?dc39 ?dk39; (case da39 => k_is); (case dl39 => k_is); (case dc39 => k_is); (case dk39 => k_is))
    case d40 => (refine' K0.defAt_mk ?da40 ?dl40 ?dc40 ?dk40; (case da40 => k_is); (case dl40 => k_is); (case dc40 => k_is); (case dk40 => k_is))
    case d41 => (refine' K0.defAt_mk ?da41 ?dl41 ?dc41 ?dk41; (case da41 => k_is); (case dl41 => k_is); (case dc41 => k_is); (case dk41 => k_is))
    case d42 => (refine' K0.defAt_mk ?da42 ?dl42 ?dc42 ?dk42; (case da42 => k_is); (case dl42 => k_is); (case dc42 => k_is); (case dk42 => k_is))
    case d43 => (refine' K0.defAt_mk ?da43 ?dl43 ?dc43 ?dk43; (case da43 => k_is); (case dl43 => k_is); (case dc43 => k_is); (case dk43 => k_is))
    case d44 => (refine' K0.defAt_mk ?da44 ?dl44 ?dc44 ?dk44; (case da44 => k_is); (case dl44 => k_is); (case dc44 => k_is); (case dk44 => k_is))
    case d45 => (refine' K0.defAt_mk ?da45 ?dl45 ?dc45 ?dk45; (case da45 => k_is); (case dl45 => k_is); (case dc45 => k_is); (case dk45 => k_is))
    case d46 => (refine' K0.defAt_mk ?da46 ?dl46 ?dc46 ?dk46; (case da46 => k_is); (case dl46 => k_is); (case dc46 => k_is); (case dk46 => k_is))
    case d47 => (refine' K0.defAt_mk ?da47 ?dl47 ?dc47 ?dk47; (case da47 => k_is); (case dl47 => k_is); (case dc47 => k_is); (case dk47 => k_is))
    case d48 => (refine' K0.defAt_mk ?da48 ?dl48 ?dc48 ?dk48; (case da48 => k_is); (case dl48 => k_is); (case dc48 => k_is); (case dk48 => k_is))
    case d49 => (refine' K0.defAt_mk ?da49 ?dl49 ?dc49 ?dk49; (case da49 => k_is); (case dl49 => k_is); (case dc49 => k_is); (case dk49 => k_is))
    case d50 => (refine' K0.defAt_mk ?da50 ?dl50 ?dc50 ?dk50; (case da50 => k_is); (case dl50 => k_is); (case dc50 => k_is); (case dk50 => k_is))
    case d51 => (refine' K0.defAt_mk ?da51 ?dl51 ?dc51 ?dk51; (case da51 => k_is); (case dl51 => k_is); (case dc51 => k_is); (case dk51 => k_is))
    case d52 => (refine' K0.defAt_mk ?da52 ?dl52 ?dc52 ?dk52; (case da52 => k_is); (case dl52 => k_is); (case dc52 => k_is); (case dk52 => k_is))
    case d53 => (refine' K0.defAt_mk ?da53 ?dl53 ?dc53 ?dk53; (case da53 => k_is); (case dl53 => k_is); (case dc53 => k_is); (case dk53 => k_is))
    case d54 => (refine' K0.defAt_mk ?da54 ?dl54 ?dc54 ?dk54; (case da54 => k_is); (case dl54 => k_is); (case dc54 => k_is); (case dk54 => k_is))
    case d55 => (refine' K0.defAt_mk ?da55 ?dl55 ?dc55 ?dk55; (case da55 => k_is); (case dl55 => k_is); (case dc55 => k_is); (case dk55 => k_is))
    case d56 => (refine' K0.defAt_mk ?da56 ?dl56 ?dc56 ?dk56; (case da56 => k_is); (case dl56 => k_is); (case dc56 => k_is); (case dk56 => k_is))
    case d57 => (refine' K0.defAt_mk ?da57 ?dl57 ?dc57 ?dk57; (case da57 => k_is); (case dl57 => k_is); (case dc57 => k_is); (case dk57 => k_is))
    case d59 => (refine' K0.defAt_mk ?da59 ?dl59 ?dc59 ?dk59; (case da59 => k_is); (case dl59 => k_is); (case dc59 => k_is); (case dk59 => k_is))
    case d60 => (refine' K0.defAt_mk ?da60 ?dl60 ?dc60 ?dk60; (case da60 => k_is); (case dl60 => k_is); (case dc60 => k_is); (case dk60 => k_is))
    case d61 => (refine' K0.defAt_mk ?da61 ?dl61 ?dc61 ?dk61; (case da61 => k_is); (case dl61 => k_is); (case dc61 => k_is); (case dk61 => k_is))
    case d62 => (refine' K0.defAt_mk ?da62 ?dl62 ?dc62 ?dk62; (case da62 => k_is); (case dl62 => k_is); (case dc62 => k_is); (case dk62 => k_is))
    case d63 => (refine' K0.defAt_mk ?da63 ?dl63 ?dc63 ?dk63; (case da63 => k_is); (case dl63 => k_is); (case dc63 => k_is); (case dk63 => k_is))
    case d64 => (refine' K0.defAt_mk ?da64 ?dl64 ?dc64 ?dk64; (case da64 => k_is); (case dl64 => k_is); (case dc64 => k_is); (case dk64 => k_is))
    case d65 => (refine' K0.defAt_mk ?da65 ?dl65 ?dc65 ?dk65; (case da65 => k_is); (case dl65 => k_is); (case dc65 => k_is); (case dk65 => k_is))
    case d66 => (refine' K0.defAt_mk ?da66 ?dl66 ?dc66 ?dk66; (case da66 => k_is); (case dl66 => k_is); (case dc66 => k_is); (case dk66 => k_is))
    case d67 => (refine' K0.defAt_mk ?da67 ?dl67 ?dc67 ?dk67; (case da67 => k_is); (case dl67 => k_is); (case dc67 => k_is); (case dk67 => k_is))
    case d68 => (refine' K0.defAt_mk ?da68 ?dl68 ?dc68 ?dk68; (case da68 => k_is); (case dl68 => k_is); (case dc68 => k_is); (case dk68 => k_is))
    case d69 => (refine' K0.defAt_mk ?da69 ?dl69 ?dc69 ?dk69; (case da69 => k_is); (case dl69 => k_is); (case dc69 => k_is); (case dk69 => k_is))
    case d70 => (refine' K0.defAt_mk ?da70 ?dl70 ?dc70 ?dk70; (case da70 => k_is); (case dl70 => k_is); (case dc70 => k_is); (case dk70 => k_is))
    case d71 => (refine' K0.defAt_mk ?da71 ?dl71 ?dc71 ?dk71; (case da71 => k_is); (case dl71 => k_is); (case dc71 => k_is); (case dk71 => k_is))
    case d72 => (refine' K0.defAt_mk ?da72 ?dl72 ?dc72 ?dk72; (case da72 => k_is); (case dl72 => k_is); (case dc72 => k_is); (case dk72 => k_is))
    case d73 => (refine' K0.defAt_mk ?da73 ?dl73 ?dc73 ?dk73; (case da73 => k_is); (case dl73 => k_is); (case dc73 => k_is); (case dk73 => k_is))
    case d74 => (refine' K0.defAt_mk ?da74 ?dl74 ?dc74 ?dk74; (case da74 => k_is); (case dl74 => k_is); (case dc74 => k_is); (case dk74 => k_is))
    case d75 => (refine' K0.defAt_mk ?da75 ?dl75 ?dc75 ?dk75; (case da75 => k_is); (case dl75 => k_is); (case dc75 => k_is); (case dk75 => k_is))
    case gE => k_is
    case gV => k_is
    case c0 => (refine' K0.clsAt_mk ?ca0 ?cx0 ?cs0 ?cg0 ?ch0 ?ci0 ?cj0 ?ck0 ?cl0; (case ca0 => k_is); (case cx0 => k_is); (case cs0 => k_is); (case cg0 => k_is); (case ch0 => k_is); (case ci0 => k_is); (case cj0 => k_is); (case ck0 => k_is); (case cl0 => k_is))
    case c1 => (refine' K0.clsAt_mk ?ca1 ?cx1 ?cs1 ?cg1 ?ch1 ?ci1 ?cj1 ?ck1 ?cl1; (case ca1 => k_is); (case cx1 => k_is); (case cs1 => k_is); (case cg1 => k_is); (case ch1 => k_is); (case ci1 => k_is); (case cj1 => k_is); (case ck1 => k_is); (case cl1 => k_is))
    case c2 => (refine' K0.clsAt_mk ?ca2 ?cx2 ?cs2 ?cg2 ?ch2 ?ci2 ?cj2 ?ck2 ?cl2; (case ca2 => k_is); (case cx2 => k_is); (case cs2 => k_is); (case cg2 => k_is); (case ch2 => k_is); (case ci2 => k_is); (case cj2 => k_is); (case ck2 => k_is); (case cl2 => k_is))
    case c3 => (refine' K0.clsAt_mk ?ca3 ?cx3 ?cs3 ?cg3 ?ch3 ?ci3 ?cj3 ?ck3 ?cl3; (case ca3 => k_is); (case cx3 => k_is); (case cs3 => k_is); (case cg3 => k_is); (case ch3 => k_is); (case ci3 => k_is); (case cj3 => k_is); (case ck3 => k_is); (case cl3 => k_is))
    case c4 => (refine' K0.clsAt_mk ?ca4 ?cx4 ?cs4 ?cg4 ?ch4 ?ci4 ?cj4 ?ck4 ?cl4; (case ca4 => k_is); (case cx4 => k_is); (case cs4 => k_is); (case cg4 => k_is); (case ch4 => k_is); (case ci4 => k_is); (case cj4 => k_is); (case ck4 => k_is); (case cl4 => k_is))
    case c5 => (refine' K0.clsAt_mk ?ca5 ?cx5 ?cs5 ?cg5 ?ch5 ?ci5 ?cj5 ?ck5 ?cl5; (case ca5 => k_is); (case cx5 => k_is); (case cs5 => k_is); (case cg5 => k_is); (case ch5 => k_is); (case ci5 => k_is); (case cj5 => k_is); (case ck5 => k_is); (case cl5 => k_is))
    case c6 => (refine' K0.clsAt_mk ?ca6 ?cx6 ?cs6 ?cg6 ?ch6 ?ci6 ?cj6 ?ck6 ?cl6; (case ca6 => k_is); (case cx6 => k_is); (case cs6 => k_is); (case cg6 => k_is); (case ch6 => k_is); (case ci6 => k_is); (case cj6 => k_is); (case ck6 => k_is); (case cl6 => k_is))
    case c7 => (refine' K0.clsAt_mk ?ca7 ?cx7 ?cs7 ?cg7 ?ch7 ?ci7 ?cj7 ?ck7 ?cl7; (case ca7 => k_is); (case cx7 => k_is); (case cs7 => k_is); (case cg7 => k_is); (case ch7 => k_is); (case ci7 => k_is); (case cj7 => k_is); (case ck7 => k_is); (case cl7 => k_is))
    case c8 => (refine' K0.clsAt_mk ?ca8 ?cx8 ?cs8 ?cg8 ?ch8 ?ci8 ?cj8 ?ck8 ?cl8; (case ca8 => k_is); (case cx8 => k_is); (case cs8 => k_is); (case cg8 => k_is); (case ch8 => k_is); (case ci8 => k_is); (case cj8 => k_is); (case ck8 => k_is); (case cl8 => k_is))
    case c9 => (refine' K0.clsAt_mk ?ca9 ?cx9 ?cs9 ?cg9 ?ch9 ?ci9 ?cj9 ?ck9 ?cl9; (case ca9 => k_is); (case cx9 => k_is); (case cs9 => k_is); (case cg9 => k_is); (case ch9 => k_is); (case ci9 => k_is); (case cj9 => k_is); (case ck9 => k_is); (case cl9 => k_is))
    case c10 => (refine' K0.clsAt_mk ?ca10 ?cx10 ?cs10 ?cg10 ?ch10 ?ci10 ?cj10 ?ck10 ?cl10; (case ca10 => k_is); (case cx10 => k_is); (case cs10 => k_is); (case cg10 => k_is); (case ch10 => k_is); (case ci10 => k_is); (case cj10 => k_is); (case ck10 => k_is); (case cl10 => k_is))
    case c11 => (refine' K0.clsAt_mk ?ca11 ?cx11 ?cs11 ?cg11 ?ch11 ?ci11 ?cj11 ?ck11 ?cl11; (case ca11 => k_is); (case cx11 => k_is); (case cs11 => k_is); (case cg11 => k_is); (case ch11 => k_is); (case ci11 => k_is); (case cj11 => k_is); (case ck11 => k_is); (case cl11 => k_is))
    case c12 => (refine' K0.clsAt_mk ?ca12 ?cx12 ?cs12 ?cg12 ?ch12 ?ci12 ?cj12 ?ck12 ?cl12; (case ca12 => k_is); (case cx12 => k_is); (case cs12 => k_is); (case cg12 => k_is); (case ch12 => k_is); (case ci12 => k_is); (case cj12 => k_is); (case ck12 => k_is); (case cl12 => k_is))
    case c13 => (refine' K0.clsAt_mk ?ca13 ?cx13 ?cs13 ?cg13 ?ch13 ?ci13 ?cj13 ?ck13 ?cl13; (case ca13 => k_is); (case cx13 => k_is); (case cs13 => k_is); (case cg13 => k_is); (case ch13 => k_is); (case ci13 => k_is); (case cj13 => k_is); (case ck13 => k_is); (case cl13 => k_is))
    case c14 => (refine' K0.clsAt_mk ?ca14 ?cx14 ?cs14 ?cg14 ?ch14 ?ci14 ?cj14 ?ck14 ?cl14; (case ca14 => k_is); (case cx14 => k_is); (case cs14 => k_is); (case cg14 => k_is); (case ch14 => k_is); (case ci14 => k_is); (case cj14 => k_is); (case ck14 => k_is); (case cl14 => k_is))
    case c15 => (refine' K0.clsAt_mk ?ca15 ?cx15 ?cs15 ?cg15 ?ch15 ?ci15 ?cj15 ?ck15 ?cl15; (case ca15 => k_is); (case cx15 => k_is); (case cs15 => k_is); (case cg15 => k_is); (case ch15 => k_is); (case ci15 => k_is); (case cj15 => k_is); (case ck15 => k_is); (case cl15 => k_is))
    case c16 => (refine' K0.clsAt_mk ?ca16 ?cx16 ?cs16 ?cg16 ?ch16 ?ci16 ?cj16 ?ck16 ?cl16; (case ca16 => k_is); (case cx16 => k_is); (case cs16 => k_is); (case cg16 => k_is); (case ch16 => k_is); (case ci16 => k_is); (case cj16 => k_is); (case ck16 => k_is); (case cl16 => k_is))
    case c17 => (refine' K0.clsAt_mk ?ca17 ?cx17 ?cs17 ?cg17 ?ch17 ?ci17 ?cj17 ?ck17 ?cl17; (case ca17 => k_is); (case cx17 => k_is); (case cs17 => k_is); (case cg17 => k_is); (case ch17 => k_is); (case ci17 => k_is); (case cj17 => k_is); (case ck17 => k_is); (case cl17 => k_is))
    case c18 => (refine' K0.clsAt_mk ?ca18 ?cx18 ?cs18 ?cg18 ?ch18 ?ci18 ?cj18 ?ck18 ?cl18; (case ca18 => k_is); (case cx18 => k_is); (case cs18 => k_is); (case cg18 => k_is); (case ch18 => k_is); (case ci18 => k_is); (case cj18 => k_is); (case ck18 => k_is); (case cl18 => k_is))
    case c19 => (refine' K0.clsAt_mk ?ca19 ?cx19 ?cs19 ?cg19 ?ch19 ?ci19 ?cj19 ?ck19 ?cl19; (case ca19 => k_is); (case cx19 => k_is); (case cs19 => k_is); (case cg19 => k_is); (case ch19 => k_is); (case ci19 => k_is); (case cj19 => k_is); (case ck19 => k_is); (case cl19 => k_is))
    case c20 => (refine' K0.clsAt_mk ?ca20 ?cx20 ?cs20 ?cg20 ?ch20 ?ci20 ?cj20 ?ck20 ?cl20; (case ca20 => k_is); (case cx20 => k_is); (case cs20 => k_is); (case cg20 => k_is); (case ch20 => k_is); (case ci20 => k_is); (case cj20 => k_is); (case ck20 => k_is); (case cl20 => k_is))
    case c21 => (refine' K0.clsAt_mk ?ca21 ?cx21 ?cs21 ?cg21 ?ch21 ?ci21 ?cj21 ?ck21 ?cl21; (case ca21 => k_is); (case cx21 => k_is); (case cs21 => k_is); (case cg21 => k_is); (case ch21 => k_is); (case ci21 => k_is); (case cj21 => k_is); (case ck21 => k_is); (case cl21 => k_is))
    case tG => k_is
    case tK => k_is
    case tT => k_is
    case FG => (refine' L2.fun_mk ?lFG ?cFG ?kFG; (case lFG => k_is); (case cFG => k_is); (case kFG => k_is))
    case FK => (refine' L2.fun_mk ?lFK ?cFK ?kFK; (case lFK => k_is); (case cFK => k_is); (case kFK => k_is))
    case FT => (refine' L2.fun_mk ?lFT ?cFT ?kFT; (case lFT => k_is); (case cFT => k_is); (case kFT => k_is))
    case eC => k_is
    case eT => k_is
    case eR => k_is
    case eG => k_is
    case eI => k_is
    case hn => k_is
    case ht => k_is
    case nd => decide +kernel
    case nD => k_is
    case nM => k_is
    case nE => k_is
    case nL => k_is
    case nN => k_is
    case b0 => k_is
    case b1 => k_is
    case b2 => k_is
    case b3 => k_is
    case b4 => k_is
    case b5 => k_is
    case b6 => k_is
    case b7 => k_is
    case b8 => k_is
    case b9 => k_is
    case b10 => k_is
    case b11 => k_is
    case b12 => k_is
    case b13 => k_is
    case b14 => k_is
    case b15 => k_is
