import PyProof.Rows.All
import Wide.All
import OpenK.AllK
import Wide.FinOn
import HandS.SortOrd
import HandS.SortInts
import HandS.Set
import HandS.Style
import HandS.ForMost
import HandS.Exc
import HandS.ExcOwn
import HandS.ExcInit
import HandS.TryMany
import HandS.WordsExc
import HandS.IsInst
import HandS.Wide
import HandS.TupAny
import HandS.TupLe
import HandS.Deep
import HandS.FStr
import HandS.RaiseMore
import HandS.Strs
import HandS.ExcIs
import KE.KExcIs
import HandS.ClsMeth
import HandS.ExcField
import HandS.Walk
import HandS.Iter
import HandS.Text
import HandS.Dict
import HandS.WordsDict
import HandS.Small
import HandS.More
import HandS.NamedTupSort
import HandS.Star
import HandS.NoneIn
import HandS.SortRule
import HandS.Conv
import PySem.Challenge.RW_worsttogether_k30_bars_of_coins
set_option Elab.async false
set_option linter.all false
set_option maxRecDepth 100000
set_option maxHeartbeats 4000000
/-! DLA: a layer of plain data over the hand layer: values as trees of data, what is frozen and what is open, big-step rules over the text. -/
namespace DL
open PySem PySem.Spec PyProof.Rows L2

/-! ### data -/
inductive D where
  | non | bl (b : Bool) | int (i : Int) | str (x : Str)
  | tup (xs : List D) | lst (xs : List D) | rls (xs : List D)
  | raw (v : V)
  | obj (C : Addr) (ns : List Str) (ds : List D)
  | exc (C : Addr) (ns : List Str) (ds : List D)
  | dic (ks : List Key) (ds : List D)

/-- what is frozen (z), and what is left alone (r) -/
structure Fr where
  z : Hp
  r : Hp
def Fr.add (F : Fr) (p : Addr) (o : HO) : Fr := ⟨upd F.z p o, F.r⟩
mutual
def Rep (K : PySem.W.Frag) (F : Fr) : D → V → Prop
  | .non, v => v = .non
  | .bl b, v => v = .bl b
  | .int i, v => v = .int i
  | .str x, v => v = .str x
  | .tup ds, v => ∃ a vs, v = .ref a ∧ SqT K F.z a vs ∧ Reps K F ds vs
  | .lst ds, v => ∃ a vs, v = .ref a ∧ F.z a = some (.lst vs) ∧ Reps K F ds vs
  | .rls ds, v => ∃ a vs, v = .ref a ∧ SqL K F.z a vs ∧ Reps K F ds vs
  | .raw x, v => v = x
  | .obj C ns ds, v => ∃ a dx vs, v = .ref a ∧ F.z a = some (.ins C dx (ns.zip vs)) ∧ ns.length = ds.length ∧ Reps K F ds vs
  | .exc C ns ds, v => ∃ a d vs, v = .ref a ∧ F.z a = some (exo a C (some d)) ∧ F.z d = some (exd d (ns.zip vs)) ∧ ns.length = ds.length ∧ Reps K F ds vs
  | .dic ks ds, v => ∃ a vs, v = .ref a ∧ F.z a = some (.dK (ks.zip vs)) ∧ ks.length = ds.length ∧ Reps K F ds vs
def Reps (K : PySem.W.Frag) (F : Fr) : List D → List V → Prop
  | [], vs => vs = []
  | d :: ds, vs => ∃ v r, vs = v :: r ∧ Rep K F d v ∧ Reps K F ds r
end

def Ext (F F' : Fr) : Prop := (∀ a o, F.z a = some o → F'.z a = some o) ∧ F'.r = F.r
theorem Ext.refl (F : Fr) : Ext F F := ⟨fun _ _ h => h, rfl⟩
theorem Ext.trans {F G H : Fr} (a : Ext F G) (b : Ext G H) : Ext F H := ⟨fun x o h => b.1 x o (a.1 x o h), b.2.trans a.2⟩
theorem Ext.new {F : Fr} {p : Addr} {o : HO} (h : F.z p = none) : Ext F (F.add p o) := ⟨fun a u e => by
  show upd F.z p o a = some u
  rw [upd_ne (ne_of_none e h)]; exact e, rfl⟩
theorem seq_l {K : PySem.W.Frag} {F H : Hp} {a : Addr} {xs : List V} (e : ∀ a o, F a = some o → H a = some o) (h : SqL K F a xs) : SqL K H a xs := Same.seq e h
theorem seq_t {K : PySem.W.Frag} {F F' : Hp} {a : Addr} {xs : List V} (e : ∀ a o, F a = some o → F' a = some o) (h : SqT K F a xs) : SqT K F' a xs := by
  rcases h with (h | ⟨o, h⟩) | h
  · exact .inl (.inl (e _ _ h))
  · exact .inl (.inr ⟨o, e _ _ h⟩)
  · exact .inr h
def Sub (F : Fr) (H : Hp) : Prop := ∀ a o, F.z a = some o → H a = some o
theorem Sub.seqL {K : PySem.W.Frag} {F : Fr} {H : Hp} {a : Addr} {xs : List V} (e : Sub F H) (h : SqL K F.z a xs) : SqL K H a xs := seq_l e h
theorem Sub.seqT {K : PySem.W.Frag} {F : Fr} {H : Hp} {a : Addr} {xs : List V} (e : Sub F H) (h : SqT K F.z a xs) : SqT K H a xs := seq_t e h

section
variable {K : PySem.W.Frag} {F F' : Fr}
mutual
theorem Rep.monoZ (e : ∀ a o, F.z a = some o → F'.z a = some o) : ∀ (d : D) (v : V), Rep K F d v → Rep K F' d v
  | .non, _, h => h
  | .bl _, _, h => h
  | .int _, _, h => h
  | .str _, _, h => h
  | .raw _, _, h => h
  | .tup ds, v, h => by
    obtain ⟨a, vs, h1, h2, h3⟩ := h
    exact ⟨a, vs, h1, seq_t e h2, Reps.monoZ e ds vs h3⟩
  | .lst ds, v, h => by
    obtain ⟨a, vs, h1, h2, h3⟩ := h
    exact ⟨a, vs, h1, e _ _ h2, Reps.monoZ e ds vs h3⟩
  | .rls ds, v, h => by
    obtain ⟨a, vs, h1, h2, h3⟩ := h
    exact ⟨a, vs, h1, seq_l e h2, Reps.monoZ e ds vs h3⟩
  | .obj C ns ds, v, h => by
    obtain ⟨a, dx, vs, h1, h2, h3, h4⟩ := h
    exact ⟨a, dx, vs, h1, e _ _ h2, h3, Reps.monoZ e ds vs h4⟩
  | .exc C ns ds, v, h => by
    obtain ⟨a, d, vs, h1, h2, h3, h4, h5⟩ := h
    exact ⟨a, d, vs, h1, e _ _ h2, e _ _ h3, h4, Reps.monoZ e ds vs h5⟩
  | .dic ks ds, v, h => by
    obtain ⟨a, vs, h1, h2, h3, h4⟩ := h
    exact ⟨a, vs, h1, e _ _ h2, h3, Reps.monoZ e ds vs h4⟩
theorem Reps.monoZ (e : ∀ a o, F.z a = some o → F'.z a = some o) : ∀ (ds : List D) (vs : List V), Reps K F ds vs → Reps K F' ds vs
  | [], _, h => h
  | d :: ds, vs, h => by
    obtain ⟨v, r, h1, h2, h3⟩ := h
    exact ⟨v, r, h1, Rep.monoZ e d v h2, Reps.monoZ e ds r h3⟩
end
theorem Rep.mono (e : Ext F F') (d : D) (v : V) (h : Rep K F d v) : Rep K F' d v := Rep.monoZ e.1 d v h
theorem Reps.mono (e : Ext F F') (ds : List D) (vs : List V) (h : Reps K F ds vs) : Reps K F' ds vs := Reps.monoZ e.1 ds vs h
theorem Reps.length : ∀ {ds : List D} {vs : List V}, Reps K F ds vs → ds.length = vs.length
  | [], vs, h => by cases (show vs = [] from h); rfl
  | d :: ds, vs, h => by
    obtain ⟨v, r, rfl, _, h3⟩ := h
    simp [Reps.length h3]
theorem Reps.nil : Reps K F [] [] := rfl
theorem Reps.cons {d : D} {v : V} {ds : List D} {vs : List V} (h : Rep K F d v) (t : Reps K F ds vs) : Reps K F (d :: ds) (v :: vs) := ⟨v, vs, rfl, h, t⟩
theorem Reps.append : ∀ {ds es : List D} {vs ws : List V}, Reps K F ds vs → Reps K F es ws → Reps K F (ds ++ es) (vs ++ ws)
  | [], _, vs, _, h, t => by cases (show vs = [] from h); exact t
  | d :: ds, es, vs, ws, h, t => by
    obtain ⟨v, r, rfl, h2, h3⟩ := h
    exact ⟨v, r ++ ws, rfl, h2, Reps.append h3 t⟩
theorem Reps.get : ∀ {ds : List D} {vs : List V} {i : Nat} {d : D}, Reps K F ds vs → ds[i]? = some d → ∃ v, vs[i]? = some v ∧ Rep K F d v
  | [], _, _, _, _, e => by simp at e
  | d :: ds, vs, 0, x, h, e => by
    obtain ⟨v, r, rfl, h2, _⟩ := h
    simp at e; subst e
    exact ⟨v, rfl, h2⟩
  | d :: ds, vs, i + 1, x, h, e => by
    obtain ⟨v, r, rfl, _, h3⟩ := h
    obtain ⟨w, q1, q2⟩ := Reps.get (i := i) h3 (by simpa using e)
    exact ⟨w, by simpa using q1, q2⟩
theorem Reps.back : ∀ {ds : List D} {vs : List V} {i : Nat} {v : V}, Reps K F ds vs → vs[i]? = some v → ∃ d, ds[i]? = some d ∧ Rep K F d v
  | [], vs, _, _, h, e => by cases (show vs = [] from h); simp at e
  | d :: ds, vs, 0, x, h, e => by
    obtain ⟨v, r, rfl, h2, _⟩ := h
    simp at e; subst e
    exact ⟨d, rfl, h2⟩
  | d :: ds, vs, i + 1, x, h, e => by
    obtain ⟨v, r, rfl, _, h3⟩ := h
    obtain ⟨w, q1, q2⟩ := Reps.back (i := i) h3 (by simpa using e)
    exact ⟨w, by simpa using q1, q2⟩
theorem Reps.set : ∀ {ds : List D} {vs : List V} {d : D} {v : V} (i : Nat), Reps K F ds vs → Rep K F d v → Reps K F (ds.set i d) (vs.set i v)
  | [], vs, _, _, _, h, _ => by cases (show vs = [] from h); exact rfl
  | d :: ds, vs, _, _, 0, h, q => by
    obtain ⟨v, r, rfl, h2, h3⟩ := h
    exact ⟨_, _, rfl, q, h3⟩
  | d :: ds, vs, _, _, i + 1, h, q => by
    obtain ⟨v, r, rfl, h2, h3⟩ := h
    exact ⟨_, _, rfl, h2, Reps.set i h3 q⟩
theorem Reps.take : ∀ {ds : List D} {vs : List V} (n : Nat), Reps K F ds vs → Reps K F (ds.take n) (vs.take n)
  | _, _, 0, _ => rfl
  | [], vs, n + 1, h => by cases (show vs = [] from h); exact rfl
  | d :: ds, vs, n + 1, h => by
    obtain ⟨v, r, rfl, h2, h3⟩ := h
    exact ⟨_, _, rfl, h2, Reps.take n h3⟩
theorem Reps.drop : ∀ {ds : List D} {vs : List V} (n : Nat), Reps K F ds vs → Reps K F (ds.drop n) (vs.drop n)
  | _, _, 0, h => h
  | [], vs, n + 1, h => by cases (show vs = [] from h); exact rfl
  | d :: ds, vs, n + 1, h => by
    obtain ⟨v, r, rfl, h2, h3⟩ := h
    exact Reps.drop n h3
theorem Reps.ints : ∀ {ns : List Int}, Reps K F (ns.map D.int) (ns.map V.int)
  | [] => rfl
  | n :: ns => ⟨_, _, rfl, rfl, Reps.ints⟩
end

/-! ### what is open -/
inductive OO where
  | lst (ds : List D)
  | dic (ks : List Key) (ds : List D)
  | ins (C : Addr) (ns : List Str) (ds : List D)
  | exo (a C : Addr) (d : Option Addr)
  | exd (d : Addr) (ns : List Str) (ds : List D)
  /-- a dict that is locked while it is walked -/
  | lkd (od : Obj) (kvs : List (Key × V)) (ks : List Key) (ds : List D)
abbrev Opens := Addr → Option OO
def Opens.up (O : Opens) (a : Addr) (o : OO) : Opens := fun b => if b = a then some o else O b
theorem Opens.up_same {O : Opens} {a : Addr} {o : OO} : O.up a o a = some o := if_pos rfl
theorem Opens.up_ne {O : Opens} {a b : Addr} {o : OO} (h : b ≠ a) : O.up a o b = O b := if_neg h
theorem Opens.up_up {O : Opens} {a : Addr} {o u : OO} : (O.up a o).up a u = O.up a u := by
  funext b; unfold Opens.up; split <;> rfl
def Opens.none : Opens := fun _ => Option.none
def RepO (K : PySem.W.Frag) (F : Fr) : OO → HO → Prop
  | .lst ds, ho => ∃ vs, ho = .lst vs ∧ Reps K F ds vs
  | .dic ks ds, ho => ∃ vs, ho = .dK (ks.zip vs) ∧ ks.length = ds.length ∧ Reps K F ds vs
  | .ins C ns ds, ho => ∃ dx vs, ho = .ins C dx (ns.zip vs) ∧ ns.length = ds.length ∧ Reps K F ds vs
  | .exo a C d, ho => ho = L2.exo a C d
  | .exd d ns ds, ho => ∃ vs, ho = L2.exd d (ns.zip vs) ∧ ns.length = ds.length ∧ Reps K F ds vs
  | .lkd od kvs ks ds, ho => ho = .frz od (.dK kvs) ∧ ∃ vs, kvs = ks.zip vs ∧ ks.length = ds.length ∧ Reps K F ds vs
theorem RepO.monoZ {K : PySem.W.Frag} {F F' : Fr} (e : ∀ a o, F.z a = some o → F'.z a = some o) : ∀ {o : OO} {ho : HO}, RepO K F o ho → RepO K F' o ho
  | .lst ds, ho, ⟨vs, h1, h2⟩ => ⟨vs, h1, Reps.monoZ e _ _ h2⟩
  | .dic ks ds, ho, ⟨vs, h1, h2, h3⟩ => ⟨vs, h1, h2, Reps.monoZ e _ _ h3⟩
  | .ins C ns ds, ho, ⟨dx, vs, h1, h2, h3⟩ => ⟨dx, vs, h1, h2, Reps.monoZ e _ _ h3⟩
  | .exo _ _ _, _, h => h
  | .exd _ _ _, _, ⟨vs, h1, h2, h3⟩ => ⟨vs, h1, h2, Reps.monoZ e _ _ h3⟩
  | .lkd _ _ _ _, _, ⟨h0, vs, h1, h2, h3⟩ => ⟨h0, vs, h1, h2, Reps.monoZ e _ _ h3⟩
theorem RepO.mono {K : PySem.W.Frag} {F F' : Fr} (e : Ext F F') {o : OO} {ho : HO} (h : RepO K F o ho) : RepO K F' o ho := RepO.monoZ e.1 h
/-- the abstract heap H holds what is frozen, what is open, what is left alone -/
structure Stt (K : PySem.W.Frag) (F : Fr) (O : Opens) (H : Hp) : Prop where
  ext : Sub F H
  opn : ∀ a o, O a = some o → F.z a = none ∧ ∃ ho, H a = some ho ∧ RepO K F o ho
  rst : ∀ a o, F.r a = some o → F.z a = none ∧ O a = none ∧ H a = some o
section
variable {K : PySem.W.Frag} {F : Fr} {H : Hp} {O : Opens} {p : Addr} {o : HO}
theorem Stt.fresh (S : Stt K F O H) (h : H p = none) : F.z p = none := by
  cases q : F.z p with
  | none => rfl
  | some u => rw [S.ext p u q] at h; cases h
theorem Stt.closed (S : Stt K F O H) (h : H p = none) : O p = none := by
  cases q : O p with
  | none => rfl
  | some u =>
    obtain ⟨_, ho, e, _⟩ := S.opn p u q
    rw [e] at h; cases h
theorem sub_up {F : Fr} {H : Hp} {p : Addr} {o : HO} (e : Sub F H) (h : F.z p = none) : Sub F (upd H p o) := fun a u q => by
  rw [upd_ne (ne_of_none q h)]; exact e a u q
theorem sub_both {F : Fr} {H : Hp} {p : Addr} {o : HO} (e : Sub F H) : Sub (F.add p o) (upd H p o) := fun a u q => by
  have q : upd F.z p o a = some u := q
  by_cases ha : a = p
  · subst ha; rw [upd_same] at q ⊢; exact q
  · rw [upd_ne ha] at q ⊢; exact e a u q
/-- a new object, frozen at once -/
theorem Stt.freeze (S : Stt K F O H) (h : H p = none) : Stt K (F.add p o) O (upd H p o) :=
  ⟨sub_both S.ext, fun a u e => by
    obtain ⟨h1, ho, h2, h3⟩ := S.opn a u e
    have ne : a ≠ p := ne_of_none h2 h
    exact ⟨by show upd F.z p o a = none; rw [upd_ne ne]; exact h1, ho, by rw [upd_ne ne]; exact h2, h3.mono (Ext.new (S.fresh h))⟩,
   fun a u e => by
    obtain ⟨h1, h2, h3⟩ := S.rst a u e
    have ne : a ≠ p := ne_of_none h3 h
    exact ⟨by show upd F.z p o a = none; rw [upd_ne ne]; exact h1, h2, by rw [upd_ne ne]; exact h3⟩⟩
/-- a new object, left open -/
theorem Stt.open_ {u : OO} (S : Stt K F O H) (h : H p = none) (r : RepO K F u o) : Stt K F (O.up p u) (upd H p o) :=
  ⟨sub_up S.ext (S.fresh h), fun a w e => by
    by_cases ha : a = p
    · subst ha
      rw [Opens.up_same] at e; cases e
      exact ⟨S.fresh h, o, upd_same, r⟩
    · rw [Opens.up_ne ha] at e
      obtain ⟨h1, ho, h2, h3⟩ := S.opn a w e
      exact ⟨h1, ho, by rw [upd_ne ha]; exact h2, h3⟩,
   fun a w e => by
    obtain ⟨h1, h2, h3⟩ := S.rst a w e
    have ne : a ≠ p := ne_of_none h3 h
    exact ⟨h1, by rw [Opens.up_ne ne]; exact h2, by rw [upd_ne ne]; exact h3⟩⟩
/-- an open object is changed -/
theorem Stt.change {u w : OO} (S : Stt K F O H) (h : O p = some w) (r : RepO K F u o) : Stt K F (O.up p u) (upd H p o) :=
  ⟨sub_up S.ext (S.opn p w h).1, fun a v e => by
    by_cases ha : a = p
    · subst ha
      rw [Opens.up_same] at e; cases e
      exact ⟨(S.opn a w h).1, o, upd_same, r⟩
    · rw [Opens.up_ne ha] at e
      obtain ⟨h1, ho, h2, h3⟩ := S.opn a v e
      exact ⟨h1, ho, by rw [upd_ne ha]; exact h2, h3⟩,
   fun a w' e => by
    obtain ⟨h1, h2, h3⟩ := S.rst a w' e
    have ne : a ≠ p := fun z => by subst z; rw [h2] at h; cases h
    exact ⟨h1, by rw [Opens.up_ne ne]; exact h2, by rw [upd_ne ne]; exact h3⟩⟩
/-- an untracked-by-us object comes -/
theorem Stt.grow {H' : Hp} (S : Stt K F O H) (e : ∀ a o, H a = some o → H' a = some o) : Stt K F O H' :=
  ⟨fun a o q => e a o (S.ext a o q), fun a u q => by
    obtain ⟨h1, ho, h2, h3⟩ := S.opn a u q
    exact ⟨h1, ho, e _ _ h2, h3⟩, fun a u q => by
    obtain ⟨h1, h2, h3⟩ := S.rst a u q
    exact ⟨h1, h2, e _ _ h3⟩⟩
/-- some open things are left alone for a while -/
theorem Stt.hide {O₁ : Opens} {R : Hp} (S : Stt K F O H) (h1 : ∀ a o, O₁ a = some o → O a = some o) (h2 : ∀ a o, R a = some o → (F.r a = some o ∨ ((O a).isSome = true ∧ O₁ a = none ∧ H a = some o))) : Stt K ⟨F.z, R⟩ O₁ H := by
  refine ⟨S.ext, fun a o e => ?_, fun a o e => ?_⟩
  · obtain ⟨q1, ho, q2, q3⟩ := S.opn a o (h1 a o e)
    exact ⟨q1, ho, q2, RepO.monoZ (F := F) (F' := ⟨F.z, R⟩) (fun _ _ z => z) q3⟩
  · rcases h2 a o e with q | ⟨q1, q2, q3⟩
    · obtain ⟨g1, g2, g3⟩ := S.rst a o q
      refine ⟨g1, ?_, g3⟩
      cases w : O₁ a with
      | none => rfl
      | some u => rw [h1 a u w] at g2; cases g2
    · obtain ⟨u, hu⟩ := Option.isSome_iff_exists.mp q1
      exact ⟨(S.opn a u hu).1, q2, q3⟩
theorem Stt.list (S : Stt K F O H) {a : Addr} {ds : List D} (h : O a = some (.lst ds)) : ∃ vs, H a = some (.lst vs) ∧ Reps K F ds vs := by
  obtain ⟨_, ho, h2, vs, rfl, h3⟩ := S.opn a _ h
  exact ⟨vs, h2, h3⟩
end

/-! ### the slots -/
abbrev Env' := List (Option D)
structure EnvR (K : PySem.W.Frag) (F : Fr) (ρ : Env') (σ : L2.St) : Prop where
  len : σ.length = ρ.length
  get : ∀ (i : Nat) (d : D), ρ[i]? = some (some d) → ∃ v, σ[i]? = some (some v) ∧ Rep K F d v
theorem EnvR.mono {K : PySem.W.Frag} {F F' : Fr} {ρ : Env'} {σ : L2.St} (e : Ext F F') (h : EnvR K F ρ σ) : EnvR K F' ρ σ :=
  ⟨h.len, fun i d q => by obtain ⟨v, h1, h2⟩ := h.get i d q; exact ⟨v, h1, h2.mono e⟩⟩
theorem EnvR.set {K : PySem.W.Frag} {F : Fr} {ρ : Env'} {σ : L2.St} (h : EnvR K F ρ σ) (i : Nat) {d : D} {v : V} (r : Rep K F d v) : EnvR K F (ρ.set i (some d)) (σ.set i (some v)) :=
  ⟨by rw [List.length_set, List.length_set, h.len], fun j e q => by
    by_cases hj : j = i
    · subst hj
      have hl : j < ρ.length := by
        have := (List.getElem?_eq_some_iff.mp q).1
        simpa using this
      rw [List.getElem?_set_self hl] at q
      cases q
      exact ⟨v, List.getElem?_set_self (by rw [h.len]; exact hl), r⟩
    · rw [List.getElem?_set_ne (Ne.symm hj)] at q
      obtain ⟨w, h1, h2⟩ := h.get j e q
      exact ⟨w, by rw [List.getElem?_set_ne (Ne.symm hj)]; exact h1, h2⟩⟩
/-- forget a slot -/
theorem EnvR.forget {K : PySem.W.Frag} {F : Fr} {ρ : Env'} {σ : L2.St} (h : EnvR K F ρ σ) (i : Nat) (x : Option V) : EnvR K F (ρ.set i none) (σ.set i x) :=
  ⟨by rw [List.length_set, List.length_set, h.len], fun j e q => by
    by_cases hj : j = i
    · subst hj
      have hl : j < ρ.length := by
        have := (List.getElem?_eq_some_iff.mp q).1
        simpa using this
      rw [List.getElem?_set_self hl] at q
      cases q
    · rw [List.getElem?_set_ne (Ne.symm hj)] at q
      obtain ⟨w, h1, h2⟩ := h.get j e q
      exact ⟨w, by rw [List.getElem?_set_ne (Ne.symm hj)]; exact h1, h2⟩⟩
theorem EnvR.weaken {K : PySem.W.Frag} {F : Fr} {ρ ρ' : Env'} {σ : L2.St} (h : EnvR K F ρ σ) (hl : ρ'.length = ρ.length) (w : ∀ (i : Nat) (d : D), ρ'[i]? = some (some d) → ρ[i]? = some (some d)) : EnvR K F ρ' σ :=
  ⟨h.len.trans hl.symm, fun i d q => h.get i d (w i d q)⟩

/-! ### where code runs -/
structure Mo where
  P : Program
  w : World
  K : PySem.W.Frag
  mg : Str → Option Value
  base : Heap
/-- an exception, as data: its class, its fields -/
structure XD where
  cls : Addr
  ns : List Str
  ds : List D
def RepX (K : PySem.W.Frag) (F : Fr) (x : XD) (cls : Value) (d : Option Addr) : Prop :=
  cls = .ref x.cls ∧ x.ns.length = x.ds.length ∧ (x.ns = [] ∨ ∃ da vs, d = some da ∧ F.z da = some (.xd (x.ns.zip vs)) ∧ Reps K F x.ds vs)
structure G where
  M : Mo
  N : List Str
  sc : Scope
  ss : Scope
  k : Nat
  hot : Bool
  top : Bool
  F0 : Fr
  E : XD → Env' → Opens → Prop
  pin : Addr → Value → Option Addr → Prop
def G.W (Γ : G) : WX := fun cls d σ H => ∃ (x : XD) (ρ : Env') (F : Fr) (O : Opens), Ext Γ.F0 F ∧ Stt Γ.M.K F O H ∧ EnvR Γ.M.K F ρ σ ∧ RepX Γ.M.K F x cls d ∧ Γ.E x ρ O
structure G.Has (Γ : G) (X : Cx) : Prop where
  M : Γ.M = ⟨X.prog, X.w, X.K, X.mg, X.base⟩
  N : X.N = Γ.N
  nd : Γ.N.Nodup
  sc : X.env.scope = Γ.sc
  calm : Γ.hot = false → X.calm = true
  room : Γ.hot = false → Room Γ.k X.A
  units : X.A.units + 100 < cLine
  fn : ∀ x : Str, Loc Γ.ss x → Loc X.env.scope x ∧ (X.fn x = true ∨ X.env.scope.names.lookup x = some .local)
  takes : Takes X Γ.W
  passes : PassesOwn (model X.prog X.w) X.A X.env X.xe
  stk : Γ.top = true → X.stack = X.env :: X.outer ∧ X.env.frame = some X.env.locals
  pin : ∀ a cls d, Γ.pin a cls d → ∃ oe, Zc cls d oe ∧ (∃ vs, oe.data = .fields vs) ∧ (a, oe) ∈ X.pn

def Ev (Γ : G) (e : Expr) (σ : L2.St) (H : Hp) (Q : VK) : Prop := ∀ X, Γ.Has X → ∀ pins s, Inv X pins σ H s → wpAny (model X.prog X.w) X.A (eval e X.env) (EP X pins σ Q) X.xe s
theorem Ev.pe {Γ : G} {X : Cx} (h : Γ.Has X) (e : Expr) : PE X e (Ev Γ e) := ⟨fun pins s σ H Q I q => q X h pins s I⟩
def EvT (Γ : G) (e : Expr) (σ : L2.St) (H : Hp) (Q : Bool → Hp → Prop) : Prop := ∀ X, Γ.Has X → ∀ pins s, Inv X pins σ H s → wpAny (model X.prog X.w) X.A (isTrue e X.env (eval e X.env)) (TP X pins σ Q) X.xe s
theorem EvT.pt {Γ : G} {X : Cx} (h : Γ.Has X) (e : Expr) : PT X e (EvT Γ e) := ⟨fun pins s σ H Q I q => q X h pins s I⟩
def EvA (Γ : G) (es : List Expr) (σ : L2.St) (H : Hp) (Q : List V → Hp → Prop) : Prop := ∀ X, Γ.Has X → ∀ pos pins s, Inv X pins σ H s → wpAny (model X.prog X.w) X.A (spliced (backTo pos (starEach es X.env))) (AP X pins σ Q) X.xe s
theorem EvA.pa {Γ : G} {X : Cx} (h : Γ.Has X) (es : List Expr) : PA X es (EvA Γ es) := ⟨fun pos pins s σ H Q I q => q X h pos pins s I⟩
def EvS (Γ : G) (st : Stmt) (D : Ends) (σ : L2.St) (H : Hp) : Prop := ∀ X, Γ.Has X → ∀ pins s, Inv X pins σ H s → wpAny (model X.prog X.w) X.A (exec st X.env) (SP X pins D) X.xe s
theorem EvS.ps {Γ : G} {X : Cx} (h : Γ.Has X) (st : Stmt) : PS X st (EvS Γ st) := ⟨fun pins s σ H D I q => q X h pins s I⟩
def EvSs (Γ : G) (st : List Stmt) (D : Ends) (σ : L2.St) (H : Hp) : Prop := ∀ X, Γ.Has X → ∀ pins s, Inv X pins σ H s → wpAny (model X.prog X.w) X.A (execs st X.env) (SP X pins D) X.xe s
theorem EvSs.pss {Γ : G} {X : Cx} (h : Γ.Has X) (st : List Stmt) : PSs X st (EvSs Γ st) := ⟨fun pins s σ H D I q => q X h pins s I⟩

/-! ### the judgements over data -/
abbrev DK := D → Opens → Prop
/-- what a value's wish is, from what is wished of data -/
def KV' (Γ : G) (F : Fr) (Q : DK) : VK := fun v H' => ∃ d F' O', Ext F F' ∧ Stt Γ.M.K F' O' H' ∧ Rep Γ.M.K F' d v ∧ Q d O'
def We (Γ : G) (e : Expr) (ρ : Env') (O : Opens) (Q : DK) : Prop :=
  ∀ F σ H, Ext Γ.F0 F → Stt Γ.M.K F O H → EnvR Γ.M.K F ρ σ → Ev Γ e σ H (KV' Γ F Q)
def WT (Γ : G) (e : Expr) (ρ : Env') (O : Opens) (Q : Bool → Opens → Prop) : Prop :=
  ∀ F σ H, Ext Γ.F0 F → Stt Γ.M.K F O H → EnvR Γ.M.K F ρ σ → EvT Γ e σ H fun b H' => ∃ F' O', Ext F F' ∧ Stt Γ.M.K F' O' H' ∧ Q b O'
def WA (Γ : G) (es : List Expr) (ρ : Env') (O : Opens) (Q : List D → Opens → Prop) : Prop :=
  ∀ F σ H, Ext Γ.F0 F → Stt Γ.M.K F O H → EnvR Γ.M.K F ρ σ → EvA Γ es σ H fun vs H' => ∃ ds F' O', Ext F F' ∧ Stt Γ.M.K F' O' H' ∧ Reps Γ.M.K F' ds vs ∧ Q ds O'
structure EndsD where
  nx : Env' → Opens → Prop
  rt : DK
  bk : Env' → Opens → Prop := fun _ _ => False
  ct : Env' → Opens → Prop := fun _ _ => False
def KS (Γ : G) (F : Fr) (Q : Env' → Opens → Prop) : L2.St → Hp → Prop := fun σ' H' => ∃ ρ' F' O', Ext F F' ∧ Stt Γ.M.K F' O' H' ∧ EnvR Γ.M.K F' ρ' σ' ∧ Q ρ' O'
def KE' (Γ : G) (F : Fr) (Z : EndsD) : Ends := ⟨KS Γ F Z.nx, KV' Γ F Z.rt, KS Γ F Z.bk, KS Γ F Z.ct⟩
def WS (Γ : G) (st : Stmt) (ρ : Env') (O : Opens) (Z : EndsD) : Prop :=
  ∀ F σ H, Ext Γ.F0 F → Stt Γ.M.K F O H → EnvR Γ.M.K F ρ σ → EvS Γ st (KE' Γ F Z) σ H
def WSs (Γ : G) (st : List Stmt) (ρ : Env') (O : Opens) (Z : EndsD) : Prop :=
  ∀ F σ H, Ext Γ.F0 F → Stt Γ.M.K F O H → EnvR Γ.M.K F ρ σ → EvSs Γ st (KE' Γ F Z) σ H

/-! ### weakening -/
theorem KV'.mono {Γ : G} {F F' : Fr} {Q Q' : DK} (e : Ext F F') (h : ∀ d O, Q d O → Q' d O) {v : V} {H : Hp} (k : KV' Γ F' Q v H) : KV' Γ F Q' v H := by
  obtain ⟨d, F2, O2, e2, s2, r2, q2⟩ := k
  exact ⟨d, F2, O2, e.trans e2, s2, r2, h _ _ q2⟩
theorem KS.mono {Γ : G} {F F' : Fr} {Q Q' : Env' → Opens → Prop} (e : Ext F F') (h : ∀ d O, Q d O → Q' d O) {σ : L2.St} {H : Hp} (k : KS Γ F' Q σ H) : KS Γ F Q' σ H := by
  obtain ⟨d, F2, O2, e2, s2, r2, q2⟩ := k
  exact ⟨d, F2, O2, e.trans e2, s2, r2, h _ _ q2⟩
theorem EP.mono {X : Cx} {pins : List (Addr × Obj)} {σ : L2.St} {Q Q' : VK} (h : ∀ v H, Q v H → Q' v H) {u : Value} {s : Shared} (k : EP X pins σ Q u s) : EP X pins σ Q' u s := by
  obtain ⟨v, H, I, r, q⟩ := k
  exact ⟨v, H, I, r, h _ _ q⟩
theorem SP.mono {X : Cx} {pins : List (Addr × Obj)} {D D' : Ends} (h1 : ∀ σ H, D.nx σ H → D'.nx σ H) (h2 : ∀ v H, D.rt v H → D'.rt v H) (h3 : ∀ σ H, D.bk σ H → D'.bk σ H) (h4 : ∀ σ H, D.ct σ H → D'.ct σ H)
    {f : Flow} {s : Shared} (k : SP X pins D f s) : SP X pins D' f s := by
  cases f with
  | next => obtain ⟨σ, H, I, q⟩ := k; exact ⟨σ, H, I, h1 _ _ q⟩
  | brk => obtain ⟨σ, H, I, q⟩ := k; exact ⟨σ, H, I, h3 _ _ q⟩
  | cont => obtain ⟨σ, H, I, q⟩ := k; exact ⟨σ, H, I, h4 _ _ q⟩
  | ret u => obtain ⟨v, σ, H, I, r, q⟩ := k; exact ⟨v, σ, H, I, r, h2 _ _ q⟩
section
variable {Γ : G} {e : Expr} {ρ : Env'} {O : Opens} {F F' : Fr} {σ : L2.St} {H : Hp}
/-- run a part from a later frozen heap, its wish told from an earlier one -/
theorem We.at {Q Q' : DK} (h : We Γ e ρ O Q) (e0 : Ext Γ.F0 F) (e1 : Ext F F') (s : Stt Γ.M.K F' O H) (r : EnvR Γ.M.K F' ρ σ) (m : ∀ d O, Q d O → Q' d O) : Ev Γ e σ H (KV' Γ F Q') := fun X hX pins st I =>
  thn (h F' σ H (e0.trans e1) s r X hX pins st I) fun u s' k => EP.mono (fun v H q => KV'.mono e1 m q) k
theorem We.imp {Q Q' : DK} (h : We Γ e ρ O Q) (m : ∀ d O, Q d O → Q' d O) : We Γ e ρ O Q' := fun F σ H e0 s r => h.at e0 (Ext.refl F) s r m
theorem WT.imp {Q Q' : Bool → Opens → Prop} (h : WT Γ e ρ O Q) (m : ∀ d O, Q d O → Q' d O) : WT Γ e ρ O Q' := fun F σ H e0 s r X hX pins st I =>
  thn (h F σ H e0 s r X hX pins st I) fun b s' k => by
    obtain ⟨H', I', F', O', e1, s1, q⟩ := k
    exact ⟨H', I', F', O', e1, s1, m _ _ q⟩
theorem WS.imp {st : Stmt} {Z Z' : EndsD} (h : WS Γ st ρ O Z) (h1 : ∀ ρ O, Z.nx ρ O → Z'.nx ρ O) (h2 : ∀ v H, Z.rt v H → Z'.rt v H) (h3 : ∀ ρ O, Z.bk ρ O → Z'.bk ρ O) (h4 : ∀ ρ O, Z.ct ρ O → Z'.ct ρ O) : WS Γ st ρ O Z' := fun F σ H e0 s r X hX pins st I =>
  thn (h F σ H e0 s r X hX pins st I) fun u s' k => SP.mono (fun _ _ q => KS.mono (Ext.refl F) h1 q) (fun _ _ q => KV'.mono (Ext.refl F) h2 q) (fun _ _ q => KS.mono (Ext.refl F) h3 q) (fun _ _ q => KS.mono (Ext.refl F) h4 q) k
theorem WSs.imp {st : List Stmt} {Z Z' : EndsD} (h : WSs Γ st ρ O Z) (h1 : ∀ ρ O, Z.nx ρ O → Z'.nx ρ O) (h2 : ∀ v H, Z.rt v H → Z'.rt v H) (h3 : ∀ ρ O, Z.bk ρ O → Z'.bk ρ O) (h4 : ∀ ρ O, Z.ct ρ O → Z'.ct ρ O) : WSs Γ st ρ O Z' := fun F σ H e0 s r X hX pins st I =>
  thn (h F σ H e0 s r X hX pins st I) fun u s' k => SP.mono (fun _ _ q => KS.mono (Ext.refl F) h1 q) (fun _ _ q => KV'.mono (Ext.refl F) h2 q) (fun _ _ q => KS.mono (Ext.refl F) h3 q) (fun _ _ q => KS.mono (Ext.refl F) h4 q) k
end
end DL

/-! DLB: rules: names, constants, operators, comparisons, tests, displays, small statements. -/
namespace DL
open PySem PySem.Spec PyProof.Rows L2

section
variable {K : PySem.W.Frag} {F : Fr}
theorem rep_int {i : Int} : Rep K F (.int i) (.int i) := rfl
theorem rep_bl {i : Bool} : Rep K F (.bl i) (.bl i) := rfl
theorem rep_str {i : Str} : Rep K F (.str i) (.str i) := rfl
theorem rep_non : Rep K F .non .non := rfl
theorem rep_raw {v : V} : Rep K F (.raw v) v := rfl
theorem rep_tup {a : Addr} {vs : List V} {ds : List D} (h : SqT K F.z a vs) (r : Reps K F ds vs) : Rep K F (.tup ds) (.ref a) := ⟨a, vs, rfl, h, r⟩
theorem rep_lst {a : Addr} {vs : List V} {ds : List D} (h : F.z a = some (.lst vs)) (r : Reps K F ds vs) : Rep K F (.lst ds) (.ref a) := ⟨a, vs, rfl, h, r⟩
theorem rep_rls {a : Addr} {vs : List V} {ds : List D} (h : SqL K F.z a vs) (r : Reps K F ds vs) : Rep K F (.rls ds) (.ref a) := ⟨a, vs, rfl, h, r⟩
end
section
variable {Γ : G} {ρ : Env'} {O : Opens} {Q : DK} {σ : L2.St} {H : Hp} {F : Fr}
theorem Ev.mono {e : Expr} {Q Q' : VK} (h : Ev Γ e σ H Q) (m : ∀ v H, Q v H → Q' v H) : Ev Γ e σ H Q' := fun X hX pins st I => thn (h X hX pins st I) fun _ _ k => EP.mono m k
theorem EvT.mono {e : Expr} {Q Q' : Bool → Hp → Prop} (h : EvT Γ e σ H Q) (m : ∀ v H, Q v H → Q' v H) : EvT Γ e σ H Q' := fun X hX pins st I => thn (h X hX pins st I) fun _ _ ⟨H1, I1, q⟩ => ⟨H1, I1, m _ _ q⟩
theorem EvA.mono {e : List Expr} {Q Q' : List V → Hp → Prop} (h : EvA Γ e σ H Q) (m : ∀ v H, Q v H → Q' v H) : EvA Γ e σ H Q' := fun X hX pos pins st I => thn (h X hX pos pins st I) fun _ _ ⟨vs, H1, I1, r, q⟩ => ⟨vs, H1, I1, r, m _ _ q⟩
theorem EvS.mono {e : Stmt} {D D' : Ends} (h : EvS Γ e D σ H) (h1 : ∀ σ H, D.nx σ H → D'.nx σ H) (h2 : ∀ v H, D.rt v H → D'.rt v H) (h3 : ∀ σ H, D.bk σ H → D'.bk σ H) (h4 : ∀ σ H, D.ct σ H → D'.ct σ H) : EvS Γ e D' σ H :=
  fun X hX pins st I => thn (h X hX pins st I) fun _ _ k => SP.mono h1 h2 h3 h4 k
theorem EvSs.mono {e : List Stmt} {D D' : Ends} (h : EvSs Γ e D σ H) (h1 : ∀ σ H, D.nx σ H → D'.nx σ H) (h2 : ∀ v H, D.rt v H → D'.rt v H) (h3 : ∀ σ H, D.bk σ H → D'.bk σ H) (h4 : ∀ σ H, D.ct σ H → D'.ct σ H) : EvSs Γ e D' σ H :=
  fun X hX pins st I => thn (h X hX pins st I) fun _ _ k => SP.mono h1 h2 h3 h4 k
/-- a wish met at once -/
theorem kv {d : D} {v : V} (s : Stt Γ.M.K F O H) (r : Rep Γ.M.K F d v) (q : Q d O) : KV' Γ F Q v H := ⟨d, F, O, Ext.refl F, s, r, q⟩
theorem kv1 {F' : Fr} {d : D} {v : V} (e : Ext F F') (s : Stt Γ.M.K F' O H) (r : Rep Γ.M.K F' d v) (q : Q d O) : KV' Γ F Q v H := ⟨d, F', O, e, s, r, q⟩
/-- a new tuple, a new list: frozen -/
theorem kv_tup {ds : List D} {vs : List V} {p : Addr} (s : Stt Γ.M.K F O H) (hp : H p = none) (r : Reps Γ.M.K F ds vs) (q : Q (.tup ds) O) : KV' Γ F Q (.ref p) (upd H p (.tup vs)) :=
  ⟨_, F.add p (.tup vs), O, Ext.new (s.fresh hp), s.freeze hp, rep_tup (SqT.of upd_same) (r.mono (Ext.new (s.fresh hp))), q⟩
theorem kv_lst {ds : List D} {vs : List V} {p : Addr} (s : Stt Γ.M.K F O H) (hp : H p = none) (r : Reps Γ.M.K F ds vs) (q : Q (.lst ds) O) : KV' Γ F Q (.ref p) (upd H p (.lst vs)) :=
  ⟨_, F.add p (.lst vs), O, Ext.new (s.fresh hp), s.freeze hp, rep_lst upd_same (r.mono (Ext.new (s.fresh hp))), q⟩
/-- a new list, left open -/
theorem kv_opn {ds : List D} {vs : List V} {p : Addr} (s : Stt Γ.M.K F O H) (hp : H p = none) (r : Reps Γ.M.K F ds vs) (q : ∀ p, O p = none → Q (.raw (.ref p)) (O.up p (.lst ds))) : KV' Γ F Q (.ref p) (upd H p (.lst vs)) :=
  ⟨_, F, O.up p (.lst ds), Ext.refl F, s.open_ hp ⟨vs, rfl, r⟩, rep_raw, q p (s.closed hp)⟩

/-! ### names, constants -/
theorem we_name {i : Nat} {x : Str} {pos : Pos} {d : D} (hN : Γ.N[i]? = some x) (hv : Vis Γ.sc x) (hd : ρ[i]? = some (some d)) (h : Q d O)
    (h1 : (x == ("__debug__" : Str)) = false := by decide) (h2 : (x == ("__classdict__" : Str)) = false := by decide) : We Γ (.Name x pos) ρ O Q := fun F σ H e0 s r X hX pins st I => by
  obtain ⟨v, e, rv⟩ := r.get i d hd
  exact (pe_var (X := X) (i := i) (by rw [hX.N]; exact hN) (by rw [hX.sc]; exact hv) h1 h2).run pins st σ H _ I ⟨v, e, kv s rv h⟩
theorem we_int {i : Int} {j pos} (h : Q (.int i) O) : We Γ (.Constant (.int i) j pos) ρ O Q := fun F σ H e0 s r X hX pins st I => pe_int.run pins st σ H _ I (kv s rep_int h)
theorem we_bl {b : Bool} {j pos} (h : Q (.bl b) O) : We Γ (.Constant (.bool b) j pos) ρ O Q := fun F σ H e0 s r X hX pins st I => pe_bl.run pins st σ H _ I (kv s rep_bl h)
theorem we_non {j pos} (h : Q .non O) : We Γ (.Constant .none j pos) ρ O Q := fun F σ H e0 s r X hX pins st I => pe_non.run pins st σ H _ I (kv s rep_non h)
theorem we_str {x : Str} {j pos} (h : Q (.str x) O) : We Γ (.Constant (.str x) j pos) ρ O Q := fun F σ H e0 s r X hX pins st I => pe_str.run pins st σ H _ I (kv s rep_str h)
def GlN (Γ : G) (x : Str) : Prop := Γ.sc.names.lookup x = some .globalImplicit
theorem G.Has.gl {X : Cx} {x : Str} (hX : Γ.Has X) (h : GlN Γ x) : Gl X x := by
  show X.env.scope.names.lookup x = some .globalImplicit
  rw [hX.sc]; exact h
theorem G.Has.K {X : Cx} (hX : Γ.Has X) : Γ.M.K = X.K := by rw [hX.M]
theorem G.Has.mg {X : Cx} (hX : Γ.Has X) : Γ.M.mg = X.mg := by rw [hX.M]
/-- a module's constant -/
theorem we_glob {x : Str} {pos : Pos} {u : Value} {v : V} {d : D} (hg : GlN Γ x) (hm : Γ.M.mg x = some u) (rv : RelV v u) (rd : ∀ F, Rep Γ.M.K F d v) (h : Q d O) (h1 : (x == ("__debug__" : Str)) = false := by decide) : We Γ (.Name x pos) ρ O Q := fun F σ H e0 s r X hX pins st I =>
  (pe_glob (hX.gl hg) (by rw [← hX.mg]; exact hm) rv h1).run pins st σ H _ I (kv s (rd F) h)
/-- a builtin's name as a value -/
theorem we_bltn {x : Str} {pos : Pos} {u : Value} {v : V} (hg : GlN Γ x) (hm : Γ.M.mg x = none) (hv : bootBuiltins x = some u) (rv : RelV v u) (h : Q (.raw v) O) (hn : x ≠ "__name__" := by decide) (h1 : (x == ("__debug__" : Str)) = false := by decide) : We Γ (.Name x pos) ρ O Q := fun F σ H e0 s r X hX pins st I =>
  (pe_bltn (hX.gl hg) (by rw [← hX.mg]; exact hm) hv rv hn h1).run pins st σ H _ I (kv s rep_raw h)

/-! ### operators -/
/-- a two-place operation over data: what it asks, what it gives -/
abbrev D2 := D → D → Opens → DK → Prop
/-- the operation f, by values, does what t says of data -/
def OpD (Γ : G) (X : Cx) (f : Value → Value → Sem Value) (t : D2) : Prop :=
  ∀ (F : Fr) (O : Opens) (x y : D) (Q : DK) (pins : List (Addr × Obj)) (s : Shared) (σ : L2.St) (H : Hp) (a b : V) (v u : Value), Inv X pins σ H s → RelV a v → RelV b u → Ext Γ.F0 F → Stt Γ.M.K F O H → Rep Γ.M.K F x a → Rep Γ.M.K F y b → t x y O Q →
    wpAny (model X.prog X.w) X.A (f v u) (EP X pins σ (KV' Γ F Q)) X.xe s
theorem OpD.r {X : Cx} {f : Value → Value → Sem Value} {t : D2} (h : OpD Γ X f t) : OpR X f (fun a b H Qv => ∃ F O x y Q, Ext Γ.F0 F ∧ Stt Γ.M.K F O H ∧ Rep Γ.M.K F x a ∧ Rep Γ.M.K F y b ∧ t x y O Q ∧ ∀ v H', KV' Γ F Q v H' → Qv v H') := by
  intro pins s σ H a b v u Qv I ra rb hh
  obtain ⟨F, O, x, y, Q, e0, S, rx, ry, ht, m⟩ := hh
  exact thn (h F O x y Q pins s σ H a b v u I ra rb e0 S rx ry ht) fun _ _ k => EP.mono m k
/-- two parts in a row -/
theorem two {a b : Expr} {t : D2} (e0 : Ext Γ.F0 F) (s : Stt Γ.M.K F O H) (r : EnvR Γ.M.K F ρ σ) (h : We Γ a ρ O fun x O1 => We Γ b ρ O1 fun y O2 => t x y O2 Q) :
    Ev Γ a σ H fun x H1 => Ev Γ b σ H1 fun y H2 => ∃ F2 O2 dx dy Q2, Ext Γ.F0 F2 ∧ Stt Γ.M.K F2 O2 H2 ∧ Rep Γ.M.K F2 dx x ∧ Rep Γ.M.K F2 dy y ∧ t dx dy O2 Q2 ∧ ∀ v H', KV' Γ F2 Q2 v H' → KV' Γ F Q v H' := by
  refine (h F σ H e0 s r).mono fun x H1 ⟨dx, F1, O1, e1, s1, rx, q1⟩ => ?_
  refine (q1 F1 σ H1 (e0.trans e1) s1 (r.mono e1)).mono fun y H2 ⟨dy, F2, O2, e2, s2, ry, q2⟩ => ?_
  exact ⟨F2, O2, dx, dy, Q, e0.trans (e1.trans e2), s2, rx.mono e2, ry, q2, fun v H' k => KV'.mono (e1.trans e2) (fun _ _ q => q) k⟩
theorem we_op {op : Operator} {t : D2} {a b : Expr} {pos : Pos} (ho : ∀ X, Γ.Has X → OpD Γ X (binaryOp op) t) (h : We Γ a ρ O fun x O1 => We Γ b ρ O1 fun y O2 => t x y O2 Q) : We Γ (.BinOp a op b pos) ρ O Q := fun F σ H e0 s r X hX pins st I =>
  (pe_op (ho X hX).r (Ev.pe hX a) (Ev.pe hX b)).run pins st σ H _ I (two e0 s r h)

/-- the binary operators over data -/
def BinQ (op : Operator) : D2 := fun x y O Q => match op, x, y with
  | .Add, .int i, .int j => Q (.int (i + j)) O
  | .Sub, .int i, .int j => Q (.int (i - j)) O
  | .Mult, .int i, .int j => CMulW i j ∧ Q (.int (i * j)) O
  | .FloorDiv, .int i, .int j => CDivW i j ∧ Q (.int (i / j)) O
  | .Mod, .int i, .int j => 0 < j ∧ Q (.int (i % j)) O
  | .Pow, .int i, .int j => CPow i j ∧ Q (.int (i ^ j.toNat)) O
  | .LShift, .int i, .int j => CPow i j ∧ Q (.int (i * 2 ^ j.toNat)) O
  | .RShift, .int i, .int j => 0 ≤ j ∧ Q (.int (i / 2 ^ j.toNat)) O
  | .BitAnd, .int i, .int j => Q (.int (Builtin.bitAnd i j)) O
  | .BitXor, .int i, .int j => Q (.int (Builtin.bitXor i j)) O
  | .BitOr, .int i, .int j => Q (.int (Builtin.bitOr i j)) O
  | .Add, .str a, .str b => a.length + b.length ≤ sizeLine ∧ Q (.str (a ++ b)) O
  | .Add, .lst a, .lst b => a.length + b.length ≤ sizeLine ∧ Q (.lst (a ++ b)) O
  | .Add, .tup a, .tup b => a.length + b.length ≤ sizeLine ∧ Q (.tup (a ++ b)) O
  | .Mult, .lst a, .int k => -(2 ^ 63) ≤ k ∧ k < 2 ^ 63 ∧ a.length * k.toNat ≤ sizeLine ∧ Q (.lst (List.replicate k.toNat a).flatten) O
  | .Sub, .bl a, .bl b => Q (.int (PyProof.Rows.b2i a - PyProof.Rows.b2i b)) O
  | _, _, _ => False
theorem Reps.rep {K : PySem.W.Frag} {ds : List D} {vs : List V} (h : Reps K F ds vs) : ∀ k : Nat, Reps K F (List.replicate k ds).flatten (List.replicate k vs).flatten
  | 0 => rfl
  | k + 1 => by
    rw [List.replicate_succ, List.replicate_succ, List.flatten_cons, List.flatten_cons]
    exact h.append (Reps.rep h k)
theorem bin_ok {X : Cx} (hX : Γ.Has X) (op : Operator) : OpD Γ X (binaryOp op) (BinQ op) := by
  intro F O x y Q pins s σ H a b v u I ra rb e0 S rx ry h
  have hK := hX.K
  unfold BinQ at h
  split at h
  · cases rx; cases ry; exact op_add pins s σ H _ _ _ _ _ I ra rb ⟨_, _, rfl, rfl, kv S rep_int h⟩
  · cases rx; cases ry; exact op_sub pins s σ H _ _ _ _ _ I ra rb ⟨_, _, rfl, rfl, kv S rep_int h⟩
  · cases rx; cases ry; exact op_mulW pins s σ H _ _ _ _ _ I ra rb ⟨_, _, rfl, rfl, h.1, kv S rep_int h.2⟩
  · cases rx; cases ry; exact op_fdivW pins s σ H _ _ _ _ _ I ra rb ⟨_, _, rfl, rfl, h.1, kv S rep_int h.2⟩
  · cases rx; cases ry; exact op_mod pins s σ H _ _ _ _ _ I ra rb ⟨_, _, rfl, rfl, h.1, kv S rep_int h.2⟩
  · cases rx; cases ry; exact op_pow pins s σ H _ _ _ _ _ I ra rb ⟨_, _, rfl, rfl, h.1, kv S rep_int h.2⟩
  · cases rx; cases ry; exact op_shl pins s σ H _ _ _ _ _ I ra rb ⟨_, _, rfl, rfl, h.1, kv S rep_int h.2⟩
  · cases rx; cases ry; exact op_shr pins s σ H _ _ _ _ _ I ra rb ⟨_, _, rfl, rfl, h.1, kv S rep_int h.2⟩
  · cases rx; cases ry; exact op_and pins s σ H _ _ _ _ _ I ra rb ⟨_, _, rfl, rfl, kv S rep_int h⟩
  · cases rx; cases ry; exact op_xor pins s σ H _ _ _ _ _ I ra rb ⟨_, _, rfl, rfl, kv S rep_int h⟩
  · cases rx; cases ry; exact op_or pins s σ H _ _ _ _ _ I ra rb ⟨_, _, rfl, rfl, kv S rep_int h⟩
  · cases rx; cases ry; exact op_add_str pins s σ H _ _ _ _ _ I ra rb ⟨_, _, rfl, rfl, h.1, kv S rep_str h.2⟩
  · obtain ⟨p, xs, rfl, h1, h2⟩ := rx
    obtain ⟨q, ys, rfl, h3, h4⟩ := ry
    exact op_cat pins s σ H _ _ _ _ _ I ra rb ⟨p, q, xs, ys, rfl, rfl, S.ext _ _ h1, S.ext _ _ h3, by rw [← h2.length, ← h4.length]; exact h.1, fun l hl => kv_lst S hl (h2.append h4) h.2⟩
  · obtain ⟨p, xs, rfl, h1, h2⟩ := rx
    obtain ⟨q, ys, rfl, h3, h4⟩ := ry
    rw [hK] at h1 h3
    refine op_catA pins s σ H _ _ _ _ _ I ra rb ?_
    rename_i d1 d2
    refine ⟨p, q, xs, ys, rfl, rfl, S.ext.seqT h1, S.ext.seqT h3, by rw [← h2.length, ← h4.length]; exact h.1, fun e => ?_, fun _ e => ?_, fun _ _ l hl => kv_tup S hl (h2.append h4) h.2⟩
    · subst e
      have e' : d1 = [] := List.eq_nil_of_length_eq_zero (by rw [h2.length]; rfl)
      subst e'
      exact kv S (rep_tup (by rw [hK]; exact h3) h4) h.2
    · subst e
      have e' : d2 = [] := List.eq_nil_of_length_eq_zero (by rw [h4.length]; rfl)
      subst e'
      rw [List.append_nil] at h
      exact kv S (rep_tup (by rw [hK]; exact h1) h2) h.2
  · cases ry
    obtain ⟨p, xs, rfl, h1, h2⟩ := rx
    obtain ⟨g1, g2, g3, g4⟩ := h
    exact op_rep pins s σ H _ _ _ _ _ I ra rb ⟨p, _, xs, rfl, rfl, S.ext _ _ h1, g1, g2, by rw [← h2.length]; exact g3, fun l hl => kv_lst S hl (h2.rep _) g4⟩
  · cases rx; cases ry
    cases ra; cases rb
    exact PyProof.Rows.sub_bool ⟨.int _, H, I.tok _, ⟨_, rfl⟩, kv S rep_int h⟩
  · exact h.elim
theorem we_bin {op : Operator} {a b : Expr} {pos : Pos} (h : We Γ a ρ O fun x O1 => We Γ b ρ O1 fun y O2 => BinQ op x y O2 Q) : We Γ (.BinOp a op b pos) ρ O Q := we_op (fun X hX => bin_ok hX op) h
end
end DL

/-! DLC: rules: comparisons, tests, and | or | not, conditional expressions, displays, items, slices. -/
namespace DL
open PySem PySem.Spec PyProof.Rows L2

/-! ### data as PyData -/
mutual
def toPy : D → Option PyData
  | .non => some .none
  | .bl b => some (.bool b)
  | .int i => some (.int i)
  | .str x => some (.str x)
  | .tup ds => (toPys ds).map .tuple
  | .lst ds => (toPys ds).map .list
  | .rls ds => (toPys ds).map .list
  | _ => none
def toPys : List D → Option (List PyData)
  | [] => some []
  | d :: ds => (toPy d).bind fun p => (toPys ds).map fun q => p :: q
end
section
variable {K : PySem.W.Frag} {F : Fr} {H : Hp}
mutual
theorem dp_of (e : Sub F H) : ∀ (d : D) (v : V) (p : PyData), toPy d = some p → Rep K F d v → Dp K H v p
  | .non, v, p, h, r => by cases h; cases r; exact .non
  | .bl b, v, p, h, r => by cases h; cases r; exact .bl b
  | .int b, v, p, h, r => by cases h; cases r; exact .int b
  | .str b, v, p, h, r => by cases h; cases r; exact .str b
  | .tup ds, v, p, h, r => by
    obtain ⟨a, vs, rfl, h1, h2⟩ := r
    rw [toPy] at h
    obtain ⟨q, hq, rfl⟩ := Option.map_eq_some_iff.mp h
    exact .tup (e.seqT h1) (dps_of e ds vs q hq h2)
  | .lst ds, v, p, h, r => by
    obtain ⟨a, vs, rfl, h1, h2⟩ := r
    rw [toPy] at h
    obtain ⟨q, hq, rfl⟩ := Option.map_eq_some_iff.mp h
    exact .lst (SqL.of (e _ _ h1)) (dps_of e ds vs q hq h2)
  | .rls ds, v, p, h, r => by
    obtain ⟨a, vs, rfl, h1, h2⟩ := r
    rw [toPy] at h
    obtain ⟨q, hq, rfl⟩ := Option.map_eq_some_iff.mp h
    exact .lst (e.seqL h1) (dps_of e ds vs q hq h2)
  | .raw _, _, _, h, _ => by cases h
  | .obj _ _ _, _, _, h, _ => by cases h
  | .exc _ _ _, _, _, h, _ => by cases h
  | .dic _ _, _, _, h, _ => by cases h
theorem dps_of (e : Sub F H) : ∀ (ds : List D) (vs : List V) (p : List PyData), toPys ds = some p → Reps K F ds vs → DpAll K H vs p
  | [], vs, p, h, r => by cases h; cases (show vs = [] from r); exact .nil
  | d :: ds, vs, p, h, r => by
    obtain ⟨v, t, rfl, h1, h2⟩ := r
    rw [toPys] at h
    obtain ⟨a, ha, h⟩ := Option.bind_eq_some_iff.mp h
    obtain ⟨b, hb, rfl⟩ := Option.map_eq_some_iff.mp h
    exact .cons (dp_of e d v a ha h1) (dps_of e ds t b hb h2)
end
end
def EqG (neg : Bool) : D2 := fun x y O Q => ∃ p q, toPy x = some p ∧ toPy y = some q ∧ SeqAt.shaped p = true ∧ SeqAt.shaped q = true ∧ Q (.bl (if neg then !PyData.eqv p q else PyData.eqv p q)) O
def EqQ (neg : Bool) : D2 := fun x y O Q => match x, y with
  | .str a, .str b => Q (.bl (if neg then !(a == b) else a == b)) O
  | x, y => EqG neg x y O Q
def isNon : D → Bool
  | .non => true
  | _ => false
theorem isNon_ok {K : PySem.W.Frag} {F : Fr} {d : D} {v : V} (h : Rep K F d v) (hd : ∀ x, d ≠ .raw x) : decide (v = .non) = isNon d := by
  cases d with
  | non => cases h; rfl
  | bl _ => cases h; rfl
  | int _ => cases h; rfl
  | str _ => cases h; rfl
  | raw x => exact absurd rfl (hd x)
  | tup _ => obtain ⟨_, _, rfl, _⟩ := h; rfl
  | lst _ => obtain ⟨_, _, rfl, _⟩ := h; rfl
  | rls _ => obtain ⟨_, _, rfl, _⟩ := h; rfl
  | obj _ _ _ => obtain ⟨_, _, _, rfl, _⟩ := h; rfl
  | exc _ _ _ => obtain ⟨_, _, _, rfl, _⟩ := h; rfl
  | dic _ _ => obtain ⟨_, _, rfl, _⟩ := h; rfl
def flatD : D → Bool
  | .non => true
  | .bl _ => true
  | .int _ => true
  | .str _ => true
  | _ => false
def flatOf : D → V
  | .non => .non
  | .bl b => .bl b
  | .int i => .int i
  | .str x => .str x
  | _ => .non
theorem flat_ok {K : PySem.W.Frag} {F : Fr} {d : D} {v : V} (f : flatD d = true) (h : Rep K F d v) : v = flatOf d ∧ flatV v = true := by
  cases d with
  | non => cases h; exact ⟨rfl, rfl⟩
  | bl _ => cases h; exact ⟨rfl, rfl⟩
  | int _ => cases h; exact ⟨rfl, rfl⟩
  | str _ => cases h; exact ⟨rfl, rfl⟩
  | _ => exact absurd (show false = true from f) Bool.false_ne_true
theorem flats_ok {K : PySem.W.Frag} {F : Fr} : ∀ {ds : List D} {vs : List V}, ds.all flatD = true → Reps K F ds vs → vs = ds.map flatOf ∧ vs.all flatV = true
  | [], vs, _, h => by cases (show vs = [] from h); exact ⟨rfl, rfl⟩
  | d :: ds, vs, f, h => by
    obtain ⟨v, r, rfl, h1, h2⟩ := h
    rw [List.all_cons, Bool.and_eq_true] at f
    obtain ⟨e1, e2⟩ := flat_ok f.1 h1
    obtain ⟨e3, e4⟩ := flats_ok f.2 h2
    subst e1 e3
    exact ⟨rfl, by rw [List.all_cons, e2, e4]; rfl⟩
/-- x in ds (flat items) -/
def inD (x : D) (ds : List D) : Bool := inV (flatOf x) (ds.map flatOf)
def InQ (neg : Bool) : D2 := fun x y O Q => match y with
  | .tup ds => flatD x = true ∧ ds.all flatD = true ∧ Q (.bl (if neg then !inD x ds else inD x ds)) O
  | .lst ds => flatD x = true ∧ ds.all flatD = true ∧ Q (.bl (if neg then !inD x ds else inD x ds)) O
  | .rls ds => flatD x = true ∧ ds.all flatD = true ∧ Q (.bl (if neg then !inD x ds else inD x ds)) O
  | .str z => (match x with | .str y => (∃ c, y = ⟨#[c]⟩ ∧ Q (.bl (if neg then !decide (c ∈ z.cps.toList) else decide (c ∈ z.cps.toList))) O) | _ => False)
  | _ => False
def CmpQ (op : CmpOp) : D2 := fun x y O Q => match op with
  | .Eq => EqQ false x y O Q
  | .NotEq => EqQ true x y O Q
  | .In => InQ false x y O Q
  | .NotIn => InQ true x y O Q
  | .Is => (match x, y with
    | .bl a, .bl b => Q (.bl (decide (a = b))) O
    | .raw (.ref _), .non => Q (.bl false) O
    | .raw _, _ => False
    | x, .non => Q (.bl (isNon x)) O
    | _, _ => False)
  | .IsNot => (match x, y with
    | .bl a, .bl b => Q (.bl (!decide (a = b))) O
    | .raw _, _ => False
    | x, .non => Q (.bl (!isNon x)) O
    | _, _ => False)
  | .Lt => (match x, y with
    | .int i, .int j => Q (.bl (decide (i < j))) O
    | .str i, .str j => Q (.bl (decide (i.cps.toList < j.cps.toList))) O
    | _, _ => False)
  | .LtE => (match x, y with
    | .int i, .int j => Q (.bl (decide (i ≤ j))) O
    | .str i, .str j => Q (.bl (!decide (j.cps.toList < i.cps.toList))) O
    | _, _ => False)
  | .Gt => (match x, y with
    | .int i, .int j => Q (.bl (decide (j < i))) O
    | .str i, .str j => Q (.bl (decide (j.cps.toList < i.cps.toList))) O
    | _, _ => False)
  | .GtE => (match x, y with
    | .int i, .int j => Q (.bl (decide (j ≤ i))) O
    | .str i, .str j => Q (.bl (!decide (i.cps.toList < j.cps.toList))) O
    | _, _ => False)

section
variable {Γ : G} {ρ : Env'} {O : Opens} {Q : DK} {σ : L2.St} {H : Hp} {F : Fr}
theorem cmp_ok {X : Cx} (hX : Γ.Has X) (op : CmpOp) : OpD Γ X (compareOp op) (CmpQ op) := by
  intro F O x y Q pins s σ H a b v u I ra rb e0 S rx ry h
  have hK := hX.K
  have hu : X.A.units + 64 < cLine := by have := hX.units; omega
  cases op with
  | Eq =>
    have h : EqQ false x y O Q := h
    unfold EqQ at h
    split at h
    · cases rx; cases ry
      exact op_eq pins s σ H _ _ _ _ _ I ra rb ⟨rfl, kv S rep_bl (by rw [dec_str]; exact h)⟩
    obtain ⟨p, q, h1, h2, h3, h4, h5⟩ := h
    exact op_eqD hu pins s σ H _ _ _ _ _ I ra rb ⟨p, q, dp_of S.ext x a p h1 (hK ▸ rx), dp_of S.ext y b q h2 (hK ▸ ry), h3, h4, kv S rep_bl h5⟩
  | NotEq =>
    have h : EqQ true x y O Q := h
    unfold EqQ at h
    split at h
    · cases rx; cases ry
      exact op_ne pins s σ H _ _ _ _ _ I ra rb ⟨rfl, kv S rep_bl (by rw [dec_str]; exact h)⟩
    obtain ⟨p, q, h1, h2, h3, h4, h5⟩ := h
    exact op_neD hu pins s σ H _ _ _ _ _ I ra rb ⟨p, q, dp_of S.ext x a p h1 (hK ▸ rx), dp_of S.ext y b q h2 (hK ▸ ry), h3, h4, kv S rep_bl h5⟩
  | Lt =>
    unfold CmpQ at h
    dsimp only at h
    split at h
    · cases rx; cases ry; exact op_lt pins s σ H _ _ _ _ _ I ra rb ⟨_, _, rfl, rfl, kv S rep_bl h⟩
    · cases rx; cases ry; exact op_lt_str pins s σ H _ _ _ _ _ I ra rb ⟨_, _, rfl, rfl, kv S rep_bl h⟩
    · exact h.elim
  | LtE =>
    unfold CmpQ at h
    dsimp only at h
    split at h
    · cases rx; cases ry; exact op_le pins s σ H _ _ _ _ _ I ra rb ⟨_, _, rfl, rfl, kv S rep_bl h⟩
    · cases rx; cases ry; exact op_le_str pins s σ H _ _ _ _ _ I ra rb ⟨_, _, rfl, rfl, kv S rep_bl h⟩
    · exact h.elim
  | Gt =>
    unfold CmpQ at h
    dsimp only at h
    split at h
    · cases rx; cases ry; exact op_gt pins s σ H _ _ _ _ _ I ra rb ⟨_, _, rfl, rfl, kv S rep_bl h⟩
    · cases rx; cases ry; exact op_gt_str pins s σ H _ _ _ _ _ I ra rb ⟨_, _, rfl, rfl, kv S rep_bl h⟩
    · exact h.elim
  | GtE =>
    unfold CmpQ at h
    dsimp only at h
    split at h
    · cases rx; cases ry; exact op_ge pins s σ H _ _ _ _ _ I ra rb ⟨_, _, rfl, rfl, kv S rep_bl h⟩
    · cases rx; cases ry; exact op_ge_str pins s σ H _ _ _ _ _ I ra rb ⟨_, _, rfl, rfl, kv S rep_bl h⟩
    · exact h.elim
  | Is =>
    unfold CmpQ at h
    dsimp only at h
    split at h
    · cases rx; cases ry; exact op_isBl pins s σ H _ _ _ _ _ I ra rb ⟨_, _, rfl, rfl, kv S rep_bl h⟩
    · cases rx; cases ry; exact op_isN pins s σ H _ _ _ _ _ I ra rb ⟨rfl, kv S rep_bl h⟩
    · exact h.elim
    · rename_i hd
      cases ry
      exact op_isN pins s σ H _ _ _ _ _ I ra rb ⟨rfl, kv S rep_bl (by rw [isNon_ok rx fun x => by first | exact hd x | (intro z; exact hd x z)]; exact h)⟩
    · exact h.elim
  | IsNot =>
    unfold CmpQ at h
    dsimp only at h
    split at h
    · cases rx; cases ry; exact op_notBl pins s σ H _ _ _ _ _ I ra rb ⟨_, _, rfl, rfl, kv S rep_bl h⟩
    · exact h.elim
    · rename_i hd
      cases ry
      exact op_notN pins s σ H _ _ _ _ _ I ra rb ⟨rfl, kv S rep_bl (by rw [isNon_ok rx fun x => by first | exact hd x | (intro z; exact hd x z)]; exact h)⟩
    · exact h.elim
  | In =>
    show wpAny _ _ _ _ _ _
    have h : InQ false x y O Q := h
    unfold InQ at h
    split at h
    · obtain ⟨f1, f2, f3⟩ := h
      obtain ⟨p, xs, rfl, h1, h2⟩ := ry
      obtain ⟨e1, e2⟩ := flat_ok f1 rx
      obtain ⟨e3, e4⟩ := flats_ok f2 h2
      exact op_in_seq pins s σ H _ _ _ _ _ I ra rb ⟨p, xs, rfl, .inr (S.ext.seqT (hK ▸ h1)), e2, e4, kv S rep_bl (by rw [e1, e3]; exact f3)⟩
    · obtain ⟨f1, f2, f3⟩ := h
      obtain ⟨p, xs, rfl, h1, h2⟩ := ry
      obtain ⟨e1, e2⟩ := flat_ok f1 rx
      obtain ⟨e3, e4⟩ := flats_ok f2 h2
      exact op_in_seq pins s σ H _ _ _ _ _ I ra rb ⟨p, xs, rfl, .inl (SqL.of (S.ext _ _ h1)), e2, e4, kv S rep_bl (by rw [e1, e3]; exact f3)⟩
    · obtain ⟨f1, f2, f3⟩ := h
      obtain ⟨p, xs, rfl, h1, h2⟩ := ry
      obtain ⟨e1, e2⟩ := flat_ok f1 rx
      obtain ⟨e3, e4⟩ := flats_ok f2 h2
      exact op_in_seq pins s σ H _ _ _ _ _ I ra rb ⟨p, xs, rfl, .inl (S.ext.seqL (hK ▸ h1)), e2, e4, kv S rep_bl (by rw [e1, e3]; exact f3)⟩
    · split at h
      · obtain ⟨c, e1, f3⟩ := h
        cases rx; cases ry
        exact op_in_sign pins s σ H _ _ _ _ _ I ra rb ⟨c, _, by rw [e1], rfl, kv S rep_bl f3⟩
      · exact h.elim
    · exact h.elim
  | NotIn =>
    show wpAny _ _ _ _ _ _
    have h : InQ true x y O Q := h
    unfold InQ at h
    split at h
    · obtain ⟨f1, f2, f3⟩ := h
      obtain ⟨p, xs, rfl, h1, h2⟩ := ry
      obtain ⟨e1, e2⟩ := flat_ok f1 rx
      obtain ⟨e3, e4⟩ := flats_ok f2 h2
      exact op_notIn_seq pins s σ H _ _ _ _ _ I ra rb ⟨p, xs, rfl, .inr (S.ext.seqT (hK ▸ h1)), e2, e4, kv S rep_bl (by rw [e1, e3]; exact f3)⟩
    · obtain ⟨f1, f2, f3⟩ := h
      obtain ⟨p, xs, rfl, h1, h2⟩ := ry
      obtain ⟨e1, e2⟩ := flat_ok f1 rx
      obtain ⟨e3, e4⟩ := flats_ok f2 h2
      exact op_notIn_seq pins s σ H _ _ _ _ _ I ra rb ⟨p, xs, rfl, .inl (SqL.of (S.ext _ _ h1)), e2, e4, kv S rep_bl (by rw [e1, e3]; exact f3)⟩
    · obtain ⟨f1, f2, f3⟩ := h
      obtain ⟨p, xs, rfl, h1, h2⟩ := ry
      obtain ⟨e1, e2⟩ := flat_ok f1 rx
      obtain ⟨e3, e4⟩ := flats_ok f2 h2
      exact op_notIn_seq pins s σ H _ _ _ _ _ I ra rb ⟨p, xs, rfl, .inl (S.ext.seqL (hK ▸ h1)), e2, e4, kv S rep_bl (by rw [e1, e3]; exact f3)⟩
    · split at h
      · obtain ⟨c, e1, f3⟩ := h
        cases rx; cases ry
        exact op_notIn_sign pins s σ H _ _ _ _ _ I ra rb ⟨c, _, by rw [e1], rfl, kv S rep_bl f3⟩
      · exact h.elim
    · exact h.elim
def Bhm (op : CmpOp) (b : Expr) : Prop := behindInMarks op b = false
theorem we_cmp {op : CmpOp} {a b : Expr} {pos : Pos} (h : We Γ a ρ O fun x O1 => We Γ b ρ O1 fun y O2 => CmpQ op x y O2 Q) (hm : behindInMarks op b = false := by first | exact nomark _ | rfl | with_unfolding_all rfl) : We Γ (.Compare a [op] [b] pos) ρ O Q := fun F σ H e0 s r X hX pins st I =>
  (pe_cmpR (cmp_ok hX op).r (Ev.pe hX a) (Ev.pe hX b) hm).run pins st σ H _ I (two e0 s r h)
/-- a test's wish -/
def KT (Γ : G) (F : Fr) (Q : Bool → Opens → Prop) : Bool → Hp → Prop := fun b H' => ∃ F' O', Ext F F' ∧ Stt Γ.M.K F' O' H' ∧ Q b O'
theorem KT.mono {F F' : Fr} {Q Q' : Bool → Opens → Prop} (e : Ext F F') (h : ∀ d O, Q d O → Q' d O) {v : Bool} {H : Hp} (k : KT Γ F' Q v H) : KT Γ F Q' v H := by
  obtain ⟨F2, O2, e2, s2, q2⟩ := k
  exact ⟨F2, O2, e.trans e2, s2, h _ _ q2⟩
/-- a wish of a bool -/
abbrev BlQ (Q : Bool → Opens → Prop) : DK := fun d O => ∃ k, d = .bl k ∧ Q k O
theorem wt_cmp {op : CmpOp} {a b : Expr} {pos : Pos} {Q : Bool → Opens → Prop} (h : We Γ a ρ O fun x O1 => We Γ b ρ O1 fun y O2 => CmpQ op x y O2 (BlQ Q)) (hm : behindInMarks op b = false := by first | exact nomark _ | rfl | with_unfolding_all rfl) : WT Γ (.Compare a [op] [b] pos) ρ O Q := fun F σ H e0 s r X hX pins st I => by
  refine (pt_cmpR (cmp_ok hX op).r (Ev.pe hX a) (Ev.pe hX b) hm).run pins st σ H _ I ?_
  refine (two e0 s r h).mono fun x H1 q => q.mono fun y H2 ⟨F2, O2, dx, dy, Q2, g1, g2, g3, g4, g5, g6⟩ => ⟨F2, O2, dx, dy, Q2, g1, g2, g3, g4, g5, fun v H' k => ?_⟩
  obtain ⟨d, F3, O3, e3, s3, r3, k3, rfl, q3⟩ := g6 v H' k
  cases r3
  exact ⟨k3, rfl, F3, O3, e3, s3, q3⟩
/-- a < b < c -/
def ChQ (Γ : G) (op op' : CmpOp) (b c : Expr) (ρ : Env') (Q : DK) (x : D) (O1 : Opens) : Prop := We Γ b ρ O1 fun y O2 => CmpQ op x y O2 fun z O3 => ∃ k, z = .bl k ∧ if k = true then We Γ c ρ O3 fun w O4 => CmpQ op' y w O4 Q else Q (.bl false) O3
theorem chain_run {op op' : CmpOp} {a b c : Expr} (e0 : Ext Γ.F0 F) (s : Stt Γ.M.K F O H) (r : EnvR Γ.M.K F ρ σ) (h : We Γ a ρ O (ChQ Γ op op' b c ρ Q)) :
    tChain (fun a b H Qv => ∃ (F : Fr) (O : Opens) (x y : D) (Q : DK), Ext Γ.F0 F ∧ Stt Γ.M.K F O H ∧ Rep Γ.M.K F x a ∧ Rep Γ.M.K F y b ∧ CmpQ op x y O Q ∧ ∀ v H', KV' Γ F Q v H' → Qv v H') (fun a b H Qv => ∃ (F : Fr) (O : Opens) (x y : D) (Q : DK), Ext Γ.F0 F ∧ Stt Γ.M.K F O H ∧ Rep Γ.M.K F x a ∧ Rep Γ.M.K F y b ∧ CmpQ op' x y O Q ∧ ∀ v H', KV' Γ F Q v H' → Qv v H')
      (Ev Γ a) (Ev Γ b) (Ev Γ c) σ H (KV' Γ F Q) := by
  refine (h F σ H e0 s r).mono fun x H1 ⟨dx, F1, O1, e1, s1, rx, q1⟩ => ?_
  refine (q1 F1 σ H1 (e0.trans e1) s1 (r.mono e1)).mono fun y H2 ⟨dy, F2, O2, e2, s2, ry, q2⟩ => ?_
  refine ⟨F2, O2, dx, dy, _, e0.trans (e1.trans e2), s2, rx.mono e2, ry, q2, fun z H3 ⟨dz, F3, O3, e3, s3, rz, k, hz, q3⟩ => ?_⟩
  subst hz
  cases rz
  refine ⟨k, rfl, ?_⟩
  cases k with
  | false => exact ⟨.bl false, F3, O3, (e1.trans e2).trans e3, s3, rep_bl, by simpa using q3⟩
  | true =>
    have q3 : We Γ c ρ O3 fun w O4 => CmpQ op' dy w O4 Q := by simpa using q3
    show Ev Γ c σ H3 _
    have e03 := (e1.trans e2).trans e3
    refine (q3 F3 σ H3 (e0.trans e03) s3 (r.mono e03)).mono fun w H4 ⟨dw, F4, O4, e4, s4, rw', q4⟩ => ?_
    exact ⟨F4, O4, dy, dw, _, e0.trans (e03.trans e4), s4, ry.mono (e3.trans e4), rw', q4, fun v H' k => KV'.mono (e03.trans e4) (fun _ _ q => q) k⟩
theorem we_chain {op op' : CmpOp} {a b c : Expr} {pos : Pos} (h : We Γ a ρ O (ChQ Γ op op' b c ρ Q)) (hm : lastMarks [op, op'] [b, c] = false := by with_unfolding_all rfl) : We Γ (.Compare a [op, op'] [b, c] pos) ρ O Q := fun F σ H e0 s r X hX pins st I =>
  (pe_chain (cmp_ok hX op).r (cmp_ok hX op').r (Ev.pe hX a) (Ev.pe hX b) (Ev.pe hX c) hm).run pins st σ H _ I (chain_run e0 s r h)
theorem wt_chain {op op' : CmpOp} {a b c : Expr} {pos : Pos} {Q : Bool → Opens → Prop} (h : We Γ a ρ O (ChQ Γ op op' b c ρ (BlQ Q))) (hm : lastMarks [op, op'] [b, c] = false := by with_unfolding_all rfl) : WT Γ (.Compare a [op, op'] [b, c] pos) ρ O Q := fun F σ H e0 s r X hX pins st I => by
  refine (pt_chain (cmp_ok hX op).r (cmp_ok hX op').r (Ev.pe hX a) (Ev.pe hX b) (Ev.pe hX c) hm).run pins st σ H _ I ?_
  refine (h F σ H e0 s r).mono fun x H1 ⟨dx, F1, O1, e1, s1, rx, q1⟩ => ?_
  refine (q1 F1 σ H1 (e0.trans e1) s1 (r.mono e1)).mono fun y H2 ⟨dy, F2, O2, e2, s2, ry, q2⟩ => ?_
  refine ⟨F2, O2, dx, dy, _, e0.trans (e1.trans e2), s2, rx.mono e2, ry, q2, fun z H3 ⟨dz, F3, O3, e3, s3, rz, k, hz, q3⟩ => ?_⟩
  subst hz
  cases rz
  refine ⟨k, rfl, ?_⟩
  have e03 := (e1.trans e2).trans e3
  cases k with
  | false =>
    obtain ⟨k', e', q'⟩ : BlQ Q (.bl false) O3 := by simpa using q3
    cases e'
    exact ⟨false, rfl, F3, O3, e03, s3, q'⟩
  | true =>
    have q3 : We Γ c ρ O3 fun w O4 => CmpQ op' dy w O4 (BlQ Q) := by simpa using q3
    show Ev Γ c σ H3 _
    refine (q3 F3 σ H3 (e0.trans e03) s3 (r.mono e03)).mono fun w H4 ⟨dw, F4, O4, e4, s4, rw', q4⟩ => ?_
    refine ⟨F4, O4, dy, dw, _, e0.trans (e03.trans e4), s4, ry.mono (e3.trans e4), rw', q4, fun v H' ⟨d5, F5, O5, e5, s5, r5, k5, h5, q5⟩ => ?_⟩
    subst h5
    cases r5
    exact ⟨k5, rfl, F5, O5, (e03.trans e4).trans e5, s5, q5⟩

/-! ### tests -/
theorem wt_not {a : Expr} {pos : Pos} {Q : Bool → Opens → Prop} (h : WT Γ a ρ O fun b O1 => Q (!b) O1) : WT Γ (.UnaryOp .Not a pos) ρ O Q := fun F σ H e0 s r X hX pins st I =>
  (pt_not (EvT.pt hX a)).run pins st σ H _ I (h F σ H e0 s r)
/-- a chain of and | or as a test -/
def EvW (Γ : G) (e : Expr) (σ : L2.St) (H : Hp) (Q : Bool → Hp → Prop) : Prop := ∀ X, Γ.Has X → ∀ (whole : Sem Value) pins s, Inv X pins σ H s → wpAny (model X.prog X.w) X.A (isTrue e X.env whole) (TP X pins σ Q) X.xe s
def WW (Γ : G) (e : Expr) (ρ : Env') (O : Opens) (Q : Bool → Opens → Prop) : Prop :=
  ∀ F σ H, Ext Γ.F0 F → Stt Γ.M.K F O H → EnvR Γ.M.K F ρ σ → EvW Γ e σ H (KT Γ F Q)
theorem EvW.pw {X : Cx} (h : Γ.Has X) (e : Expr) : PW X e (EvW Γ e) := ⟨fun wh pins s σ H Q I q => q X h wh pins s I⟩
theorem WW.wt {e : Expr} {Q : Bool → Opens → Prop} (h : WW Γ e ρ O Q) : WT Γ e ρ O Q := fun F σ H e0 s r X hX pins st I => h F σ H e0 s r X hX _ pins st I
theorem ww_and1 {a : Expr} {pos : Pos} {Q : Bool → Opens → Prop} (h : WT Γ a ρ O Q) : WW Γ (.BoolOp .And [a] pos) ρ O Q := fun F σ H e0 s r X hX wh pins st I =>
  (pw_and1 (EvT.pt hX a)).run wh pins st σ H _ I (h F σ H e0 s r)
theorem ww_or1 {a : Expr} {pos : Pos} {Q : Bool → Opens → Prop} (h : WT Γ a ρ O Q) : WW Γ (.BoolOp .Or [a] pos) ρ O Q := fun F σ H e0 s r X hX wh pins st I =>
  (pw_or1 (EvT.pt hX a)).run wh pins st σ H _ I (h F σ H e0 s r)
theorem ww_and {a b : Expr} {es : List Expr} {pos : Pos} {Q : Bool → Opens → Prop} (h : WT Γ a ρ O fun c O1 => if c = true then WW Γ (.BoolOp .And (b :: es) pos) ρ O1 Q else Q false O1) : WW Γ (.BoolOp .And (a :: b :: es) pos) ρ O Q := fun F σ H e0 s r X hX wh pins st I => by
  refine (pw_and (EvT.pt hX a) (EvW.pw hX _)).run wh pins st σ H _ I ((h F σ H e0 s r).mono fun c H1 ⟨F1, O1, e1, s1, q1⟩ => ?_)
  cases c with
  | true =>
    have q1 : WW Γ (.BoolOp .And (b :: es) pos) ρ O1 Q := by simpa using q1
    show EvW Γ _ σ H1 _
    exact fun X hX wh pins st I => thn (q1 F1 σ H1 (e0.trans e1) s1 (r.mono e1) X hX wh pins st I) fun _ _ ⟨H2, I2, k⟩ => ⟨H2, I2, k.mono e1 fun _ _ q => q⟩
  | false => exact ⟨F1, O1, e1, s1, by simpa using q1⟩
theorem ww_or {a b : Expr} {es : List Expr} {pos : Pos} {Q : Bool → Opens → Prop} (h : WT Γ a ρ O fun c O1 => if c = true then Q true O1 else WW Γ (.BoolOp .Or (b :: es) pos) ρ O1 Q) : WW Γ (.BoolOp .Or (a :: b :: es) pos) ρ O Q := fun F σ H e0 s r X hX wh pins st I => by
  refine (pw_or (EvT.pt hX a) (EvW.pw hX _)).run wh pins st σ H _ I ((h F σ H e0 s r).mono fun c H1 ⟨F1, O1, e1, s1, q1⟩ => ?_)
  cases c with
  | false =>
    have q1 : WW Γ (.BoolOp .Or (b :: es) pos) ρ O1 Q := by simpa using q1
    show EvW Γ _ σ H1 _
    exact fun X hX wh pins st I => thn (q1 F1 σ H1 (e0.trans e1) s1 (r.mono e1) X hX wh pins st I) fun _ _ ⟨H2, I2, k⟩ => ⟨H2, I2, k.mono e1 fun _ _ q => q⟩
  | true => exact ⟨F1, O1, e1, s1, by simpa using q1⟩
/-- a value's truth -/
def TruQ (d : D) (O : Opens) (Q : Bool → Opens → Prop) : Prop := match d with
  | .non => Q false O
  | .bl b => Q b O
  | .int i => Q (i != 0) O
  | .str x => x.length ≤ sizeLine ∧ Q (x.length != 0) O
  | .tup ds => Q (!ds.isEmpty) O
  | .lst ds => Q (!ds.isEmpty) O
  | .rls ds => Q (!ds.isEmpty) O
  | .raw (.ref a) => ∃ ds, O a = some (.lst ds) ∧ Q (!ds.isEmpty) O
  | _ => False
theorem isEmpty_len {α β : Type} {xs : List α} {ys : List β} (h : xs.length = ys.length) : (!xs.isEmpty) = !ys.isEmpty := by
  cases xs <;> cases ys <;> simp_all
theorem tru_of {X : Cx} (hK : Γ.M.K = X.K) {d : D} {v : V} {Q : Bool → Opens → Prop} {H : Hp} (S : Stt Γ.M.K F O H) (r : Rep Γ.M.K F d v) (h : TruQ d O Q) : ∃ k, TruV X.K v H k ∧ Q k O := by
  cases d with
  | non => cases r; exact ⟨false, rfl, h⟩
  | bl b => cases r; exact ⟨b, rfl, h⟩
  | int i => cases r; exact ⟨_, rfl, h⟩
  | str x =>
    cases r
    refine ⟨_, ⟨h.1, rfl⟩, ?_⟩
    have e : ((x.length : Int) != 0) = (x.length != 0) := by
      cases hx : x.length <;> simp <;> omega
    rw [e]; exact h.2
  | tup ds =>
    obtain ⟨p, xs, rfl, h1, h2⟩ := r
    exact ⟨_, .inr (.inl ⟨xs, S.ext.seqT (hK ▸ h1), rfl⟩), by rw [isEmpty_len h2.length.symm]; exact h⟩
  | lst ds =>
    obtain ⟨p, xs, rfl, h1, h2⟩ := r
    exact ⟨_, .inl ⟨xs, SqL.of (S.ext _ _ h1), rfl⟩, by rw [isEmpty_len h2.length.symm]; exact h⟩
  | rls ds =>
    obtain ⟨p, xs, rfl, h1, h2⟩ := r
    exact ⟨_, .inl ⟨xs, S.ext.seqL (hK ▸ h1), rfl⟩, by rw [isEmpty_len h2.length.symm]; exact h⟩
  | raw x =>
    cases r
    cases v with
    | ref a =>
      obtain ⟨ds, ho, q⟩ := h
      obtain ⟨vs, h1, h2⟩ := S.list ho
      exact ⟨_, .inl ⟨vs, SqL.of h1, rfl⟩, by rw [isEmpty_len h2.length.symm]; exact q⟩
    | _ => exact (show False from h).elim
  | obj _ _ _ => exact (show False from h).elim
  | exc _ _ _ => exact (show False from h).elim
  | dic _ _ => exact (show False from h).elim
/-- any expression whose test is its value's truth -/
theorem wt_val {a : Expr} {Q : Bool → Opens → Prop} (h : We Γ a ρ O fun d O1 => TruQ d O1 Q) (he : ∀ (env : Env) (whole : Sem Value), isTrue a env whole = (do let v ← whole; standAt a.pos; holding [v] (truthy v)) := by intro _ _; rfl) : WT Γ a ρ O Q := fun F σ H e0 s r X hX pins st I => by
  refine (pt_truth (Ev.pe hX a) (he X.env)).run pins st σ H _ I ((h F σ H e0 s r).mono fun v H1 ⟨d, F1, O1, e1, s1, r1, q1⟩ => ?_)
  obtain ⟨k, h1, h2⟩ := tru_of (X := X) hX.K s1 r1 q1
  exact ⟨k, h1, F1, O1, e1, s1, h2⟩

/-! ### and, or, not as values; a if t else b -/
theorem we_not {a : Expr} {pos : Pos} (h : We Γ a ρ O fun d O1 => ∃ k, d = .bl k ∧ Q (.bl (!k)) O1) : We Γ (.UnaryOp .Not a pos) ρ O Q := fun F σ H e0 s r X hX pins st I =>
  (pe_not (Ev.pe hX a)).run pins st σ H _ I ((h F σ H e0 s r).mono fun v H1 ⟨d, F1, O1, e1, s1, r1, k, hk, q1⟩ => by subst hk; cases r1; exact ⟨k, rfl, kv1 e1 s1 rep_bl q1⟩)
theorem we_one {op : BoolOp} {a : Expr} {pos : Pos} (h : We Γ a ρ O Q) : We Γ (.BoolOp op [a] pos) ρ O Q := fun F σ H e0 s r X hX pins st I => (pe_one (Ev.pe hX a)).run pins st σ H _ I (h F σ H e0 s r)
theorem we_and {a b : Expr} {es : List Expr} {pos : Pos} (h : We Γ a ρ O fun d O1 => ∃ k, d = .bl k ∧ if k = true then We Γ (.BoolOp .And (b :: es) pos) ρ O1 Q else Q (.bl false) O1) : We Γ (.BoolOp .And (a :: b :: es) pos) ρ O Q := fun F σ H e0 s r X hX pins st I => by
  refine (pe_and (Ev.pe hX a) (Ev.pe hX _)).run pins st σ H _ I ((h F σ H e0 s r).mono fun v H1 ⟨d, F1, O1, e1, s1, r1, k, hk, q1⟩ => ?_)
  subst hk
  cases r1
  refine ⟨k, rfl, ?_⟩
  cases k with
  | true => exact We.at (Q' := Q) (by simpa using q1) e0 e1 s1 (r.mono e1) fun _ _ q => q
  | false => exact kv1 e1 s1 rep_bl (by simpa using q1)
theorem we_or {a b : Expr} {es : List Expr} {pos : Pos} (h : We Γ a ρ O fun d O1 => ∃ k, d = .bl k ∧ if k = true then Q (.bl true) O1 else We Γ (.BoolOp .Or (b :: es) pos) ρ O1 Q) : We Γ (.BoolOp .Or (a :: b :: es) pos) ρ O Q := fun F σ H e0 s r X hX pins st I => by
  refine (pe_or (Ev.pe hX a) (Ev.pe hX _)).run pins st σ H _ I ((h F σ H e0 s r).mono fun v H1 ⟨d, F1, O1, e1, s1, r1, k, hk, q1⟩ => ?_)
  subst hk
  cases r1
  refine ⟨k, rfl, ?_⟩
  cases k with
  | false => exact We.at (Q' := Q) (by simpa using q1) e0 e1 s1 (r.mono e1) fun _ _ q => q
  | true => exact kv1 e1 s1 rep_bl (by simpa using q1)
theorem we_if {c a b : Expr} {pos : Pos} (h : WT Γ c ρ O fun k O1 => if k = true then We Γ a ρ O1 Q else We Γ b ρ O1 Q) : We Γ (.IfExp c a b pos) ρ O Q := fun F σ H e0 s r X hX pins st I => by
  refine (pe_ifExp (EvT.pt hX c) (Ev.pe hX a) (Ev.pe hX b)).run pins st σ H _ I ((h F σ H e0 s r).mono fun k H1 ⟨F1, O1, e1, s1, q1⟩ => ?_)
  cases k with
  | true => exact We.at (Q' := Q) (by simpa using q1) e0 e1 s1 (r.mono e1) fun _ _ q => q
  | false => exact We.at (Q' := Q) (by simpa using q1) e0 e1 s1 (r.mono e1) fun _ _ q => q
theorem we_neg {a : Expr} {pos : Pos} (h : We Γ a ρ O fun d O1 => ∃ i, d = .int i ∧ Q (.int (-i)) O1) : We Γ (.UnaryOp .USub a pos) ρ O Q := fun F σ H e0 s r X hX pins st I =>
  (pe_un un_neg (Ev.pe hX a)).run pins st σ H _ I ((h F σ H e0 s r).mono fun v H1 ⟨d, F1, O1, e1, s1, r1, k, hk, q1⟩ => by subst hk; cases r1; exact ⟨k, rfl, kv1 e1 s1 rep_int q1⟩)

/-! ### arguments, displays -/
def KA (Γ : G) (F : Fr) (Q : List D → Opens → Prop) : List V → Hp → Prop := fun vs H' => ∃ ds F' O', Ext F F' ∧ Stt Γ.M.K F' O' H' ∧ Reps Γ.M.K F' ds vs ∧ Q ds O'
theorem wa_nil {Q : List D → Opens → Prop} (h : Q [] O) : WA Γ [] ρ O Q := fun F σ H e0 s r X hX pos pins st I => pa_nil.run pos pins st σ H _ I ⟨[], F, O, Ext.refl F, s, rfl, h⟩
theorem wa_cons {e : Expr} {es : List Expr} {Q : List D → Opens → Prop} (h : We Γ e ρ O fun d O1 => WA Γ es ρ O1 fun ds O2 => Q (d :: ds) O2) (hs : ∀ env, starEach (e :: es) env = (false, eval e env) :: starEach es env := by intro _; rfl) : WA Γ (e :: es) ρ O Q := fun F σ H e0 s r X hX pos pins st I => by
  refine (pa_cons (Ev.pe hX e) (EvA.pa hX es) (hs X.env)).run pos pins st σ H _ I ((h F σ H e0 s r).mono fun v H1 ⟨d, F1, O1, e1, s1, r1, q1⟩ => ?_)
  refine (q1 F1 σ H1 (e0.trans e1) s1 (r.mono e1)).mono fun vs H2 ⟨ds, F2, O2, e2, s2, r2, q2⟩ => ?_
  exact ⟨d :: ds, F2, O2, e1.trans e2, s2, Reps.cons (r1.mono e2) r2, q2⟩
theorem we_tup {es : List Expr} {k : Nat} {pos : Pos} (h : WA Γ es ρ O fun ds O1 => ds.length ≤ sizeLine ∧ Q (.tup ds) O1) : We Γ (.Tuple es k pos) ρ O Q := fun F σ H e0 s r X hX pins st I =>
  (pe_tup (EvA.pa hX es)).run pins st σ H _ I ((h F σ H e0 s r).mono fun vs H1 ⟨ds, F1, O1, e1, s1, r1, hz, q1⟩ => ⟨by rw [← r1.length]; exact hz, fun p hp => KV'.mono e1 (fun _ _ q => q) (kv_tup s1 hp r1 q1)⟩)
theorem we_lst {es : List Expr} {pos : Pos} (h : WA Γ es ρ O fun ds O1 => ds.length ≤ sizeLine ∧ Q (.lst ds) O1) : We Γ (.List es pos) ρ O Q := fun F σ H e0 s r X hX pins st I =>
  (pe_lst (EvA.pa hX es)).run pins st σ H _ I ((h F σ H e0 s r).mono fun vs H1 ⟨ds, F1, O1, e1, s1, r1, hz, q1⟩ => ⟨by rw [← r1.length]; exact hz, fun p hp => KV'.mono e1 (fun _ _ q => q) (kv_lst s1 hp r1 q1)⟩)
/-- a list left open -/
theorem we_lstO {es : List Expr} {pos : Pos} (h : WA Γ es ρ O fun ds O1 => ds.length ≤ sizeLine ∧ ∀ p, O1 p = none → Q (.raw (.ref p)) (O1.up p (.lst ds))) : We Γ (.List es pos) ρ O Q := fun F σ H e0 s r X hX pins st I =>
  (pe_lst (EvA.pa hX es)).run pins st σ H _ I ((h F σ H e0 s r).mono fun vs H1 ⟨ds, F1, O1, e1, s1, r1, hz, q1⟩ => ⟨by rw [← r1.length]; exact hz, fun p hp => KV'.mono e1 (fun _ _ q => q) (kv_opn s1 hp r1 q1)⟩)

/-! ### items, slices -/
def IxQ : D2 := fun x y O Q => match x, y with
  | .tup ds, .int i => ∃ d, atI ds i = some d ∧ Q d O
  | .lst ds, .int i => ∃ d, atI ds i = some d ∧ Q d O
  | .rls ds, .int i => ∃ d, atI ds i = some d ∧ Q d O
  | .raw (.ref a), .int i => ∃ ds d, O a = some (.lst ds) ∧ atI ds i = some d ∧ Q d O
  | .str z, .int i => z.length ≤ sizeLine ∧ ∃ c, atI z.cps.toList i = some c ∧ Q (.str ⟨#[c]⟩) O
  | _, _ => False
theorem at_reps {K : PySem.W.Frag} {ds : List D} {vs : List V} {i : Int} {d : D} (h : Reps K F ds vs) (e : atI ds i = some d) : ∃ v, atI vs i = some v ∧ Rep K F d v := by
  unfold atI at e ⊢
  rw [← h.length]
  obtain ⟨j, hj, e⟩ := Option.bind_eq_some_iff.mp e
  obtain ⟨v, h1, h2⟩ := h.get e
  exact ⟨v, Option.bind_eq_some_iff.mpr ⟨j, hj, h1⟩, h2⟩
theorem we_ix {a b : Expr} {pos : Pos} (h : We Γ a ρ O fun x O1 => We Γ b ρ O1 fun y O2 => IxQ x y O2 Q) (hb : ∀ o i, subscripted b false o i = operate [o, i] (getItem o i) := by exact fun _ _ => rfl) : We Γ (.Subscript a b pos) ρ O Q := fun F σ H e0 s r X hX pins st I => by
  refine (pe_ix ix_seq (Ev.pe hX a) (Ev.pe hX b) hb).run pins st σ H _ I ((two (t := IxQ) e0 s r h).mono fun x H1 qq => qq.mono fun y H2 ⟨F2, O2, dx, dy, Q2, g1, S, rx, ry, hh, g6⟩ => ?_)
  have hK := hX.K
  unfold IxQ at hh
  split at hh
  · obtain ⟨d, e, q⟩ := hh
    obtain ⟨p, xs, rfl, h1, h2⟩ := rx
    cases ry
    obtain ⟨v, e1, e2⟩ := at_reps h2 e
    exact .inr (.inl ⟨p, xs, _, v, rfl, rfl, S.ext.seqT (hK ▸ h1), e1, g6 _ _ (kv S e2 q)⟩)
  · obtain ⟨d, e, q⟩ := hh
    obtain ⟨p, xs, rfl, h1, h2⟩ := rx
    cases ry
    obtain ⟨v, e1, e2⟩ := at_reps h2 e
    exact .inl ⟨p, xs, _, v, rfl, rfl, SqL.of (S.ext _ _ h1), e1, g6 _ _ (kv S e2 q)⟩
  · obtain ⟨d, e, q⟩ := hh
    obtain ⟨p, xs, rfl, h1, h2⟩ := rx
    cases ry
    obtain ⟨v, e1, e2⟩ := at_reps h2 e
    exact .inl ⟨p, xs, _, v, rfl, rfl, S.ext.seqL (hK ▸ h1), e1, g6 _ _ (kv S e2 q)⟩
  · obtain ⟨ds, d, ho, e, q⟩ := hh
    cases rx
    cases ry
    obtain ⟨vs, h1, h2⟩ := S.list ho
    obtain ⟨v, e1, e2⟩ := at_reps h2 e
    exact .inl ⟨_, vs, _, v, rfl, rfl, SqL.of h1, e1, g6 _ _ (kv S e2 q)⟩
  · obtain ⟨hz, c, e, q⟩ := hh
    cases rx
    cases ry
    exact .inr (.inr ⟨_, _, c, rfl, rfl, hz, e, g6 _ _ (kv S rep_str q)⟩)
  · exact hh.elim
/-- a slice's part -/
def WO (Γ : G) (e : Option Expr) (ρ : Env') (O : Opens) (Q : Option Int → Opens → Prop) : Prop := match e with
  | none => Q none O
  | some e => We Γ e ρ O fun d O1 => ∃ i, d = .int i ∧ Q (some i) O1
def EvO (Γ : G) (e : Option Expr) (σ : L2.St) (H : Hp) (Q : Option Int → Hp → Prop) : Prop := match e with
  | none => Q none H
  | some e => Ev Γ e σ H fun x H1 => ∃ i, x = .int i ∧ Q (some i) H1
theorem EvO.po {X : Cx} (hX : Γ.Has X) (e : Option Expr) : PO X e (EvO Γ e) := by
  cases e with
  | none => exact po_none
  | some e => exact po_some (Ev.pe hX e)
theorem EvO.mono' {e : Option Expr} {Q Q' : Option Int → Hp → Prop} (h : EvO Γ e σ H Q) (m : ∀ v H, Q v H → Q' v H) : EvO Γ e σ H Q' := by
  cases e with
  | none => exact m _ _ h
  | some e => exact Ev.mono h fun v H1 ⟨i, hi, q⟩ => ⟨i, hi, m _ _ q⟩
theorem WO.run {e : Option Expr} {Q : Option Int → Opens → Prop} (h : WO Γ e ρ O Q) (e0 : Ext Γ.F0 F) (s : Stt Γ.M.K F O H) (r : EnvR Γ.M.K F ρ σ) : EvO Γ e σ H fun o H' => ∃ (F' : Fr) (O' : Opens), Ext F F' ∧ Stt Γ.M.K F' O' H' ∧ Q o O' := by
  cases e with
  | none => exact ⟨F, O, Ext.refl F, s, h⟩
  | some e => exact (show We Γ e ρ O _ from h) F σ H e0 s r |>.mono fun v H1 ⟨d, F1, O1, e1, s1, r1, i, hi, q⟩ => by subst hi; cases r1; exact ⟨i, rfl, F1, O1, e1, s1, q⟩
def cutD (xs : List D) (lo hi : Option Int) : List D := (xs.drop (HT.sIx xs.length 0 lo)).take (HT.sIx xs.length xs.length hi - HT.sIx xs.length 0 lo)
theorem cut_reps {K : PySem.W.Frag} {ds : List D} {vs : List V} {lo hi : Option Int} (h : Reps K F ds vs) : Reps K F (cutD ds lo hi) (cutV vs lo hi) := by
  unfold cutD cutV
  rw [h.length]
  exact (h.drop _).take _
def SlQ (x : D) (lo hi : Option Int) (O : Opens) (Q : DK) : Prop := match x with
  | .tup ds => Q (.tup (cutD ds lo hi)) O
  | .lst ds => Q (.lst (cutD ds lo hi)) O
  | .rls ds => Q (.lst (cutD ds lo hi)) O
  | .raw (.ref a) => ∃ ds, O a = some (.lst ds) ∧ Q (.lst (cutD ds lo hi)) O
  | .str z => z.length ≤ sizeLine ∧ Q (.str (cutS z lo hi)) O
  | _ => False
theorem cut_whole {xs : List V} {lo hi : Option Int} (h : HT.sIx xs.length 0 lo = 0 ∧ HT.sIx xs.length xs.length hi = xs.length) : cutV xs lo hi = xs := by
  unfold cutV
  rw [h.1, h.2]
  simp
theorem we_slice {e : Expr} {lo hi : Option Expr} {p2 pos : Pos} (h : We Γ e ρ O fun x O1 => WO Γ lo ρ O1 fun l O2 => WO Γ hi ρ O2 fun u O3 => SlQ x l u O3 Q) : We Γ (.Subscript e (.Slice lo hi none p2) pos) ρ O Q := fun F σ H e0 s r X hX pins st I => by
  refine (pe_slice (sl_list.or (sl_tupA.or sl_str)) (Ev.pe hX e) (EvO.po hX lo) (EvO.po hX hi)).run pins st σ H _ I ?_
  refine (h F σ H e0 s r).mono fun x H1 ⟨dx, F1, O1, e1, s1, rx, q1⟩ => ?_
  refine (EvO.mono' (q1.run (e0.trans e1) s1 (r.mono e1)) fun l H2 ⟨F2, O2, e2, s2, q2⟩ => ?_)
  refine (EvO.mono' (q2.run (e0.trans (e1.trans e2)) s2 (r.mono (e1.trans e2))) fun u H3 ⟨F3, O3, e3, S, hh⟩ => ?_)
  have hK := hX.K
  have rx := rx.mono (e2.trans e3)
  have ee := (e1.trans e2).trans e3
  unfold SlQ at hh
  split at hh
  · obtain ⟨p, xs, rfl, h1, h2⟩ := rx
    refine .inr (.inl ⟨p, xs, rfl, S.ext.seqT (hK ▸ h1), fun w => ?_, fun _ l hl => KV'.mono ee (fun _ _ q => q) (kv_tup S hl (cut_reps h2) hh)⟩)
    have c := cut_reps (lo := l) (hi := u) h2
    rw [cut_whole w] at c
    exact kv1 ee S (rep_tup h1 c) hh
  · obtain ⟨p, xs, rfl, h1, h2⟩ := rx
    exact .inl ⟨p, xs, rfl, SqL.of (S.ext _ _ h1), fun l hl => KV'.mono ee (fun _ _ q => q) (kv_lst S hl (cut_reps h2) hh)⟩
  · obtain ⟨p, xs, rfl, h1, h2⟩ := rx
    exact .inl ⟨p, xs, rfl, S.ext.seqL (hK ▸ h1), fun l hl => KV'.mono ee (fun _ _ q => q) (kv_lst S hl (cut_reps h2) hh)⟩
  · obtain ⟨ds, ho, hh⟩ := hh
    cases rx
    obtain ⟨vs, h1, h2⟩ := S.list ho
    exact .inl ⟨_, vs, rfl, SqL.of h1, fun l hl => KV'.mono ee (fun _ _ q => q) (kv_lst S hl (cut_reps h2) hh)⟩
  · cases rx
    exact .inr (.inr ⟨_, rfl, hh.1, kv1 ee S rep_str hh.2⟩)
  · exact hh.elim
end
end DL

/-! DLD: rules: statements, targets, loops, comprehensions, calls of own defs. -/
namespace DL
open PySem PySem.Spec PyProof.Rows L2

section
variable {Γ : G} {ρ : Env'} {O : Opens} {Z : EndsD} {Q : DK} {σ : L2.St} {H : Hp} {F : Fr}
theorem KE'.mono {st : List Stmt} {F F' : Fr} (e : Ext F F') (h : EvSs Γ st (KE' Γ F' Z) σ H) : EvSs Γ st (KE' Γ F Z) σ H :=
  h.mono (fun _ _ q => KS.mono e (fun _ _ q => q) q) (fun _ _ q => KV'.mono e (fun _ _ q => q) q) (fun _ _ q => KS.mono e (fun _ _ q => q) q) (fun _ _ q => KS.mono e (fun _ _ q => q) q)
theorem KE'.mono1 {st : Stmt} {F F' : Fr} (e : Ext F F') (h : EvS Γ st (KE' Γ F' Z) σ H) : EvS Γ st (KE' Γ F Z) σ H :=
  h.mono (fun _ _ q => KS.mono e (fun _ _ q => q) q) (fun _ _ q => KV'.mono e (fun _ _ q => q) q) (fun _ _ q => KS.mono e (fun _ _ q => q) q) (fun _ _ q => KS.mono e (fun _ _ q => q) q)
theorem ks {F' : Fr} {ρ' : Env'} {O' : Opens} {Q : Env' → Opens → Prop} (e : Ext F F') (s : Stt Γ.M.K F' O' H) (r : EnvR Γ.M.K F' ρ' σ) (q : Q ρ' O') : KS Γ F Q σ H := ⟨ρ', F', O', e, s, r, q⟩
/-! ### blocks -/
theorem wss_nil (h : Z.nx ρ O) : WSs Γ [] ρ O Z := fun F σ H e0 s r X hX pins st I => pss_nil.run pins st σ H _ I (ks (Ext.refl F) s r h)
theorem wss_cons {st : Stmt} {rest : List Stmt} (h : WS Γ st ρ O { Z with nx := fun ρ' O' => WSs Γ rest ρ' O' Z }) : WSs Γ (st :: rest) ρ O Z := fun F σ H e0 s r X hX pins sh I => by
  refine (pss_cons (EvS.ps hX st) (EvSs.pss hX rest)).run pins sh σ H _ I ((h F σ H e0 s r).mono (fun σ' H' ⟨ρ', F', O', e1, s1, r1, q⟩ => ?_) (fun _ _ q => q) (fun _ _ q => q) fun _ _ q => q)
  exact KE'.mono e1 (q F' σ' H' (e0.trans e1) s1 r1)
theorem ws_pass {pos : Pos} (h : Z.nx ρ O) : WS Γ (.Pass pos) ρ O Z := fun F σ H e0 s r X hX pins st I => ps_pass.run pins st σ H _ I (ks (Ext.refl F) s r h)
theorem ws_break {pos : Pos} (h : Z.bk ρ O) : WS Γ (.Break pos) ρ O Z := fun F σ H e0 s r X hX pins st I => ps_break.run pins st σ H _ I (ks (Ext.refl F) s r h)
theorem ws_continue {pos : Pos} (h : Z.ct ρ O) : WS Γ (.Continue pos) ρ O Z := fun F σ H e0 s r X hX pins st I => ps_continue.run pins st σ H _ I (ks (Ext.refl F) s r h)
theorem ws_expr {e : Expr} {pos : Pos} (h : We Γ e ρ O fun _ O1 => Z.nx ρ O1) (hs : ∀ env, env.scope = Γ.sc → swapsWith e none pos.line env = pure false := by intro _ _; rfl) : WS Γ (.Expr e pos) ρ O Z := fun F σ H e0 s r X hX pins st I =>
  (ps_expr (Ev.pe hX e) (hs X.env hX.sc)).run pins st σ H _ I ((h F σ H e0 s r).mono fun v H1 ⟨d, F1, O1, e1, s1, r1, q1⟩ => ks e1 s1 (r.mono e1) q1)
theorem ws_ret {e : Expr} {pos : Pos} (h : We Γ e ρ O Z.rt) : WS Γ (.Return (some e) pos) ρ O Z := fun F σ H e0 s r X hX pins st I => (ps_ret (Ev.pe hX e)).run pins st σ H _ I (h F σ H e0 s r)
theorem ws_retN {pos : Pos} (h : Z.rt .non O) : WS Γ (.Return none pos) ρ O Z := fun F σ H e0 s r X hX pins st I => ps_retN.run pins st σ H _ I (kv s rep_non h)
theorem ws_if {c : Expr} {a b : List Stmt} {pos : Pos} (h : WT Γ c ρ O fun k O1 => if k = true then WSs Γ a ρ O1 Z else WSs Γ b ρ O1 Z) : WS Γ (.If c a b pos) ρ O Z := fun F σ H e0 s r X hX pins st I => by
  refine (ps_if (EvT.pt hX c) (EvSs.pss hX a) (EvSs.pss hX b)).run pins st σ H _ I ((h F σ H e0 s r).mono fun k H1 ⟨F1, O1, e1, s1, q1⟩ => ?_)
  cases k with
  | true => exact KE'.mono e1 ((show WSs Γ a ρ O1 Z by simpa using q1) F1 σ H1 (e0.trans e1) s1 (r.mono e1))
  | false => exact KE'.mono e1 ((show WSs Γ b ρ O1 Z by simpa using q1) F1 σ H1 (e0.trans e1) s1 (r.mono e1))

/-! ### targets -/
def EvG (Γ : G) (tg : Expr) (v : V) (σ : L2.St) (H : Hp) (Q : L2.St → Hp → Prop) : Prop := ∀ X, Γ.Has X → ∀ pins s u, Inv X pins σ H s → RelV v u → wpAny (model X.prog X.w) X.A (assign tg X.env u) (fun _ s' => ∃ σ' H', Inv X pins σ' H' s' ∧ Q σ' H') X.xe s
theorem EvG.pg {X : Cx} (h : Γ.Has X) (tg : Expr) : PG X tg (EvG Γ tg) := ⟨fun pins s σ H v u Q I r q => q X h pins s u I r⟩
theorem EvG.mono {tg : Expr} {v : V} {Q Q' : L2.St → Hp → Prop} (h : EvG Γ tg v σ H Q) (m : ∀ σ H, Q σ H → Q' σ H) : EvG Γ tg v σ H Q' := fun X hX pins s u I r => thn (h X hX pins s u I r) fun _ _ ⟨σ', H', I', q⟩ => ⟨σ', H', I', m _ _ q⟩
def EvGs (Γ : G) (tg : List Expr) (v : List V) (σ : L2.St) (H : Hp) (Q : L2.St → Hp → Prop) : Prop := ∀ X, Γ.Has X → ∀ pins s u, Inv X pins σ H s → Vals v u → wpAny (model X.prog X.w) X.A (assignInOrder ((assignEach tg X.env).map (·.2)) u) (fun _ s' => ∃ σ' H', Inv X pins σ' H' s' ∧ Q σ' H') X.xe s
theorem EvGs.pgs {X : Cx} (h : Γ.Has X) (tg : List Expr) : PGs X tg (EvGs Γ tg) := ⟨fun pins s σ H v u Q I r q => q X h pins s u I r⟩
def WG (Γ : G) (tg : Expr) (d : D) (ρ : Env') (O : Opens) (Q : Env' → Opens → Prop) : Prop := ∀ F σ H v, Ext Γ.F0 F → Stt Γ.M.K F O H → EnvR Γ.M.K F ρ σ → Rep Γ.M.K F d v → EvG Γ tg v σ H (KS Γ F Q)
def WGs (Γ : G) (tg : List Expr) (ds : List D) (ρ : Env') (O : Opens) (Q : Env' → Opens → Prop) : Prop := ∀ F σ H vs, Ext Γ.F0 F → Stt Γ.M.K F O H → EnvR Γ.M.K F ρ σ → Reps Γ.M.K F ds vs → EvGs Γ tg vs σ H (KS Γ F Q)
theorem wg_name {i : Nat} {x : Str} {pos : Pos} {d : D} {Q : Env' → Opens → Prop} (hN : Γ.N[i]? = some x) (hl : Loc Γ.ss x) (h : Q (ρ.set i (some d)) O) : WG Γ (.Name x pos) d ρ O Q := fun F σ H v e0 s r rv X hX pins st u I ru => by
  obtain ⟨h1, h2⟩ := hX.fn x hl
  exact (pg_name (X := X) (i := i) (by rw [hX.N]; exact hX.nd) (by rw [hX.N]; exact hN) h1 h2).run pins st σ H v u _ I ru (ks (Ext.refl F) s (r.set i rv) h)
theorem wgs_nil {Q : Env' → Opens → Prop} (h : Q ρ O) : WGs Γ [] [] ρ O Q := fun F σ H vs e0 s r rv X hX pins st u I ru => by
  cases (show vs = [] from rv)
  exact pgs_nil.run pins st σ H _ u _ I ru ⟨rfl, ks (Ext.refl F) s r h⟩
theorem wgs_cons {e : Expr} {es : List Expr} {d : D} {ds : List D} {Q : Env' → Opens → Prop} (h : WG Γ e d ρ O fun ρ' O' => WGs Γ es ds ρ' O' Q) (hs : ∀ env, (assignEach (e :: es) env).map (·.2) = assign e env :: (assignEach es env).map (·.2) := by intro _; rfl) : WGs Γ (e :: es) (d :: ds) ρ O Q := fun F σ H vs e0 s r rv X hX pins st u I ru => by
  obtain ⟨v, t, rfl, h1, h2⟩ := rv
  refine (pgs_cons (EvG.pg hX e) (EvGs.pgs hX es) (hs X.env)).run pins st σ H _ u _ I ru ⟨v, t, rfl, (h F σ H v e0 s r h1).mono fun σ1 H1 ⟨ρ1, F1, O1, e1, s1, r1, q1⟩ => ?_⟩
  exact fun X hX pins st u I ru => thn (q1 F1 σ1 H1 t (e0.trans e1) s1 r1 (h2.mono e1) X hX pins st u I ru) fun _ _ ⟨σ', H', I', q⟩ => ⟨σ', H', I', KS.mono e1 (fun _ _ q => q) q⟩
theorem wg_tup {es : List Expr} {k : Nat} {pos : Pos} {ds : List D} {Q : Env' → Opens → Prop} {n : Nat} (hh : Γ.hot = false) (hl : ds.length = n) (h : WGs Γ es ds ρ O Q) (hn : ∀ env, (assignEach es env).length = n := by intro _; rfl) (hst : ∀ env, (assignEach es env).findIdx? (·.1) = none := by intro _; rfl) : WG Γ (.Tuple es k pos) (.tup ds) ρ O Q := fun F σ H v e0 s r rv X hX pins st u I ru => by
  obtain ⟨a, vs, rfl, h1, h2⟩ := rv
  exact (pg_tup (hX.calm hh) (EvGs.pgs hX es) (hn X.env) (hst X.env)).run pins st σ H _ u _ I ru ⟨a, vs, rfl, s.ext.seqT (hX.K ▸ h1), by rw [← h2.length]; exact hl, h F σ H vs e0 s r h2⟩
/-- xs[i] = v, the list open -/
theorem wg_sub {o i : Expr} {pos : Pos} {d : D} {Q : Env' → Opens → Prop} (h : We Γ o ρ O fun x O1 => We Γ i ρ O1 fun y O2 => ∃ a ds k j, x = .raw (.ref a) ∧ y = .int k ∧ O2 a = some (.lst ds) ∧ ixN ds.length k = some j ∧ Q ρ (O2.up a (.lst (ds.set j d))))
    (ha : ∀ env v, assign (.Subscript o i pos) env v = (do let ov ← holding [v] (eval o env); let iv ← holding [v, ov] (eval i env); standAt pos; holding [v, ov, iv] (setItem ov iv v); release [v, ov, iv] []) := by intro _ _; rfl) : WG Γ (.Subscript o i pos) d ρ O Q := fun F σ H v e0 s r rv X hX pins st u I ru => by
  refine (pg_sub (Ev.pe hX o) (Ev.pe hX i) set_list (ha X.env)).run pins st σ H v u _ I ru ((h F σ H e0 s r).mono fun x H1 ⟨dx, F1, O1, e1, s1, rx, q1⟩ => ?_)
  refine (q1 F1 σ H1 (e0.trans e1) s1 (r.mono e1)).mono fun y H2 ⟨dy, F2, O2, e2, s2, ry, a, ds, k, j, hx, hy, ho, hj, q⟩ => ?_
  subst hx hy
  cases rx; cases ry
  obtain ⟨vs, g1, g2⟩ := s2.list ho
  have e := e1.trans e2
  exact ⟨a, vs, k, j, rfl, rfl, g1, by rw [← g2.length]; exact hj, ks e (s2.change ho (u := .lst (ds.set j d)) ⟨_, rfl, g2.set j (rv.mono e)⟩) (r.mono e) q⟩
theorem ws_asg {tg e : Expr} {pos : Pos} (h : We Γ e ρ O fun d O1 => WG Γ tg d ρ O1 Z.nx) (hs : ∀ env, env.scope = Γ.sc → swapsWithSole [tg] e pos.line env = pure false := by intro _ _; rfl) (hw : ∀ env, env.scope = Γ.sc → swappedStores [tg] e env = pure none := by intro _ _; rfl)
    (h1 : ∀ env, (assignEach [tg] env).map (·.2) = [assign tg env] := by intro _; rfl) : WS Γ (.Assign [tg] e pos) ρ O Z := fun F σ H e0 s r X hX pins st I =>
  (ps_asg (Ev.pe hX e) (EvG.pg hX tg) (hs X.env hX.sc) (hw X.env hX.sc) (h1 X.env)).run pins st σ H _ I ((h F σ H e0 s r).mono fun v H1 ⟨d, F1, O1, e1, s1, r1, q1⟩ => (q1 F1 σ H1 v (e0.trans e1) s1 (r.mono e1) r1).mono fun _ _ q => KS.mono e1 (fun _ _ q => q) q)
theorem ws_set {i : Nat} {x : Str} {e : Expr} {pos pos' : Pos} (hN : Γ.N[i]? = some x) (hl : Loc Γ.ss x) (h : We Γ e ρ O fun d O1 => Z.nx (ρ.set i (some d)) O1) (hs : ∀ env, env.scope = Γ.sc → swapsWith e (some (.Name x pos')) pos.line env = pure false := by intro _ _; rfl) : WS Γ (.Assign [.Name x pos'] e pos) ρ O Z := fun F σ H e0 s r X hX pins st I => by
  obtain ⟨h1, h2⟩ := hX.fn x hl
  exact (ps_set (X := X) (i := i) (by rw [hX.N]; exact hX.nd) (by rw [hX.N]; exact hN) h1 (Ev.pe hX e) (hs X.env hX.sc) h2).run pins st σ H _ I ((h F σ H e0 s r).mono fun v H1 ⟨d, F1, O1, e1, s1, r1, q1⟩ => ks e1 s1 ((r.mono e1).set i r1) q1)
/-- a, b = x, y -/
theorem ws_par {i j : Nat} {x y : Str} {a b : Expr} {px py pt pos : Pos} {kt k2 pt2} (hh : Γ.hot = false) (hi : Γ.N[i]? = some x) (hj : Γ.N[j]? = some y) (hij : i ≠ j) (hx : Γ.sc.names.lookup x = some .local) (hy : Γ.sc.names.lookup y = some .local)
    (h : We Γ a ρ O fun u O1 => We Γ b ρ O1 fun v O2 => Z.nx ((ρ.set i (some u)).set j (some v)) O2)
    (hw : ∀ env, env.scope = Γ.sc → swappedStores [.Tuple [.Name x px, .Name y py] kt pt] (.Tuple [a, b] k2 pt2) env = pure (some [x, y])) (hs : ∀ env, env.scope = Γ.sc → swapsWithSole [.Tuple [.Name x px, .Name y py] kt pt] (.Tuple [a, b] k2 pt2) pos.line env = pure false := by intro _ _; rfl)
    (h1 : ∀ env, starEach [a, b] env = (false, eval a env) :: starEach [b] env := by intro _; rfl) (h2 : ∀ env, starEach [b] env = (false, eval b env) :: starEach [] env := by intro _; rfl) :
    WS Γ (.Assign [.Tuple [.Name x px, .Name y py] kt pt] (.Tuple [a, b] k2 pt2) pos) ρ O Z := fun F σ H e0 s r X hX pins st I => by
  have ha : WA Γ [a, b] ρ O fun ds O2 => ∃ u v, ds = [u, v] ∧ Z.nx ((ρ.set i (some u)).set j (some v)) O2 := wa_cons (h.imp fun u O1 q => wa_cons (q.imp fun v O2 q => wa_nil ⟨u, v, rfl, q⟩) h2) h1
  refine (ps_par (X := X) (i := i) (j := j) (hX.calm hh) (by rw [hX.N]; exact hX.nd) (by rw [hX.N]; exact hi) (by rw [hX.N]; exact hj) hij (by rw [hX.sc]; exact hx) (by rw [hX.sc]; exact hy) (EvA.pa hX _) (hw X.env hX.sc) (hs X.env hX.sc)).run pins st σ H _ I ?_
  refine (ha F σ H e0 s r).mono fun vs H1 ⟨ds, F1, O1, e1, s1, r1, u, v, hd, q⟩ => ?_
  subst hd
  obtain ⟨v1, t1, rfl, g1, g2⟩ := r1
  obtain ⟨v2, t2, rfl, g3, g4⟩ := g2
  cases (show t2 = [] from g4)
  exact ⟨v1, v2, rfl, ks e1 s1 (((r.mono e1).set i g1).set j g3) q⟩

/-! ### while -/
theorem ws_while {c : Expr} {body : List Stmt} {pos : Pos} (W : Nat → Env' → Opens → Prop) (n : Nat) (h0 : W n ρ O)
    (hs : ∀ n ρ' O', W n ρ' O' → WT Γ c ρ' O' fun k O1 => if k = true then WSs Γ body ρ' O1 { Z with nx := fun ρ2 O2 => ∃ m, m < n ∧ W m ρ2 O2, ct := fun ρ2 O2 => ∃ m, m < n ∧ W m ρ2 O2, bk := Z.nx } else Z.nx ρ' O1) : WS Γ (.While c body [] pos) ρ O Z := fun F σ H e0 s r X hX pins st I => by
  refine (ps_while hX.passes (EvT.pt hX c) (EvSs.pss hX body)).run pins st σ H _ I ⟨fun m σ' H' => KS Γ F (W m) σ' H', ⟨n, ks (Ext.refl F) s r h0⟩, fun m σ' H' ⟨ρ', F', O', e1, s1, r1, w1⟩ => ?_⟩
  refine (hs m ρ' O' w1 F' σ' H' (e0.trans e1) s1 r1).mono fun k H1 ⟨F2, O2, e2, s2, q2⟩ => ?_
  cases k with
  | true =>
    have q2 := (show WSs Γ body ρ' O2 _ by simpa using q2) F2 σ' H1 (e0.trans (e1.trans e2)) s2 (r1.mono e2)
    refine ⟨KS Γ F fun ρ2 O2 => ∃ m', m' < m ∧ W m' ρ2 O2, fun σ3 H3 ⟨ρ3, F3, O3, e3, s3, r3, m', hm, w3⟩ => ⟨m', hm, ρ3, F3, O3, e3, s3, r3, w3⟩, ?_⟩
    have e := e1.trans e2
    exact q2.mono (fun _ _ q => KS.mono e (fun _ _ q => q) q) (fun _ _ q => KV'.mono e (fun _ _ q => q) q) (fun _ _ q => KS.mono e (fun _ _ q => q) q) (fun _ _ q => KS.mono e (fun _ _ q => q) q)
  | false =>
    have q2 : Z.nx ρ' O2 := by simpa using q2
    exact ks (e1.trans e2) s2 (r1.mono e2) q2

/-! ### for -/
/-- over a list or tuple that is frozen -/
def seqD : D → Option (List D)
  | .tup ds => some ds
  | .lst ds => some ds
  | .rls ds => some ds
  | _ => none
/-- one loop over data: the body at each item -/
structure ForQ (Γ : G) (tg : Expr) (body : List Stmt) (Z : EndsD) (n : Nat) (it : Nat → Option D) (ρ : Env') (O : Opens) (W : Nat → Env' → Opens → Prop) : Prop where
  start : W 0 ρ O
  turn : ∀ i x ρ' O', i < n → it i = some x → W i ρ' O' → WG Γ tg x ρ' O' fun ρ2 O2 => WSs Γ body ρ2 O2 { Z with nx := W (i + 1), ct := W (i + 1), bk := Z.nx }
  stop : ∀ ρ' O', W n ρ' O' → Z.nx ρ' O'
theorem for_turn {tg : Expr} {body : List Stmt} {n : Nat} {it : Nat → Option D} {W : Nat → Env' → Opens → Prop} (T : ForQ Γ tg body Z n it ρ O W) {i : Nat} {x : D} {v : V} {F F2 : Fr} {O2 : Opens} {ρ2 : Env'} {σ2 : L2.St} {H2 : Hp} (e0 : Ext Γ.F0 F) (hi : i < n) (hx : it i = some x) (e2 : Ext F F2) (s2 : Stt Γ.M.K F2 O2 H2) (r2 : EnvR Γ.M.K F2 ρ2 σ2) (w2 : W i ρ2 O2) (rv : Rep Γ.M.K F2 x v) :
    EvG Γ tg v σ2 H2 fun σ3 H3 => EvSs Γ body { KE' Γ F Z with nx := KS Γ F (W (i + 1)), ct := KS Γ F (W (i + 1)), bk := KS Γ F Z.nx } σ3 H3 := by
  refine (T.turn i x ρ2 O2 hi hx w2 F2 σ2 H2 v (e0.trans e2) s2 r2 rv).mono fun σ3 H3 ⟨ρ3, F3, O3, e3, s3, r3, q3⟩ => ?_
  have e := e2.trans e3
  exact (q3 F3 σ3 H3 (e0.trans e) s3 r3).mono (fun _ _ q => KS.mono e (fun _ _ q => q) q) (fun _ _ q => KV'.mono e (fun _ _ q => q) q) (fun _ _ q => KS.mono e (fun _ _ q => q) q) (fun _ _ q => KS.mono e (fun _ _ q => q) q)
theorem ws_for {tg iter : Expr} {body : List Stmt} {pos : Pos} (hh : Γ.hot = false) (h : We Γ iter ρ O fun d O1 => ∃ ds, (d = .lst ds ∨ d = .rls ds) ∧ ∃ W, ForQ Γ tg body Z ds.length (fun i => ds[i]?) ρ O1 W)
    (hs : ∀ env x, foldedSetIterable iter env x = pure x := by intro _ _; rfl) : WS Γ (.For tg iter body [] pos) ρ O Z := fun F σ H e0 s r X hX pins st I => by
  refine (ps_for hX.passes (hX.calm hh) (pi_list (Ev.pe hX iter)) (EvG.pg hX tg) (EvSs.pss hX body) (hs X.env)).run pins st σ H _ I ((h F σ H e0 s r).mono fun v H1 ⟨d, F1, O1, e1, s1, r1, ds, hd, W, T⟩ => ?_)
  have hl : ∃ a vs, v = .ref a ∧ SqL Γ.M.K F1.z a vs ∧ Reps Γ.M.K F1 ds vs := by
    rcases hd with rfl | rfl
    · obtain ⟨a, vs, e, g1, g2⟩ := r1
      exact ⟨a, vs, e, SqL.of g1, g2⟩
    · exact r1
  obtain ⟨a, vs, rfl, g1, g2⟩ := hl
  have hK := hX.K
  refine ⟨a, rfl, ⟨vs, s1.ext.seqL (hK ▸ g1)⟩, for_list (K := X.K) (a := a) (xs := vs) (D := KE' Γ F Z) (fun i σ' H' => KS Γ F1 (W i) σ' H') (ks (Ext.refl F1) s1 (r.mono e1) T.start) (fun i σ' H' _ ⟨ρ', F', O', e2, s2, r2, _⟩ => ?_) (fun i v σ' H' hi ⟨ρ', F', O', e2, s2, r2, w2⟩ => ?_) (fun σ' H' ⟨ρ', F', O', e2, s2, r2, w2⟩ => ?_)⟩
  · exact s2.ext.seqL (seq_l e2.1 (hK ▸ g1))
  · obtain ⟨x, hx, rx⟩ := g2.back hi
    have hi' : i < ds.length := by
      have := (List.getElem?_eq_some_iff.mp hx).1
      exact this
    refine (for_turn T (F := F1) (e0.trans e1) hi' hx e2 s2 r2 w2 (rx.mono e2)).mono fun σ3 H3 q => q.mono (fun _ _ q => q) (fun _ _ q => KV'.mono e1 (fun _ _ q => q) q) (fun _ _ q => KS.mono e1 (fun _ _ q => q) q) (fun _ _ q => q)
  · rw [← g2.length] at w2
    exact ks (e1.trans e2) s2 r2 (T.stop _ _ w2)
theorem ws_forT {tg iter : Expr} {body : List Stmt} {pos : Pos} (hh : Γ.hot = false) (h : We Γ iter ρ O fun d O1 => ∃ ds, d = .tup ds ∧ ∃ W, ForQ Γ tg body Z ds.length (fun i => ds[i]?) ρ O1 W)
    (hs : ∀ env x, foldedSetIterable iter env x = pure x := by intro _ _; rfl) : WS Γ (.For tg iter body [] pos) ρ O Z := fun F σ H e0 s r X hX pins st I => by
  refine (ps_for hX.passes (hX.calm hh) (pi_tup (Ev.pe hX iter)) (EvG.pg hX tg) (EvSs.pss hX body) (hs X.env)).run pins st σ H _ I ((h F σ H e0 s r).mono fun v H1 ⟨d, F1, O1, e1, s1, r1, ds, hd, W, T⟩ => ?_)
  subst hd
  obtain ⟨a, vs, rfl, g1, g2⟩ := r1
  have hK := hX.K
  refine ⟨a, rfl, ⟨vs, s1.ext.seqT (hK ▸ g1)⟩, for_tup (K := X.K) (a := a) (xs := vs) (D := KE' Γ F Z) (fun i σ' H' => KS Γ F1 (W i) σ' H') (ks (Ext.refl F1) s1 (r.mono e1) T.start) (fun i σ' H' _ ⟨ρ', F', O', e2, s2, r2, _⟩ => ?_) (fun i v σ' H' hi ⟨ρ', F', O', e2, s2, r2, w2⟩ => ?_) (fun σ' H' ⟨ρ', F', O', e2, s2, r2, w2⟩ => ?_)⟩
  · exact s2.ext.seqT (seq_t e2.1 (hK ▸ g1))
  · obtain ⟨x, hx, rx⟩ := g2.back hi
    have hi' : i < ds.length := by
      have := (List.getElem?_eq_some_iff.mp hx).1
      exact this
    refine (for_turn T (F := F1) (e0.trans e1) hi' hx e2 s2 r2 w2 (rx.mono e2)).mono fun σ3 H3 q => q.mono (fun _ _ q => q) (fun _ _ q => KV'.mono e1 (fun _ _ q => q) q) (fun _ _ q => KS.mono e1 (fun _ _ q => q) q) (fun _ _ q => q)
  · rw [← g2.length] at w2
    exact ks (e1.trans e2) s2 r2 (T.stop _ _ w2)
theorem ws_forR {tg a : Expr} {body : List Stmt} {p p2 pos : Pos} (hh : Γ.hot = false) (hg : GlN Γ "range") (hm : Γ.M.mg "range" = none) (h : We Γ a ρ O fun d O1 => ∃ n : Int, d = .int n ∧ -(2 ^ 62) ≤ n ∧ n < 2 ^ 62 ∧ ∃ W, ForQ Γ tg body Z n.toNat (fun i => some (.int (i : Int))) ρ O1 W)
    (h1 : ∀ env, starEach [a] env = [(false, eval a env)] := by intro _; rfl) (hs : ∀ env x, foldedSetIterable (.Call (.Name "range" p) [a] [] p2) env x = pure x := by intro _ _; rfl) : WS Γ (.For tg (.Call (.Name "range" p) [a] [] p2) body [] pos) ρ O Z := fun F σ H e0 s r X hX pins st I => by
  refine (ps_for hX.passes (hX.calm hh) (pi_range1 (hX.gl hg) (by rw [← hX.mg]; exact hm) (pa_cons (Ev.pe hX a) pa_nil (h1 X.env)) (h1 X.env)) (EvG.pg hX tg) (EvSs.pss hX body) (hs X.env)).run pins st σ H _ I ((h F σ H e0 s r).mono fun v H1 ⟨d, F1, O1, e1, s1, r1, n, hd, b1, b2, W, T⟩ => ?_)
  subst hd
  cases r1
  refine ⟨n, rfl, b1, b2, for_range (lo := 0) (n := n.toNat) (D := KE' Γ F Z) (fun i σ' H' => KS Γ F1 (W i) σ' H') (ks (Ext.refl F1) s1 (r.mono e1) T.start) (fun i σ' H' hi ⟨ρ', F', O', e2, s2, r2, w2⟩ => ?_) (fun σ' H' ⟨ρ', F', O', e2, s2, r2, w2⟩ => ?_)⟩
  · have ez : (0 : Int) + (i : Int) = (i : Int) := Int.zero_add _
    rw [ez]
    exact (for_turn T (F := F1) (x := .int (i : Int)) (e0.trans e1) hi rfl e2 s2 r2 w2 rep_int).mono fun σ3 H3 q => q.mono (fun _ _ q => q) (fun _ _ q => KV'.mono e1 (fun _ _ q => q) q) (fun _ _ q => KS.mono e1 (fun _ _ q => q) q) (fun _ _ q => q)
  · exact ks (e1.trans e2) s2 r2 (T.stop _ _ w2)
end
end DL

/-! DLE: what a def promises over data; its body; its calls; list comprehensions. -/
namespace DL
open PySem PySem.Spec PyProof.Rows L2

/-- a promise: the arguments, what is open, what is wished of the value, of an exception -/
abbrev SpD := List D → Opens → DK → (XD → Opens → Prop) → Prop
def lift (K : PySem.W.Frag) (sp : SpD) : Sp := fun vs H Q E => ∃ (ds : List D) (F : Fr) (O : Opens) (Qd : DK) (Ed : XD → Opens → Prop), Reps K F ds vs ∧ Stt K F O H ∧ sp ds O Qd Ed ∧
  (∀ (d : D) (v : V) (F' : Fr) (O' : Opens) (H' : Hp), Ext F F' → Stt K F' O' H' → Rep K F' d v → Qd d O' → Q v H') ∧
  (∀ (x : XD) (cls : Value) (da : Option Addr) (F' : Fr) (O' : Opens) (H' : Hp), Ext F F' → Stt K F' O' H' → RepX K F' x cls da → Ed x O' → E cls da H')
structure DefD (M : Mo) (x : Str) (st : Stmt) (ps : List Str) (k : Nat) (sp : SpD) : Prop where
  ex : ∃ (f : Addr) (fd : FuncData), M.mg x = some (.ref f) ∧ Fun M.K x x st f fd ∧ FnOk M.P M.w M.K M.mg M.base (L2.CX M.P M.w) k f fd ps (lift M.K sp)
  bd : ∀ (kV doc pm : Value) (an : Option Addr) (cdv ct : Value) (us : List Value), us.length = ps.length → bindArgs (PySem.W.fnOf x x (defArgs st) (defBody st) (defScope st) .none kV doc pm an cdv ct) ⟨us, []⟩ = pure (ps.zip us)
def startD (N : List Str) (ds : List D) : Env' := ds.map some ++ List.replicate (N.length - ds.length) none
theorem start_env {K : PySem.W.Frag} {F : Fr} {N : List Str} {ds : List D} {vs : List V} (h : Reps K F ds vs) : EnvR K F (startD N ds) (L2.start N vs) := by
  refine ⟨by unfold startD L2.start; simp [h.length], fun i d e => ?_⟩
  unfold startD at e
  unfold L2.start
  by_cases hi : i < ds.length
  · rw [List.getElem?_append_left (by simpa using hi), List.getElem?_map] at e
    cases q : ds[i]? with
    | none => rw [q] at e; cases e
    | some x =>
      rw [q] at e
      cases e
      obtain ⟨v, h1, h2⟩ := h.get q
      exact ⟨v, by rw [List.getElem?_append_left (by rw [List.length_map, ← h.length]; exact hi), List.getElem?_map, h1]; rfl, h2⟩
  · rw [List.getElem?_append_right (by simpa using hi), List.getElem?_replicate] at e
    split at e <;> cases e
/-- where a def's body runs -/
def bodyG (M : Mo) (N : List Str) (sc : Scope) (k : Nat) (F0 : Fr) (E : XD → Opens → Prop) : G := ⟨M, N, sc, sc, k, false, true, F0, fun x _ O => E x O, fun _ _ _ => False⟩
theorem bodyG_has {M : Mo} {N : List Str} {qual : Str} {st : Stmt} {k : Nat} {F0 : Fr} {Ed : XD → Opens → Prop} {f : Addr} {cdv : Value} {A : Around} {outer : List Env} {s : Shared} {H : Hp} {E : XK} (hN : N.Nodup)
    (hr : Room k (A.deeper (envOfC qual (defScope st) s.heap.objs.size f cdv))) (hE : ∀ (x : XD) (cls : Value) (da : Option Addr) (F' : Fr) (O' : Opens) (H' : Hp), Ext F0 F' → Stt M.K F' O' H' → RepX M.K F' x cls da → Ed x O' → E cls da H') :
    (bodyG M N (defScope st) k F0 Ed).Has (cxOf (L2.CX M.P M.w) M.P M.w M.K M.mg M.base N qual (defScope st) f cdv A outer s H E) where
  M := rfl
  N := rfl
  nd := hN
  sc := rfl
  calm := fun _ => rfl
  room := fun _ => hr
  units := by have := hr.un; show (A.deeper (envOfC qual (defScope st) s.heap.objs.size f cdv)).units + 100 < cLine; omega
  fn := fun x h => ⟨h, .inl rfl⟩
  takes := (takes_of rfl rfl rfl rfl).imp fun c d σ H ⟨x, ρ, F, O, e0, s, r, rx, q⟩ => hE x c d F O H e0 s rx q
  passes := passes_of rfl
  stk := fun _ => ⟨rfl, rfl⟩
  pin := fun _ _ _ h => h.elim
/-- THE RULE: a def by its body -/
theorem def_ok {M : Mo} {x : Str} {st : Stmt} {f : Addr} {fd : FuncData} {N ps : List Str} {k : Nat} {sp : SpD} (hm : M.mg x = some (.ref f)) (Fn : Fun M.K x x st f fd) (S : FnScope N ps (defScope st))
    (bd : ∀ (kV doc pm : Value) (an : Option Addr) (cdv ct : Value) (us : List Value), us.length = ps.length → bindArgs (PySem.W.fnOf x x (defArgs st) (defBody st) (defScope st) .none kV doc pm an cdv ct) ⟨us, []⟩ = pure (ps.zip us))
    (len : ∀ ds O Q E, sp ds O Q E → ds.length = ps.length)
    (body : ∀ (F : Fr) (ds : List D) (O : Opens) (Qd : DK) (Ed : XD → Opens → Prop), sp ds O Qd Ed → WSs (bodyG M N (defScope st) k F Ed) (defBody st) (startD N ds) O { nx := fun _ O' => Qd .non O', rt := Qd }) : DefD M x st ps (k + 1) sp := by
  refine ⟨⟨f, fd, hm, Fn, Fn.okX S (fun vs H Q E h => ?_) fun cdv A outer s H vs Q E hr h => ?_⟩, bd⟩
  · obtain ⟨ds, F, O, Qd, Ed, r, _, q, _⟩ := h
    rw [← r.length]
    exact len _ _ _ _ q
  · obtain ⟨ds, F, O, Qd, Ed, r, S', q, hQ, hE⟩ := h
    have hX := bodyG_has (M := M) (qual := x) (st := st) (f := f) (cdv := cdv) (A := A) (outer := outer) (s := s) (H := H) (E := E) (Ed := Ed) (F0 := F) S.nd hr hE
    refine ⟨_, EvSs.pss hX (defBody st), ?_⟩
    refine (body F ds O Qd Ed q F (L2.start N vs) H (Ext.refl F) S' (start_env r)).mono (fun σ' H' ⟨ρ', F', O', e, s', r', q'⟩ => ?_) (fun v H' ⟨d, F', O', e, s', r', q'⟩ => hQ d v F' O' H' e s' r' q') (fun σ' H' ⟨ρ', F', O', e, s', r', q'⟩ => q'.elim) fun σ' H' ⟨ρ', F', O', e, s', r', q'⟩ => q'.elim
    exact hQ .non .non F' O' H' e s' rep_non q'
section
variable {Γ : G} {ρ : Env'} {O : Opens} {Z : EndsD} {Q : DK} {σ : L2.St} {H : Hp} {F : Fr} {x : Str} {st : Stmt} {ps : List Str} {k : Nat} {sp : SpD}
theorem G.Has.def_ {X : Cx} (hX : Γ.Has X) (h : DefD Γ.M x st ps k sp) : ∃ (f : Addr) (fd : FuncData), X.mg x = some (.ref f) ∧ Fun X.K x x st f fd ∧ FnOk X.prog X.w X.K X.mg X.base (L2.CX X.prog X.w) k f fd ps (lift X.K sp) := by
  obtain ⟨f, fd, h1, h2, h3⟩ := h.ex
  rw [hX.M] at h1 h2 h3
  exact ⟨f, fd, h1, h2, h3⟩
theorem lift_call {X : Cx} (hX : Γ.Has X) {ds : List D} {vs : List V} {O1 : Opens} {F1 : Fr} {H1 : Hp} (e0 : Ext Γ.F0 F) (e1 : Ext F F1) (s1 : Stt Γ.M.K F1 O1 H1) (r : EnvR Γ.M.K F ρ σ) (r1 : Reps Γ.M.K F1 ds vs) (q : sp ds O1 Q fun x O2 => Γ.E x ρ O2) :
    lift X.K sp vs H1 (KV' Γ F Q) (fun cls d H => Γ.W cls d σ H) :=
  ⟨ds, F1, O1, Q, _, hX.K ▸ r1, hX.K ▸ s1, q, fun d v F' O' H' e s' r' q' => ⟨d, F', O', e1.trans e, hX.K ▸ s', hX.K ▸ r', q'⟩, fun x cls da F' O' H' e s' rx q' => ⟨x, ρ, F', O', e0.trans (e1.trans e), hX.K ▸ s', r.mono (e1.trans e), hX.K ▸ rx, q'⟩⟩
theorem we_call {p pos : Pos} {e : Expr} {es : List Expr} (hd : DefD Γ.M x st ps k sp) (hk : k ≤ Γ.k) (hg : GlN Γ x) (hh : Γ.hot = false) (h : WA Γ (e :: es) ρ O fun ds O1 => sp ds O1 Q fun x O2 => Γ.E x ρ O2)
    (h1 : (x == ("__debug__" : Str)) = false := by decide) (h2 : ∀ env, starEach (e :: es) env = (false, eval e env) :: starEach es env := by intro _; rfl) (h3 : ∀ env, (backTo pos (starEach es env)).any (·.1) = false := by intro _; rfl) : We Γ (.Call (.Name x p) (e :: es) [] pos) ρ O Q := fun F σ H e0 s r X hX pins sh I => by
  obtain ⟨f, fd, g1, g2, g3⟩ := hX.def_ hd
  exact (pe_callS (E := L2.WE Γ.W) g3 ((hX.room hh).mono hk) (hX.gl hg) g1 g2.kp (g2.binds hd.bd) (fun σ => passAt hX.takes σ) (EvA.pa hX _) h1 (h2 X.env) (h3 X.env)).run pins sh σ H _ I ((h F σ H e0 s r).mono fun vs H1 ⟨ds, F1, O1, e1, s1, r1, q1⟩ => lift_call hX e0 e1 s1 r r1 q1)
theorem we_call0 {p pos : Pos} (hd : DefD Γ.M x st ps k sp) (hk : k ≤ Γ.k) (hg : GlN Γ x) (hh : Γ.hot = false) (h : sp [] O Q fun x O2 => Γ.E x ρ O2)
    (h1 : (x == ("__debug__" : Str)) = false := by decide) : We Γ (.Call (.Name x p) [] [] pos) ρ O Q := fun F σ H e0 s r X hX pins sh I => by
  obtain ⟨f, fd, g1, g2, g3⟩ := hX.def_ hd
  refine wpAny_Call_Name_kw (ld_glob I (hX.gl hg) g1 ?_ h1)
  refine PySem.W.callWith_K0 I.kIn g2.kp ?_
  exact run_fnS (E := L2.WE Γ.W) g3 ((hX.room hh).mono hk) (g2.binds hd.bd) (passAt hX.takes σ) I .nil (lift_call hX e0 (Ext.refl F) s r (by exact rfl) h)
/-- how keywords bind: g puts the positional values and the keywords' in the parameters' order -/
structure KwB (x : Str) (st : Stmt) (ps ks : List Str) (n : Nat) (g : {α : Type} → List α → List α → List α) : Prop where
  to : ∀ (kV doc pm : Value) (an : Option Addr) (cdv ct : Value) (us ws : List Value), us.length = n → ws.length = ks.length → bindArgs (PySem.W.fnOf x x (defArgs st) (defBody st) (defScope st) .none kV doc pm an cdv ct) ⟨us, ks.zip ws⟩ = pure (ps.zip (g us ws))
  rel : ∀ {vs : List V} {us : List Value} {zs : List V} {ws : List Value}, Vals vs us → Vals zs ws → us.length = n → ws.length = ks.length → Vals (g vs zs) (g us ws)
  rep : ∀ {K : PySem.W.Frag} {F : Fr} {vs : List V} {ds : List D} {zs : List V} {es : List D}, Reps K F ds vs → Reps K F es zs → ds.length = n → es.length = ks.length → Reps K F (g ds es) (g vs zs)
/-- keywords' values -/
def EvK (Γ : G) (kws : List Keyword) (σ : L2.St) (H : Hp) (Q : List V → Hp → Prop) : Prop := ∀ X, Γ.Has X → ∀ pos pins s, Inv X pins σ H s → wpAny (model X.prog X.w) X.A (evalAll ((backToKw pos (keywordEach kws X.env)).map (·.2))) (AP X pins σ Q) X.xe s
theorem EvK.pk {X : Cx} (h : Γ.Has X) (es : List Keyword) : PK X es (EvK Γ es) := ⟨fun pos pins s σ H Q I q => q X h pos pins s I⟩
theorem EvK.mono {kws : List Keyword} {Q Q' : List V → Hp → Prop} (h : EvK Γ kws σ H Q) (m : ∀ v H, Q v H → Q' v H) : EvK Γ kws σ H Q' := fun X hX pos pins st I => thn (h X hX pos pins st I) fun _ _ ⟨vs, H1, I1, r, q⟩ => ⟨vs, H1, I1, r, m _ _ q⟩
def WK (Γ : G) (kws : List Keyword) (ρ : Env') (O : Opens) (Q : List D → Opens → Prop) : Prop :=
  ∀ F σ H, Ext Γ.F0 F → Stt Γ.M.K F O H → EnvR Γ.M.K F ρ σ → EvK Γ kws σ H (KA Γ F Q)
theorem wk_nil {Q : List D → Opens → Prop} (h : Q [] O) : WK Γ [] ρ O Q := fun F σ H e0 s r X hX pos pins st I => pk_nil.run pos pins st σ H _ I ⟨[], F, O, Ext.refl F, s, rfl, h⟩
theorem wk_cons {e : Expr} {nm : Option Str} {kpos : Pos} {kws : List Keyword} {Q : List D → Opens → Prop} (h : We Γ e ρ O fun d O1 => WK Γ kws ρ O1 fun ds O2 => Q (d :: ds) O2) : WK Γ (⟨nm, e, kpos⟩ :: kws) ρ O Q := fun F σ H e0 s r X hX pos pins st I => by
  refine (pk_cons (Ev.pe hX e) (EvK.pk hX kws)).run pos pins st σ H _ I ((h F σ H e0 s r).mono fun v H1 ⟨d, F1, O1, e1, s1, r1, q1⟩ => ?_)
  refine (q1 F1 σ H1 (e0.trans e1) s1 (r.mono e1)).mono fun vs H2 ⟨ds, F2, O2, e2, s2, r2, q2⟩ => ?_
  exact ⟨d :: ds, F2, O2, e1.trans e2, s2, Reps.cons (r1.mono e2) r2, q2⟩
theorem run_kw {X : Cx} {pins : List (Addr × Obj)} {sh : Shared} {ks : List Str} {n : Nat} {g : {α : Type} → List α → List α → List α} (hX : Γ.Has X) (hd : DefD Γ.M x st ps k sp) (hb : KwB x st ps ks n g) (hk : k ≤ Γ.k) (hh : Γ.hot = false) {ds es : List D} {vs zs : List V} {us ws : List Value} {O1 : Opens} {F1 : Fr} {H1 : Hp}
    {f : Addr} {fd : FuncData} (g2 : Fun X.K x x st f fd) (g3 : FnOk X.prog X.w X.K X.mg X.base (L2.CX X.prog X.w) k f fd ps (lift X.K sp))
    (I : Inv X pins σ H1 sh) (ru : Vals vs us) (rw : Vals zs ws) (e0 : Ext Γ.F0 F) (e1 : Ext F F1) (s1 : Stt Γ.M.K F1 O1 H1) (r : EnvR Γ.M.K F ρ σ) (r1 : Reps Γ.M.K F1 ds vs) (r2 : Reps Γ.M.K F1 es zs) (l1 : ds.length = n) (l2 : es.length = ks.length) (q : sp (g ds es) O1 Q fun x O2 => Γ.E x ρ O2) :
    wpAny (model X.prog X.w) X.A (call (.ref f) us (ks.zip ws)) (EP X pins σ (KV' Γ F Q)) X.xe sh := by
  have m1 : us.length = n := by rw [← ru.length, ← r1.length]; exact l1
  have m2 : ws.length = ks.length := by rw [← rw.length, ← r2.length]; exact l2
  have hsp := lift_call (Q := Q) (sp := sp) hX e0 e1 s1 r (hb.rep r1 r2 l1 l2) q
  obtain ⟨oc, od, kV, doc, pm, an, cdv, ct, osl, rfl, lk, hcd⟩ := g2.ex
  refine wpAny_call (codeAny_mono (g3.run X.A X.stack sh H1 ⟨us, ks.zip ws⟩ (g us ws) (g vs zs) _ _ ((hX.room hh).mono hk) I.env0 (.of_eq (hb.to kV doc pm an cdv ct us ws m1 m2)) (hb.rel ru rw m1 m2) hsp) fun r s' hq => ?_)
  cases r with
  | error e => exact passAt hX.takes σ pins H1 sh e s' I hq
  | ok fl =>
    cases fl with
    | ret u => exact I.after hq
    | next => exact False.elim hq
    | brk => exact False.elim hq
    | cont => exact False.elim hq
theorem we_callK0 {p pos : Pos} {kws : List Keyword} {ks : List Str} {g : {α : Type} → List α → List α → List α} (hd : DefD Γ.M x st ps k sp) (hb : KwB x st ps ks 0 g) (hk : k ≤ Γ.k) (hg : GlN Γ x) (hh : Γ.hot = false) (h : WK Γ kws ρ O fun es O1 => es.length = ks.length ∧ sp (g [] es) O1 Q fun x O2 => Γ.E x ρ O2)
    (hall : ∀ env, (backToKw pos (keywordEach kws env)).all (·.1.isSome) = true := by intro _; rfl) (hks : ∀ env, (backToKw pos (keywordEach kws env)).filterMap (·.1) = ks := by intro _; rfl) (h1 : (x == ("__debug__" : Str)) = false := by decide)
    (hpl : ∀ env, ((backTo pos (starEach [] env)).any (·.1) || (backToKw pos (keywordEach kws env)).any (·.1.isNone)) = false := by intro _; rfl) : We Γ (.Call (.Name x p) [] kws pos) ρ O Q := fun F σ H e0 s r X hX pins sh I => by
  obtain ⟨f, fd, g1, g2, g3⟩ := hX.def_ hd
  refine wpAny_Call_Name_kw (ld_glob I (hX.gl hg) g1 ?_ h1)
  refine PySem.W.callWith_KW0 (h₀ := X.base) I.ok.mod.kin g2.kp (hall X.env) ?_ (hpl X.env)
  refine thn (h F σ H e0 s r X hX pos pins _ I) fun ws s2 ⟨zs, H2, I2, rz, es, F1, O1, e1, s1, r2, l2, q⟩ => ⟨I2.kIn, ?_⟩
  rw [hks X.env]
  exact run_kw (us := []) (vs := []) (ds := []) hX hd hb hk hh g2 g3 I2 .nil rz e0 e1 s1 r rfl r2 rfl l2 q
end

/-! ### list comprehensions -/
/-- where a comprehension's block runs -/
def blkG (Γ : G) (scope : Scope) (F0 : Fr) : G := ⟨Γ.M, Γ.N, relS scope Γ.sc, scope, Γ.k, Γ.hot, false, F0, fun _ _ _ => False, fun _ _ _ => False⟩
theorem blkG_has {Γ : G} {X : Cx} (hX : Γ.Has X) {scope : Scope} {F0 : Fr} {s : Shared} {H : Hp} {C : Addr} {cl : List (Str × Addr)} {fp : List Addr} : (blkG Γ scope F0).Has (X.blk s H scope (compEnvC scope cl C X.env) fp) where
  M := hX.M
  N := hX.N
  nd := hX.nd
  sc := by show relS scope X.env.scope = relS scope Γ.sc; rw [hX.sc]
  calm := hX.calm
  room := hX.room
  units := hX.units
  fn := fun x h => by
    have k : ∀ k, k ≠ .free → scope.names.lookup x = some k → (relS scope X.env.scope).names.lookup x = some k := fun k hk e => lookup_relS_keep hk e
    rcases h with h | h
    · exact ⟨.inl (k _ (by decide) h), .inr (k _ (by decide) h)⟩
    · refine ⟨.inr (k _ (by decide) h), .inl ?_⟩
      show (scope.names.lookup x == some .cell) = true
      rw [show scope.names.lookup x = some .cell from h]; rfl
  takes := fun u s' ⟨_, _, _, _, _, _, _, _, _, _, _, _, _, _, _, _, w⟩ => by
    obtain ⟨_, _, _, _, _, _, _, _, q⟩ := w
    exact q.elim
  passes := PassesOwn.never
  stk := fun h => absurd (show false = true from h) Bool.false_ne_true
  pin := fun _ _ _ h => h.elim
/-- the clause's tests -/
def EvI (Γ : G) (ifs : List Expr) (σ : L2.St) (H : Hp) (Q : Bool → Hp → Prop) : Prop := match ifs with
  | [] => Q true H
  | [c] => EvT Γ c σ H Q
  | _ => False
theorem EvI.pts {Γ : G} {X : Cx} (hX : Γ.Has X) (ifs : List Expr) : PTs X ifs (EvI Γ ifs) := by
  match ifs with
  | [] => exact pts_nil
  | [c] => exact pts_one (EvT.pt hX c)
  | _ :: _ :: _ => exact ⟨fun _ _ _ _ _ _ h => (show False from h).elim⟩
def WI (Γ : G) (ifs : List Expr) (ρ : Env') (O : Opens) (Q : Bool → Opens → Prop) : Prop := match ifs with
  | [] => Q true O
  | [c] => WT Γ c ρ O Q
  | _ => False
theorem WI.run {Γ : G} {ifs : List Expr} {ρ : Env'} {O : Opens} {Q : Bool → Opens → Prop} {F : Fr} {σ : L2.St} {H : Hp} (h : WI Γ ifs ρ O Q) (e0 : Ext Γ.F0 F) (s : Stt Γ.M.K F O H) (r : EnvR Γ.M.K F ρ σ) : EvI Γ ifs σ H (KT Γ F Q) := by
  match ifs, h with
  | [], h => exact ⟨F, O, Ext.refl F, s, h⟩
  | [c], h => exact (show WT Γ c ρ O Q from h) F σ H e0 s r
  | _ :: _ :: _, h => exact h.elim
theorem EvI.mono {Γ : G} {ifs : List Expr} {σ : L2.St} {H : Hp} {Q Q' : Bool → Hp → Prop} (h : EvI Γ ifs σ H Q) (m : ∀ b H, Q b H → Q' b H) : EvI Γ ifs σ H Q' := by
  match ifs, h with
  | [], h => exact m _ _ h
  | [c], h => exact EvT.mono h m
  | _ :: _ :: _, h => exact h.elim
def wipeD (ρ : Env') : List Nat → Env'
  | [] => ρ
  | v :: vs => (wipeD ρ vs).set v none
theorem wipe_env {K : PySem.W.Frag} {F : Fr} {ρ : Env'} {σ : L2.St} (h : EnvR K F ρ σ) : ∀ vs, EnvR K F (wipeD ρ vs) (wipe σ vs)
  | [] => h
  | v :: vs => (wipe_env h vs).forget v none
theorem wipe_set (σ : L2.St) (v : Option V) : ∀ {vs : List Nat} {i : Nat}, i ∈ vs → wipe (σ.set i v) vs = wipe σ vs
  | w :: vs, i, h => by
    unfold wipe
    by_cases hi : i = w
    · subst hi
      by_cases hm : i ∈ vs
      · rw [wipe_set σ v hm]
      · have : ∀ {vs : List Nat}, i ∉ vs → wipe (σ.set i v) vs = (wipe σ vs).set i v := by
          intro vs
          induction vs with
          | nil => intro _; rfl
          | cons a vs ih =>
            intro hm
            rw [List.mem_cons, not_or] at hm
            unfold wipe
            rw [ih hm.2, List.set_comm _ _ hm.1]
        rw [this hm, List.set_set]
    · rcases List.mem_cons.mp h with e | h
      · exact absurd e hi
      · rw [wipe_set σ v h]
/-- targets of a comprehension: the slots stored are the block's own -/
def WGo (Γ : G) (own : List Nat) (tg : Expr) (d : D) (ρ : Env') (O : Opens) (Q : Env' → Opens → Prop) : Prop := ∀ F σ H v, Ext Γ.F0 F → Stt Γ.M.K F O H → EnvR Γ.M.K F ρ σ → Rep Γ.M.K F d v → EvG Γ tg v σ H fun σ' H' => wipe σ' own = wipe σ own ∧ KS Γ F Q σ' H'
def WGso (Γ : G) (own : List Nat) (tg : List Expr) (ds : List D) (ρ : Env') (O : Opens) (Q : Env' → Opens → Prop) : Prop := ∀ F σ H vs, Ext Γ.F0 F → Stt Γ.M.K F O H → EnvR Γ.M.K F ρ σ → Reps Γ.M.K F ds vs → EvGs Γ tg vs σ H fun σ' H' => wipe σ' own = wipe σ own ∧ KS Γ F Q σ' H'
section
variable {Γ : G} {ρ : Env'} {O : Opens} {own : List Nat}
theorem wgo_name {i : Nat} {x : Str} {pos : Pos} {d : D} {Q : Env' → Opens → Prop} (hN : Γ.N[i]? = some x) (hl : Loc Γ.ss x) (hi : i ∈ own) (h : Q (ρ.set i (some d)) O) : WGo Γ own (.Name x pos) d ρ O Q := fun F σ H v e0 s r rv X hX pins st u I ru => by
  obtain ⟨h1, h2⟩ := hX.fn x hl
  exact (pg_name (X := X) (i := i) (by rw [hX.N]; exact hX.nd) (by rw [hX.N]; exact hN) h1 h2).run pins st σ H v u _ I ru ⟨wipe_set σ _ hi, ks (Ext.refl F) s (r.set i rv) h⟩
theorem wgso_nil {Q : Env' → Opens → Prop} (h : Q ρ O) : WGso Γ own [] [] ρ O Q := fun F σ H vs e0 s r rv X hX pins st u I ru => by
  cases (show vs = [] from rv)
  exact pgs_nil.run pins st σ H _ u _ I ru ⟨rfl, rfl, ks (Ext.refl F) s r h⟩
theorem wgso_cons {e : Expr} {es : List Expr} {d : D} {ds : List D} {Q : Env' → Opens → Prop} (h : WGo Γ own e d ρ O fun ρ' O' => WGso Γ own es ds ρ' O' Q) (hs : ∀ env, (assignEach (e :: es) env).map (·.2) = assign e env :: (assignEach es env).map (·.2) := by intro _; rfl) : WGso Γ own (e :: es) (d :: ds) ρ O Q := fun F σ H vs e0 s r rv X hX pins st u I ru => by
  obtain ⟨v, t, rfl, h1, h2⟩ := rv
  refine (pgs_cons (EvG.pg hX e) (EvGs.pgs hX es) (hs X.env)).run pins st σ H _ u _ I ru ⟨v, t, rfl, (h F σ H v e0 s r h1).mono fun σ1 H1 ⟨w1, ρ1, F1, O1, e1, s1, r1, q1⟩ => ?_⟩
  exact fun X hX pins st u I ru => thn (q1 F1 σ1 H1 t (e0.trans e1) s1 r1 (h2.mono e1) X hX pins st u I ru) fun _ _ ⟨σ', H', I', w, q⟩ => ⟨σ', H', I', w.trans w1, KS.mono e1 (fun _ _ q => q) q⟩
theorem wgo_tup {es : List Expr} {k : Nat} {pos : Pos} {ds : List D} {Q : Env' → Opens → Prop} {n : Nat} (hh : Γ.hot = false) (hl : ds.length = n) (h : WGso Γ own es ds ρ O Q) (hn : ∀ env, (assignEach es env).length = n := by intro _; rfl) (hst : ∀ env, (assignEach es env).findIdx? (·.1) = none := by intro _; rfl) : WGo Γ own (.Tuple es k pos) (.tup ds) ρ O Q := fun F σ H v e0 s r rv X hX pins st u I ru => by
  obtain ⟨a, vs, rfl, h1, h2⟩ := rv
  exact (pg_tup (hX.calm hh) (EvGs.pgs hX es) (hn X.env) (hst X.env)).run pins st σ H _ u _ I ru ⟨a, vs, rfl, s.ext.seqT (hX.K ▸ h1), by rw [← h2.length]; exact hl, h F σ H vs e0 s r h2⟩
end
structure LcQ (Γ : G) (scope : Scope) (own : List Nat) (tg : Expr) (ifs : List Expr) (elt : Expr) (n : Nat) (it : Nat → Option D) (ρ : Env') (O : Opens) (Q : List D → Opens → Prop) (W : Nat → List D → Opens → Prop) : Prop where
  start : W 0 [] O
  turn : ∀ (F0 : Fr) i x acc O', i < n → it i = some x → W i acc O' → WGo (blkG Γ scope F0) own tg x (wipeD ρ own) O' fun ρ2 O2 =>
    WI (blkG Γ scope F0) ifs ρ2 O2 fun b O3 => if b = true then We (blkG Γ scope F0) elt ρ2 O3 fun y O4 => acc.length < sizeLine ∧ W (i + 1) (acc ++ [y]) O4 else W (i + 1) acc O3
  stop : ∀ acc O', W n acc O' → Q acc O'
/-- the state within: the new list at P left alone -/
def LcS (K : PySem.W.Frag) (F : Fr) (P : Addr) (W : List D → Opens → Prop) (H : Hp) : Prop := ∃ F' O' acc vs, Ext F F' ∧ Stt K ⟨F'.z, upd F.r P (.lst vs)⟩ O' H ∧ Reps K F' acc vs ∧ W acc O'
theorem reps_z {K : PySem.W.Frag} {F F' : Fr} {ds : List D} {vs : List V} (e : F.z = F'.z) (h : Reps K F ds vs) : Reps K F' ds vs := Reps.monoZ (fun a o q => by rw [← e]; exact q) _ _ h
theorem rep_z {K : PySem.W.Frag} {F F' : Fr} {d : D} {v : V} (e : F.z = F'.z) (h : Rep K F d v) : Rep K F' d v := Rep.monoZ (fun a o q => by rw [← e]; exact q) _ _ h
theorem env_z {K : PySem.W.Frag} {F F' : Fr} {ρ : Env'} {σ : L2.St} (e : F.z = F'.z) (h : EnvR K F ρ σ) : EnvR K F' ρ σ := ⟨h.len, fun i d q => by obtain ⟨v, h1, h2⟩ := h.get i d q; exact ⟨v, h1, rep_z e h2⟩⟩
/-- what is left alone besides is written -/
theorem Stt.app {K : PySem.W.Frag} {z r : Hp} {O : Opens} {H : Hp} {P : Addr} {o o' : HO} (S : Stt K ⟨z, upd r P o⟩ O H) : Stt K ⟨z, upd r P o'⟩ O (upd H P o') := by
  obtain ⟨g1, g2, g3⟩ := S.rst P o upd_same
  refine ⟨fun a u q => ?_, fun a u q => ?_, fun a u q => ?_⟩
  · have hz : z a = some u := q
    have ne : a ≠ P := fun e => by subst e; rw [show z a = none from g1] at hz; cases hz
    rw [upd_ne ne]; exact S.ext a u q
  · obtain ⟨h1, ho, h2, h3⟩ := S.opn a u q
    have ne : a ≠ P := fun e => by subst e; rw [g2] at q; cases q
    exact ⟨h1, ho, by rw [upd_ne ne]; exact h2, RepO.monoZ (F := ⟨z, upd r P o⟩) (F' := ⟨z, upd r P o'⟩) (fun _ _ w => w) h3⟩
  · have q : upd r P o' a = some u := q
    by_cases ha : a = P
    · subst ha
      rw [upd_same] at q
      exact ⟨g1, g2, by rw [upd_same]; exact q⟩
    · rw [upd_ne ha] at q
      obtain ⟨h1, h2, h3⟩ := S.rst a u (by show upd r P o a = some u; rw [upd_ne ha]; exact q)
      exact ⟨h1, h2, by rw [upd_ne ha]; exact h3⟩
section
variable {Γ : G} {ρ : Env'} {O : Opens} {Q : DK} {σ : L2.St} {H : Hp} {F : Fr} {scope : Scope} {own : List (Str × Nat)} {tg elt : Expr} {ifs : List Expr}
def BG (Γ : G) (scope : Scope) (tg : Expr) : TG := fun v σ H Q => ∃ F0, EvG (blkG Γ scope F0) tg v σ H Q
def BI (Γ : G) (scope : Scope) (ifs : List Expr) : TT := fun σ H Q => ∃ F0, EvI (blkG Γ scope F0) ifs σ H Q
def BE (Γ : G) (scope : Scope) (e : Expr) : TE := fun σ H Q => ∃ F0, Ev (blkG Γ scope F0) e σ H Q
/-- one turn of the block -/
theorem lc_turn {n : Nat} {it : Nat → Option D} {Ql : List D → Opens → Prop} {W : Nat → List D → Opens → Prop} {P : Addr} {i : Nat} {x : D} {v : V} {F1 F2 : Fr} {O2 : Opens} {acc : List D} {vs : List V} {H2 : Hp} {ρ0 : Env'} {O0 : Opens}
    (T : LcQ Γ scope (own.map (·.2)) tg ifs elt n it ρ0 O0 Ql W) (hi : i < n) (hx : it i = some x) (r : EnvR Γ.M.K F1 ρ0 σ) (e2 : Ext F1 F2) (s2 : Stt Γ.M.K ⟨F2.z, upd F1.r P (.lst vs)⟩ O2 H2) (ra : Reps Γ.M.K F2 acc vs) (w2 : W i acc O2) (rv : Rep Γ.M.K F2 x v) :
    BG Γ scope tg v (wipe σ (own.map (·.2))) H2 fun σ3 H3 => wipe σ3 (own.map (·.2)) = wipe σ (own.map (·.2)) ∧ BI Γ scope ifs σ3 H3 fun b H4 =>
      if b = true then BE Γ scope elt σ3 H4 fun y H5 => ∃ ac, H5 P = some (.lst ac) ∧ ac.length < sizeLine ∧ LcS Γ.M.K F1 P (W (i + 1)) (upd H5 P (.lst (ac ++ [y]))) else LcS Γ.M.K F1 P (W (i + 1)) H4 := by
  refine ⟨⟨F2.z, upd F1.r P (.lst vs)⟩, ?_⟩
  have hr : EnvR Γ.M.K ⟨F2.z, upd F1.r P (.lst vs)⟩ (wipeD ρ0 (own.map (·.2))) (wipe σ (own.map (·.2))) := env_z (F := F2) rfl (wipe_env (r.mono e2) _)
  have ww : ∀ (vs : List Nat) (τ : L2.St), wipe (wipe τ vs) vs = wipe τ vs := by
    intro vs τ
    have gen : ∀ (us : List Nat), (∀ j ∈ us, j ∈ vs) → ∀ τ : L2.St, wipe (wipe τ us) vs = wipe τ vs := by
      intro us
      induction us with
      | nil => intro _ τ; rfl
      | cons a us ih =>
        intro hm τ
        show wipe ((wipe τ us).set a none) vs = wipe τ vs
        rw [wipe_set _ _ (hm a List.mem_cons_self)]
        exact ih (fun j hj => hm j (List.mem_cons_of_mem _ hj)) τ
    exact gen vs (fun j hj => hj) τ
  refine (T.turn ⟨F2.z, upd F1.r P (.lst vs)⟩ i x acc O2 hi hx w2 ⟨F2.z, upd F1.r P (.lst vs)⟩ _ H2 v (Ext.refl _) s2 hr (rep_z (F := F2) rfl rv)).mono fun σ3 H3 ⟨wq, ρ3, F3, O3, e3, s3, r3, q3⟩ => ⟨wq.trans (ww _ _), ⟨F2.z, upd F1.r P (.lst vs)⟩, ?_⟩
  refine (q3.run e3 s3 r3).mono fun b H4 ⟨F4, O4, e4, s4, q4⟩ => ?_
  have e34 := e3.trans e4
  have fin : ∀ {F5 : Fr} {O5 : Opens} {H5 : Hp} {ac : List D} {us : List V}, Ext ⟨F2.z, upd F1.r P (.lst vs)⟩ F5 → Stt Γ.M.K ⟨F5.z, upd F1.r P (.lst us)⟩ O5 H5 → Reps Γ.M.K F5 ac us → W (i + 1) ac O5 → LcS Γ.M.K F1 P (W (i + 1)) H5 := fun {F5 O5 H5 ac us} e5 s5 r5 q5 =>
    ⟨⟨F5.z, F1.r⟩, O5, ac, us, ⟨fun a o q => e5.1 a o (e2.1 a o q), rfl⟩, s5, reps_z (F := F5) rfl r5, q5⟩
  cases b with
  | true =>
    have q4 := (show We (blkG Γ scope ⟨F2.z, upd F1.r P (.lst vs)⟩) elt ρ3 O4 _ by simpa using q4) F4 σ3 H4 e34 s4 (r3.mono e4)
    show BE Γ scope elt σ3 H4 _
    refine ⟨⟨F2.z, upd F1.r P (.lst vs)⟩, q4.mono fun y H5 ⟨d, F5, O5, e5, s5, r5, hz, q5⟩ => ?_⟩
    have e := e34.trans e5
    have hr5 : F5.r = upd F1.r P (.lst vs) := e.2
    have s5' : Stt Γ.M.K ⟨F5.z, upd F1.r P (.lst vs)⟩ O5 H5 := by
      have : (⟨F5.z, upd F1.r P (.lst vs)⟩ : Fr) = F5 := by rw [← hr5]
      rw [this]; exact s5
    have rv5 : Reps Γ.M.K F5 acc vs := Reps.mono e _ _ (reps_z (F := F2) rfl ra)
    obtain ⟨g1, g2, g3⟩ := s5'.rst P _ upd_same
    exact ⟨vs, g3, by rw [← rv5.length]; exact hz, fin e s5'.app (rv5.append (Reps.cons r5 Reps.nil)) q5⟩
  | false =>
    have q4 : W (i + 1) acc O4 := by simpa using q4
    have hr4 : F4.r = upd F1.r P (.lst vs) := e34.2
    have s4' : Stt Γ.M.K ⟨F4.z, upd F1.r P (.lst vs)⟩ O4 H4 := by
      have : (⟨F4.z, upd F1.r P (.lst vs)⟩ : Fr) = F4 := by rw [← hr4]
      rw [this]; exact s4
    exact fin e34 s4' (Reps.mono e34 _ _ (reps_z (F := F2) rfl ra)) q4
/-- the block's start -/
theorem lc_start {P : Addr} {W : List D → Opens → Prop} {F1 : Fr} {O1 : Opens} {H1 : Hp} (s : Stt Γ.M.K F1 O1 H1) (hp : H1 P = none) (w : W [] O1) : LcS Γ.M.K F1 P W (upd H1 P (.lst [])) := by
  refine ⟨F1, O1, [], [], Ext.refl F1, ⟨fun a u q => ?_, fun a u q => ?_, fun a u q => ?_⟩, rfl, w⟩
  · rw [upd_ne (ne_of_none (s.ext a u q) hp)]; exact s.ext a u q
  · obtain ⟨h1, ho, h2, h3⟩ := s.opn a u q
    exact ⟨h1, ho, by rw [upd_ne (ne_of_none h2 hp)]; exact h2, RepO.monoZ (F := F1) (F' := ⟨F1.z, upd F1.r P (.lst [])⟩) (fun _ _ w => w) h3⟩
  · have q : upd F1.r P (.lst []) a = some u := q
    by_cases ha : a = P
    · subst ha
      rw [upd_same] at q; cases q
      exact ⟨s.fresh hp, s.closed hp, upd_same⟩
    · rw [upd_ne ha] at q
      obtain ⟨h1, h2, h3⟩ := s.rst a u q
      exact ⟨h1, h2, by rw [upd_ne ha]; exact h3⟩
/-- .. and its end: the new list, frozen or open -/
theorem lc_end {P : Addr} {W : List D → Opens → Prop} {F1 : Fr} {H1 H2 : Hp} {O1 : Opens} (s : Stt Γ.M.K F1 O1 H1) (hp : H1 P = none) (h : LcS Γ.M.K F1 P W H2) : ∃ F' O' acc vs, Ext F1 F' ∧ F'.z P = none ∧ O' P = none ∧ H2 P = some (.lst vs) ∧ Stt Γ.M.K F' O' H2 ∧ Reps Γ.M.K F' acc vs ∧ W acc O' := by
  obtain ⟨F', O', acc, vs, e, s', r, w⟩ := h
  obtain ⟨g1, g2, g3⟩ := s'.rst P _ upd_same
  have hn : F1.r P = none := by
    cases q : F1.r P with
    | none => rfl
    | some u =>
      obtain ⟨_, _, h3⟩ := s.rst P u q
      rw [h3] at hp; cases hp
  refine ⟨F', O', acc, vs, e, g1, g2, g3, ⟨s'.ext, fun a u q => ?_, fun a u q => ?_⟩, r, w⟩
  · obtain ⟨h1, ho, h2, h3⟩ := s'.opn a u q
    exact ⟨h1, ho, h2, RepO.monoZ (F := ⟨F'.z, upd F1.r P (.lst vs)⟩) (F' := F') (fun _ _ w => w) h3⟩
  · rw [e.2] at q
    have ne : a ≠ P := fun z => by subst z; rw [hn] at q; cases q
    exact s'.rst a u (by show upd F1.r P (.lst vs) a = some u; rw [upd_ne ne]; exact q)
theorem lc_frozen {P : Addr} {W : List D → Opens → Prop} {F1 : Fr} {H1 H2 : Hp} {O1 : Opens} (s : Stt Γ.M.K F1 O1 H1) (hp : H1 P = none) (h : LcS Γ.M.K F1 P W H2) (hq : ∀ acc O', W acc O' → Q (.lst acc) O') : KV' Γ F1 Q (.ref P) H2 := by
  obtain ⟨F', O', acc, vs, e, g1, g2, g3, s', r, w⟩ := lc_end s hp h
  refine ⟨.lst acc, F'.add P (.lst vs), O', e.trans (Ext.new g1), ?_, rep_lst upd_same (r.mono (Ext.new g1)), hq _ _ w⟩
  refine ⟨fun a u q => ?_, fun a u q => ?_, fun a u q => ?_⟩
  · have q : upd F'.z P (.lst vs) a = some u := q
    by_cases ha : a = P
    · subst ha; rw [upd_same] at q; cases q; exact g3
    · rw [upd_ne ha] at q; exact s'.ext a u q
  · have ne : a ≠ P := fun z => by subst z; rw [g2] at q; cases q
    obtain ⟨h1, ho, h2, h3⟩ := s'.opn a u q
    exact ⟨by show upd F'.z P _ a = none; rw [upd_ne ne]; exact h1, ho, h2, h3.mono (Ext.new g1)⟩
  · have q' : F'.r a = some u := q
    have ne : a ≠ P := fun z => by
      subst z
      rw [e.2] at q'
      obtain ⟨_, _, h3⟩ := s.rst a u q'
      rw [h3] at hp; cases hp
    obtain ⟨h1, h2, h3⟩ := s'.rst a u q
    exact ⟨by show upd F'.z P _ a = none; rw [upd_ne ne]; exact h1, h2, h3⟩
theorem lc_opened {P : Addr} {W : List D → Opens → Prop} {F1 : Fr} {H1 H2 : Hp} {O1 : Opens} (s : Stt Γ.M.K F1 O1 H1) (hp : H1 P = none) (h : LcS Γ.M.K F1 P W H2) (hq : ∀ p acc O', O' p = none → W acc O' → Q (.raw (.ref p)) (O'.up p (.lst acc))) : KV' Γ F1 Q (.ref P) H2 := by
  obtain ⟨F', O', acc, vs, e, g1, g2, g3, s', r, w⟩ := lc_end s hp h
  refine ⟨.raw (.ref P), F', O'.up P (.lst acc), e, ?_, rep_raw, hq P acc O' g2 w⟩
  refine ⟨s'.ext, fun a u q => ?_, fun a u q => ?_⟩
  · by_cases ha : a = P
    · subst ha
      rw [Opens.up_same] at q; cases q
      exact ⟨g1, _, g3, vs, rfl, r⟩
    · rw [Opens.up_ne ha] at q
      exact s'.opn a u q
  · have q' : F'.r a = some u := q
    have ne : a ≠ P := fun z => by
      subst z
      rw [e.2] at q'
      obtain ⟨_, _, h3⟩ := s.rst a u q'
      rw [h3] at hp; cases hp
    obtain ⟨h1, h2, h3⟩ := s'.rst a u q
    exact ⟨h1, by rw [Opens.up_ne ne]; exact h2, h3⟩
theorem bg_pg {X : Cx} (hX : Γ.Has X) {s : Shared} {H : Hp} {C : Addr} {cl : List (Str × Addr)} {fp : List Addr} (tg : Expr) : PG (X.blk s H scope (compEnvC scope cl C X.env) fp) tg (BG Γ scope tg) :=
  ⟨fun pins s σ H v u Q I r ⟨F0, q⟩ => (EvG.pg (blkG_has hX) tg).run pins s σ H v u Q I r q⟩
theorem bi_pt {X : Cx} (hX : Γ.Has X) {s : Shared} {H : Hp} {C : Addr} {cl : List (Str × Addr)} {fp : List Addr} (ifs : List Expr) : PTs (X.blk s H scope (compEnvC scope cl C X.env) fp) ifs (BI Γ scope ifs) :=
  ⟨fun pins s σ H Q I ⟨F0, q⟩ => (EvI.pts (blkG_has hX) ifs).run pins s σ H Q I q⟩
theorem be_pe {X : Cx} (hX : Γ.Has X) {s : Shared} {H : Hp} {C : Addr} {cl : List (Str × Addr)} {fp : List Addr} (e : Expr) : PE (X.blk s H scope (compEnvC scope cl C X.env) fp) e (BE Γ scope e) :=
  ⟨fun pins s σ H Q I ⟨F0, q⟩ => (Ev.pe (blkG_has hX) e).run pins s σ H Q I q⟩
/-- the reading of the comprehension, whatever it walks -/
theorem lc_list_run {K' : PySem.W.Frag} (hK : Γ.M.K = K') {ds : List D} {vs : List V} {a : Addr} {F1 : Fr} {O1 : Opens} {H1 : Hp} {W : Nat → List D → Opens → Prop} {Ql : List D → Opens → Prop} {Qv : VK} (e0 : Ext Γ.F0 F1) (s1 : Stt Γ.M.K F1 O1 H1) (r : EnvR Γ.M.K F1 ρ σ) (g1 : SqL Γ.M.K F1.z a vs) (g2 : Reps Γ.M.K F1 ds vs)
    (T : LcQ Γ scope (own.map (·.2)) tg ifs elt ds.length (fun i => ds[i]?) ρ O1 Ql W) (hq : ∀ P H2, H1 P = none → LcS Γ.M.K F1 P (W ds.length) H2 → Qv (.ref P) H2) :
    ∀ P, H1 P = none → ∃ W' : Nat → Nat → Hp → Prop, (∃ m, W' 0 m (upd H1 P (.lst []))) ∧ ∀ i m H, W' i m H →
      ((Itl K' a).stop i H ∧ Qv (.ref P) H) ∨ ((Itl K' a).go i H ∧ ∃ Nx : Hp → Prop, (∀ H', Nx H' → ∃ m', m' < m ∧ W' (i + 1) m' H') ∧ ∀ x H', (Itl K' a).yld i H x H' → BG Γ scope tg x (wipe σ (own.map (·.2))) H' fun σ2 H2 => wipe σ2 (own.map (·.2)) = wipe σ (own.map (·.2)) ∧ BI Γ scope ifs σ2 H2 fun b H3 =>
        if b = true then BE Γ scope elt σ2 H3 fun y H4 => ∃ acc, H4 P = some (.lst acc) ∧ acc.length < sizeLine ∧ Nx (upd H4 P (.lst (acc ++ [y]))) else Nx H3) := fun P hP => by
  refine L2.lc_list (K := K') (a := a) (xs := vs) (D := P) (fun i H' => LcS Γ.M.K F1 P (W i) H') (lc_start s1 hP T.start) (fun i H' _ ⟨F', O', acc, us, e2, s2, _⟩ => ?_) (fun i v H' hi ⟨F', O', acc, us, e2, s2, ra, w2⟩ => ?_) (fun H' w => hq P H' hP (by rw [g2.length]; exact w))
  · exact s2.ext.seqL (seq_l e2.1 (hK ▸ g1))
  · obtain ⟨x, hx, rx⟩ := g2.back hi
    exact lc_turn T (List.getElem?_eq_some_iff.mp hx).1 hx r e2 s2 ra w2 (rx.mono e2)
theorem lc_tup_run {K' : PySem.W.Frag} (hK : Γ.M.K = K') {ds : List D} {vs : List V} {a : Addr} {F1 : Fr} {O1 : Opens} {H1 : Hp} {W : Nat → List D → Opens → Prop} {Ql : List D → Opens → Prop} {Qv : VK} (e0 : Ext Γ.F0 F1) (s1 : Stt Γ.M.K F1 O1 H1) (r : EnvR Γ.M.K F1 ρ σ) (g1 : SqT Γ.M.K F1.z a vs) (g2 : Reps Γ.M.K F1 ds vs)
    (T : LcQ Γ scope (own.map (·.2)) tg ifs elt ds.length (fun i => ds[i]?) ρ O1 Ql W) (hq : ∀ P H2, H1 P = none → LcS Γ.M.K F1 P (W ds.length) H2 → Qv (.ref P) H2) :
    ∀ P, H1 P = none → ∃ W' : Nat → Nat → Hp → Prop, (∃ m, W' 0 m (upd H1 P (.lst []))) ∧ ∀ i m H, W' i m H →
      ((Itt K' a).stop i H ∧ Qv (.ref P) H) ∨ ((Itt K' a).go i H ∧ ∃ Nx : Hp → Prop, (∀ H', Nx H' → ∃ m', m' < m ∧ W' (i + 1) m' H') ∧ ∀ x H', (Itt K' a).yld i H x H' → BG Γ scope tg x (wipe σ (own.map (·.2))) H' fun σ2 H2 => wipe σ2 (own.map (·.2)) = wipe σ (own.map (·.2)) ∧ BI Γ scope ifs σ2 H2 fun b H3 =>
        if b = true then BE Γ scope elt σ2 H3 fun y H4 => ∃ acc, H4 P = some (.lst acc) ∧ acc.length < sizeLine ∧ Nx (upd H4 P (.lst (acc ++ [y]))) else Nx H3) := fun P hP => by
  refine L2.lc_tup (K := K') (a := a) (xs := vs) (D := P) (fun i H' => LcS Γ.M.K F1 P (W i) H') (lc_start s1 hP T.start) (fun i H' _ ⟨F', O', acc, us, e2, s2, _⟩ => ?_) (fun i v H' hi ⟨F', O', acc, us, e2, s2, ra, w2⟩ => ?_) (fun H' w => hq P H' hP (by rw [g2.length]; exact w))
  · exact s2.ext.seqT (seq_t e2.1 (hK ▸ g1))
  · obtain ⟨x, hx, rx⟩ := g2.back hi
    exact lc_turn T (List.getElem?_eq_some_iff.mp hx).1 hx r e2 s2 ra w2 (rx.mono e2)
theorem lc_range_run {n : Nat} {lo : Int} {F1 : Fr} {O1 : Opens} {H1 : Hp} {W : Nat → List D → Opens → Prop} {Ql : List D → Opens → Prop} {Qv : VK} (e0 : Ext Γ.F0 F1) (s1 : Stt Γ.M.K F1 O1 H1) (r : EnvR Γ.M.K F1 ρ σ)
    (T : LcQ Γ scope (own.map (·.2)) tg ifs elt n (fun i => some (.int (lo + (i : Int)))) ρ O1 Ql W) (hq : ∀ P H2, H1 P = none → LcS Γ.M.K F1 P (W n) H2 → Qv (.ref P) H2) :
    ∀ P, H1 P = none → ∃ W' : Nat → Nat → Hp → Prop, (∃ m, W' 0 m (upd H1 P (.lst []))) ∧ ∀ i m H, W' i m H →
      ((Itr lo n).stop i H ∧ Qv (.ref P) H) ∨ ((Itr lo n).go i H ∧ ∃ Nx : Hp → Prop, (∀ H', Nx H' → ∃ m', m' < m ∧ W' (i + 1) m' H') ∧ ∀ x H', (Itr lo n).yld i H x H' → BG Γ scope tg x (wipe σ (own.map (·.2))) H' fun σ2 H2 => wipe σ2 (own.map (·.2)) = wipe σ (own.map (·.2)) ∧ BI Γ scope ifs σ2 H2 fun b H3 =>
        if b = true then BE Γ scope elt σ2 H3 fun y H4 => ∃ acc, H4 P = some (.lst acc) ∧ acc.length < sizeLine ∧ Nx (upd H4 P (.lst (acc ++ [y]))) else Nx H3) := fun P hP => by
  refine L2.lc_range (lo := lo) (n := n) (D := P) (fun i H' => LcS Γ.M.K F1 P (W i) H') (lc_start s1 hP T.start) (fun i H' hi ⟨F', O', acc, us, e2, s2, ra, w2⟩ => ?_) (fun H' w => hq P H' hP w)
  exact lc_turn T hi rfl r e2 s2 ra w2 rep_int
/-- the frozen end, the open end, told of the wish -/
def LcF (Q : DK) : List D → Opens → Prop := fun acc O' => Q (.lst acc) O'
def LcO (Q : DK) : List D → Opens → Prop := fun acc O' => ∀ p, O' p = none → Q (.raw (.ref p)) (O'.up p (.lst acc))
theorem we_lcG {op : Bool} {iter : Expr} {pos : Pos} {wi : G → TI} (hh : Γ.hot = false) (ok : blkC Γ.N Γ.sc scope own = true)
    (hpi : ∀ X, Γ.Has X → PI X tg iter (wi Γ)) (hrun : ∀ F σ H, Ext Γ.F0 F → Stt Γ.M.K F O H → EnvR Γ.M.K F ρ σ → tLc (wi Γ) (BG Γ scope tg) (BI Γ scope ifs) (BE Γ scope elt) (own.map (·.2)) σ H (KV' Γ F Q))
    (hs : ∀ env x, foldedSetIterable iter env x = pure x := by intro _ _; rfl) : We Γ (.ListComp elt [⟨tg, iter, ifs, 0⟩] scope pos) ρ O Q := fun F σ H e0 s r X hX pins sh I =>
  (pe_lc (hX.calm hh) (by rw [hX.N]; exact hX.nd) (hpi X hX) (by rw [hX.N, hX.sc]; exact blkOk_by ok) (fun s H C cl fp => bg_pg hX tg) (fun s H C cl fp => bi_pt hX ifs) (fun s H C cl fp => be_pe hX elt) (hs X.env)).run pins sh σ H _ I (hrun F σ H e0 s r)
theorem KV'.at {F F1 : Fr} (e : Ext F F1) {v : V} {H : Hp} (k : KV' Γ F1 Q v H) : KV' Γ F Q v H := KV'.mono e (fun _ _ q => q) k
/-- over a list: fr, the new one is frozen; else left open -/
theorem we_lcL {iter : Expr} {pos : Pos} (hh : Γ.hot = false) (ok : blkC Γ.N Γ.sc scope own = true) (h : We Γ iter ρ O fun d O1 => ∃ ds, (d = .lst ds ∨ d = .rls ds) ∧ ∃ W, LcQ Γ scope (own.map (·.2)) tg ifs elt ds.length (fun i => ds[i]?) ρ O1 (LcF Q) W)
    (hs : ∀ env x, foldedSetIterable iter env x = pure x := by intro _ _; rfl) : We Γ (.ListComp elt [⟨tg, iter, ifs, 0⟩] scope pos) ρ O Q := fun F σ H e0 s r X hX pins sh I => by
  refine (pe_lc (own := own) (hX.calm hh) (by rw [hX.N]; exact hX.nd) (pi_list (Ev.pe hX iter)) (by rw [hX.N, hX.sc]; exact blkOk_by ok) (fun s H C cl fp => bg_pg hX tg) (fun s H C cl fp => bi_pt hX ifs) (fun s H C cl fp => be_pe hX elt) (hs X.env)).run pins sh σ H _ I ((h F σ H e0 s r).mono fun v H1 ⟨d, F1, O1, e1, s1, r1, ds, hd, W, T⟩ => ?_)
  have hl : ∃ a vs, v = .ref a ∧ SqL Γ.M.K F1.z a vs ∧ Reps Γ.M.K F1 ds vs := by
    rcases hd with rfl | rfl
    · obtain ⟨a, vs, e, g1, g2⟩ := r1
      exact ⟨a, vs, e, SqL.of g1, g2⟩
    · exact r1
  obtain ⟨a, vs, rfl, g1, g2⟩ := hl
  exact ⟨a, rfl, ⟨vs, s1.ext.seqL (hX.K ▸ g1)⟩, lc_list_run hX.K (e0.trans e1) s1 (r.mono e1) g1 g2 T fun P H2 hP w => KV'.at e1 (lc_frozen s1 hP w T.stop)⟩
theorem we_lcT {iter : Expr} {pos : Pos} (hh : Γ.hot = false) (ok : blkC Γ.N Γ.sc scope own = true) (h : We Γ iter ρ O fun d O1 => ∃ ds, d = .tup ds ∧ ∃ W, LcQ Γ scope (own.map (·.2)) tg ifs elt ds.length (fun i => ds[i]?) ρ O1 (LcF Q) W)
    (hs : ∀ env x, foldedSetIterable iter env x = pure x := by intro _ _; rfl) : We Γ (.ListComp elt [⟨tg, iter, ifs, 0⟩] scope pos) ρ O Q := fun F σ H e0 s r X hX pins sh I => by
  refine (pe_lc (own := own) (hX.calm hh) (by rw [hX.N]; exact hX.nd) (pi_tup (Ev.pe hX iter)) (by rw [hX.N, hX.sc]; exact blkOk_by ok) (fun s H C cl fp => bg_pg hX tg) (fun s H C cl fp => bi_pt hX ifs) (fun s H C cl fp => be_pe hX elt) (hs X.env)).run pins sh σ H _ I ((h F σ H e0 s r).mono fun v H1 ⟨d, F1, O1, e1, s1, r1, ds, hd, W, T⟩ => ?_)
  subst hd
  obtain ⟨a, vs, rfl, g1, g2⟩ := r1
  exact ⟨a, rfl, ⟨vs, s1.ext.seqT (hX.K ▸ g1)⟩, lc_tup_run hX.K (e0.trans e1) s1 (r.mono e1) g1 g2 T fun P H2 hP w => KV'.at e1 (lc_frozen s1 hP w T.stop)⟩
theorem we_lcR {a : Expr} {p p2 pos : Pos} (hh : Γ.hot = false) (hg : GlN Γ "range") (hm : Γ.M.mg "range" = none) (ok : blkC Γ.N Γ.sc scope own = true) (h : We Γ a ρ O fun d O1 => ∃ n : Int, d = .int n ∧ -(2 ^ 62) ≤ n ∧ n < 2 ^ 62 ∧ ∃ W, LcQ Γ scope (own.map (·.2)) tg ifs elt n.toNat (fun i => some (.int (0 + (i : Int)))) ρ O1 (LcF Q) W)
    (h1 : ∀ env, starEach [a] env = [(false, eval a env)] := by intro _; rfl) (hs : ∀ env x, foldedSetIterable (.Call (.Name "range" p) [a] [] p2) env x = pure x := by intro _ _; rfl) : We Γ (.ListComp elt [⟨tg, .Call (.Name "range" p) [a] [] p2, ifs, 0⟩] scope pos) ρ O Q := fun F σ H e0 s r X hX pins sh I => by
  refine (pe_lc (own := own) (hX.calm hh) (by rw [hX.N]; exact hX.nd) (pi_range1 (hX.gl hg) (by rw [← hX.mg]; exact hm) (pa_cons (Ev.pe hX a) pa_nil (h1 X.env)) (h1 X.env)) (by rw [hX.N, hX.sc]; exact blkOk_by ok) (fun s H C cl fp => bg_pg hX tg) (fun s H C cl fp => bi_pt hX ifs) (fun s H C cl fp => be_pe hX elt) (hs X.env)).run pins sh σ H _ I ((h F σ H e0 s r).mono fun v H1 ⟨d, F1, O1, e1, s1, r1, n, hd, b1, b2, W, T⟩ => ?_)
  subst hd
  cases r1
  exact ⟨n, rfl, b1, b2, lc_range_run (e0.trans e1) s1 (r.mono e1) T fun P H2 hP w => KV'.at e1 (lc_frozen s1 hP w T.stop)⟩
theorem we_lcRO {a : Expr} {p p2 pos : Pos} (hh : Γ.hot = false) (hg : GlN Γ "range") (hm : Γ.M.mg "range" = none) (ok : blkC Γ.N Γ.sc scope own = true) (h : We Γ a ρ O fun d O1 => ∃ n : Int, d = .int n ∧ -(2 ^ 62) ≤ n ∧ n < 2 ^ 62 ∧ ∃ W, LcQ Γ scope (own.map (·.2)) tg ifs elt n.toNat (fun i => some (.int (0 + (i : Int)))) ρ O1 (LcO Q) W)
    (h1 : ∀ env, starEach [a] env = [(false, eval a env)] := by intro _; rfl) (hs : ∀ env x, foldedSetIterable (.Call (.Name "range" p) [a] [] p2) env x = pure x := by intro _ _; rfl) : We Γ (.ListComp elt [⟨tg, .Call (.Name "range" p) [a] [] p2, ifs, 0⟩] scope pos) ρ O Q := fun F σ H e0 s r X hX pins sh I => by
  refine (pe_lc (own := own) (hX.calm hh) (by rw [hX.N]; exact hX.nd) (pi_range1 (hX.gl hg) (by rw [← hX.mg]; exact hm) (pa_cons (Ev.pe hX a) pa_nil (h1 X.env)) (h1 X.env)) (by rw [hX.N, hX.sc]; exact blkOk_by ok) (fun s H C cl fp => bg_pg hX tg) (fun s H C cl fp => bi_pt hX ifs) (fun s H C cl fp => be_pe hX elt) (hs X.env)).run pins sh σ H _ I ((h F σ H e0 s r).mono fun v H1 ⟨d, F1, O1, e1, s1, r1, n, hd, b1, b2, W, T⟩ => ?_)
  subst hd
  cases r1
  exact ⟨n, rfl, b1, b2, lc_range_run (e0.trans e1) s1 (r.mono e1) T fun P H2 hP w => KV'.at e1 (lc_opened s1 hP w fun p acc O' hp w' => T.stop acc O' w' p hp)⟩
end
end DL

/-! DLF: rules: calls of built-ins, methods of texts and lists, f-strings. -/
namespace DL
open PySem PySem.Spec PyProof.Rows L2

/-! ### calls of built-ins -/
abbrev DC := List D → Opens → DK → Prop
def CallD (Γ : G) (X : Cx) (f : Value) (t : DC) : Prop :=
  ∀ (F : Fr) (O : Opens) (ds : List D) (Q : DK) (pins : List (Addr × Obj)) (s : Shared) (σ : L2.St) (H : Hp) (vs : List V) (us : List Value), Inv X pins σ H s → Vals vs us → Ext Γ.F0 F → Stt Γ.M.K F O H → Reps Γ.M.K F ds vs → t ds O Q →
    wpAny (model X.prog X.w) X.A (call f us) (EP X pins σ (KV' Γ F Q)) X.xe s
section
variable {Γ : G} {ρ : Env'} {O : Opens} {Z : EndsD} {Q : DK} {σ : L2.St} {H : Hp} {F : Fr} {x : Str}
theorem CallD.r {X : Cx} {f : Value} {t : DC} (h : CallD Γ X f t) : CallR X f (fun vs H Qv => ∃ F O ds Q, Ext Γ.F0 F ∧ Stt Γ.M.K F O H ∧ Reps Γ.M.K F ds vs ∧ t ds O Q ∧ ∀ v H', KV' Γ F Q v H' → Qv v H') := by
  intro pins s σ H vs us Qv I rv ⟨F, O, ds, Q, e0, S, rd, ht, m⟩
  exact thn (h F O ds Q pins s σ H vs us I rv e0 S rd ht) fun _ _ k => EP.mono m k
theorem args_run {es : List Expr} {t : DC} (e0 : Ext Γ.F0 F) (s : Stt Γ.M.K F O H) (r : EnvR Γ.M.K F ρ σ) (h : WA Γ es ρ O fun ds O1 => t ds O1 Q) :
    EvA Γ es σ H fun vs H1 => ∃ F1 O1 ds Q1, Ext Γ.F0 F1 ∧ Stt Γ.M.K F1 O1 H1 ∧ Reps Γ.M.K F1 ds vs ∧ t ds O1 Q1 ∧ ∀ v H', KV' Γ F1 Q1 v H' → KV' Γ F Q v H' :=
  (h F σ H e0 s r).mono fun vs H1 ⟨ds, F1, O1, e1, s1, r1, q1⟩ => ⟨F1, O1, ds, Q, e0.trans e1, s1, r1, q1, fun v H' k => KV'.at e1 k⟩
theorem we_blt {id : String} {t : DC} {p pos : Pos} {e : Expr} {es : List Expr} (hc : ∀ X, Γ.Has X → CallD Γ X (.builtin id) t) (hg : GlN Γ x) (hm : Γ.M.mg x = none) (hv : bootBuiltins x = some (.builtin id)) (h : WA Γ (e :: es) ρ O fun ds O1 => t ds O1 Q)
    (hn : x ≠ "__name__" := by decide) (hdb : (x == ("__debug__" : Str)) = false := by decide) (he : ∀ env, starEach (e :: es) env = (false, eval e env) :: starEach es env := by intro _; rfl) (hpl : ∀ env, (backTo pos (starEach es env)).any (·.1) = false := by intro _; rfl) : We Γ (.Call (.Name x p) (e :: es) [] pos) ρ O Q := fun F σ H e0 s r X hX pins st I =>
  (pe_callB (hc X hX).r (hX.gl hg) (by rw [← hX.mg]; exact hm) hv (EvA.pa hX _) hn hdb (he X.env) (hpl X.env)).run pins st σ H _ I (args_run e0 s r h)
theorem we_typ {id : String} {t : DC} {p pos : Pos} {e : Expr} {es : List Expr} (hc : ∀ X, Γ.Has X → CallD Γ X (.type id) t) (hg : GlN Γ x) (hm : Γ.M.mg x = none) (hv : bootBuiltins x = some (.type id)) (h : WA Γ (e :: es) ρ O fun ds O1 => t ds O1 Q)
    (hn : x ≠ "__name__" := by decide) (hdb : (x == ("__debug__" : Str)) = false := by decide) (he : ∀ env, starEach (e :: es) env = (false, eval e env) :: starEach es env := by intro _; rfl) (hpl : ∀ env, (backTo pos (starEach es env)).any (·.1) = false := by intro _; rfl) : We Γ (.Call (.Name x p) (e :: es) [] pos) ρ O Q := fun F σ H e0 s r X hX pins st I =>
  (pe_callTy (hc X hX).r (hX.gl hg) (by rw [← hX.mg]; exact hm) hv (EvA.pa hX _) hn hdb (he X.env) (hpl X.env)).run pins st σ H _ I (args_run e0 s r h)
theorem reps1 {K : PySem.W.Frag} {d : D} {vs : List V} (h : Reps K F [d] vs) : ∃ v, vs = [v] ∧ Rep K F d v := by
  obtain ⟨v, t, rfl, h1, h2⟩ := h
  cases (show t = [] from h2)
  exact ⟨v, rfl, h1⟩
theorem reps2 {K : PySem.W.Frag} {d e : D} {vs : List V} (h : Reps K F [d, e] vs) : ∃ v w, vs = [v, w] ∧ Rep K F d v ∧ Rep K F e w := by
  obtain ⟨v, t, rfl, h1, h2⟩ := h
  obtain ⟨w, rfl, h3⟩ := reps1 h2
  exact ⟨v, w, rfl, h1, h3⟩
/-- len -/
def LenQ : DC := fun ds O Q => match ds with
  | [.str z] => z.length ≤ sizeLine ∧ Q (.int z.length) O
  | [.tup xs] => Q (.int xs.length) O
  | [.lst xs] => Q (.int xs.length) O
  | [.rls xs] => Q (.int xs.length) O
  | [.raw (.ref a)] => ∃ xs, O a = some (.lst xs) ∧ Q (.int xs.length) O
  | _ => False
theorem len_ok {X : Cx} (hX : Γ.Has X) : CallD Γ X (.builtin "len") LenQ := by
  intro F O ds Q pins s σ H vs us I rv e0 S rd h
  have hK := hX.K
  unfold LenQ at h
  split at h
  · obtain ⟨v, rfl, r⟩ := reps1 rd
    cases r
    exact call_len pins s σ H _ _ _ I rv ⟨_, _, rfl, ⟨h.1, rfl⟩, kv S rep_int h.2⟩
  · obtain ⟨v, rfl, a, ys, rfl, h1, h2⟩ := reps1 rd
    exact call_len pins s σ H _ _ _ I rv ⟨_, _, rfl, .inr ⟨ys, S.ext.seqT (hK ▸ h1), rfl⟩, kv S rep_int (by rw [← h2.length]; exact h)⟩
  · obtain ⟨v, rfl, a, ys, rfl, h1, h2⟩ := reps1 rd
    exact call_len pins s σ H _ _ _ I rv ⟨_, _, rfl, .inl ⟨ys, SqL.of (S.ext _ _ h1), rfl⟩, kv S rep_int (by rw [← h2.length]; exact h)⟩
  · obtain ⟨v, rfl, a, ys, rfl, h1, h2⟩ := reps1 rd
    exact call_len pins s σ H _ _ _ I rv ⟨_, _, rfl, .inl ⟨ys, S.ext.seqL (hK ▸ h1), rfl⟩, kv S rep_int (by rw [← h2.length]; exact h)⟩
  · obtain ⟨v, rfl, r⟩ := reps1 rd
    cases r
    obtain ⟨xs, ho, q⟩ := h
    obtain ⟨ws, h1, h2⟩ := S.list ho
    exact call_len pins s σ H _ _ _ I rv ⟨_, _, rfl, .inl ⟨ws, SqL.of h1, rfl⟩, kv S rep_int (by rw [← h2.length]; exact q)⟩
  · exact h.elim
/-- the built-in types that are asked for -/
inductive Ty | non | bool | int | str | tuple | list | dict
  deriving DecidableEq
def Ty.name : Ty → String
  | .non => "NoneType" | .bool => "bool" | .int => "int" | .str => "str" | .tuple => "tuple" | .list => "list" | .dict => "dict"
def isi (a b : Ty) : Bool := decide (a = b) || (decide (a = .bool) && decide (b = .int))
theorem kit_tab (a b : Ty) : kitB a.name b.name = some (isi a b) := by
  cases a <;> cases b <;> decide +kernel
def tyD (O : Opens) : D → Option Ty
  | .non => some .non
  | .bl _ => some .bool
  | .int _ => some .int
  | .str _ => some .str
  | .tup _ => some .tuple
  | .lst _ => some .list
  | .rls _ => some .list
  | .dic _ _ => some .dict
  | .raw (.ref a) => (match O a with | some (.lst _) => some .list | some (.dic _ _) => some .dict | some (.lkd _ _ _ _) => some .dict | _ => none)
  | _ => none
theorem ty_ok {X : Cx} (hX : Γ.Has X) {d : D} {v : V} {t : Ty} (S : Stt Γ.M.K F O H) (r : Rep Γ.M.K F d v) (e : tyD O d = some t) : TyX X.K H v (.type t.name) := by
  have hK := hX.K
  cases d with
  | non => cases e; cases r; exact .base .non
  | bl b => cases e; cases r; exact .base (.bl b)
  | int b => cases e; cases r; exact .base (.int b)
  | str b => cases e; cases r; exact .base (.str b)
  | tup ds =>
    cases e
    obtain ⟨a, ys, rfl, h1, h2⟩ := r
    rcases h1 with (h1 | ⟨o, h1⟩) | ⟨o, its, n, h1, h3, _⟩
    · exact .base (.tup (S.ext _ _ h1))
    · exact .fTuple (S.ext _ _ h1)
    · exact .kTuple (hK ▸ h1) h3
  | lst ds =>
    cases e
    obtain ⟨a, ys, rfl, h1, h2⟩ := r
    exact .base (.lst (S.ext _ _ h1))
  | rls ds =>
    cases e
    obtain ⟨a, ys, rfl, h1, h2⟩ := r
    rcases h1 with (h1 | ⟨o, h1⟩) | ⟨o, its, n, h1, h3, _⟩
    · exact .base (.lst (S.ext _ _ h1))
    · exact .base (.frz (S.ext _ _ h1))
    · exact .kList (hK ▸ h1) h3
  | dic ks ds =>
    cases e
    obtain ⟨a, ys, rfl, h1, h2⟩ := r
    exact .base (.dK (S.ext _ _ h1))
  | raw x =>
    cases r
    cases v with
    | ref a =>
      have e : (match O a with | some (.lst _) => some Ty.list | some (.dic _ _) => some .dict | some (.lkd _ _ _ _) => some .dict | _ => none) = some t := e
      split at e
      · rename_i ds ho
        cases e
        obtain ⟨vs, h1, _⟩ := S.list ho
        exact .base (.lst h1)
      · rename_i ks ds ho
        cases e
        obtain ⟨_, ho', h1, vs, rfl, _⟩ := S.opn a _ ho
        exact .base (.dK h1)
      · rename_i od kvs ks ds ho
        cases e
        obtain ⟨_, ho', h1, rfl, _⟩ := S.opn a _ ho
        exact .fDict h1
      · cases e
    | _ => cases e
  | obj _ _ _ => cases e
  | exc _ _ _ => cases e
def tyd (T : Ty) : D := .raw (.ty T.name)
/-- isinstance(d, T), isinstance(d, (T1, T2, ..)) -/
def IsiQ : DC := fun ds O Q => match ds with
  | [d, .raw (.ty n)] => ∃ (a b : Ty), tyD O d = some a ∧ n = Ty.name b ∧ Q (.bl (isi a b)) O
  | [d, .tup ts] => ∃ (a : Ty) (bs : List Ty), tyD O d = some a ∧ ts = bs.map tyd ∧ Q (.bl (bs.any (isi a))) O
  | _ => False
theorem kit_any {K : PySem.W.Frag} (a : Ty) : ∀ bs : List Ty, PySem.W.kitAny K (.type a.name) (bs.map fun b => Value.type b.name) = some (bs.any (isi a))
  | [] => kitAny_nil
  | b :: bs => kitAny_cons (kit_ty (kit_tab a b)) (fun h => by rw [kit_any a bs, List.any_cons, h]; rfl) fun h => by rw [List.any_cons, h]; rfl
theorem cls_tys {K : PySem.W.Frag} : ∀ {bs : List Ty} {vs : List V}, Reps K F (bs.map tyd) vs → Paired ClsV vs (bs.map fun b => Value.type b.name)
  | [], vs, h => by cases (show vs = [] from h); exact .nil
  | b :: bs, vs, h => by
    obtain ⟨v, t, rfl, h1, h2⟩ := h
    cases (show v = .ty b.name from h1)
    exact .cons (.ty _) (cls_tys h2)
theorem isi_ok {X : Cx} (hX : Γ.Has X) : CallD Γ X (.builtin "isinstance") IsiQ := by
  intro F O ds Q pins s σ H vs us I rv e0 S rd h
  have hK := hX.K
  unfold IsiQ at h
  split at h
  · obtain ⟨v, w, rfl, r1, r2⟩ := reps2 rd
    cases r2
    obtain ⟨a, b, h1, rfl, q⟩ := h
    exact call_isi pins s σ H _ _ _ I rv ⟨v, _, _, _, _, rfl, .ty _, ty_ok hX S r1 h1, kit_ty (kit_tab a b), kv S rep_bl q⟩
  · obtain ⟨v, w, rfl, r1, a', ys, rfl, g1, g2⟩ := reps2 rd
    obtain ⟨a, bs, h1, rfl, q⟩ := h
    rcases g1 with (g1 | ⟨o, g1⟩) | ⟨o, its, n, g1, g3, g4, g5, g6⟩
    · exact call_isiT pins s σ H _ _ _ I rv ⟨v, a', ys, _, _, _, rfl, S.ext _ _ g1, cls_tys g2, ty_ok hX S r1 h1, kit_any a bs, kv S rep_bl q⟩
    · have ho : H a' = some (.frz o (.tup ys)) := S.ext _ _ g1
      obtain ⟨hq, hz, its, rr, p⟩ := I.hok a' _ ho
      obtain ⟨u1, u2, rfl, q1, q2⟩ := vals2 rv
      cases (show u2 = Value.ref a' from q2)
      obtain ⟨P, Zk, pk, hx⟩ := kit_of I q1 (ty_ok hX S r1 h1)
      obtain ⟨o', h1', h2', n, h3'⟩ := p
      have e3 := ClsV.all (cls_tys g2) rr
      subst e3
      obtain ⟨oc, od, dt, sl⟩ := o'
      simp only at h2' h3'
      subst h2' h3'
      exact PySem.W.kia_tup Zk I.kIn pk h1' (kit_any a bs) hx fun tk => ⟨.bl _, H, I.tok tk, rfl, kv S rep_bl q⟩
    · obtain ⟨u1, u2, rfl, q1, q2⟩ := vals2 rv
      cases (show u2 = Value.ref a' from q2)
      obtain ⟨P, Zk, pk, hx⟩ := kit_of I q1 (ty_ok hX S r1 h1)
      have e3 := ClsV.all (cls_tys g2) g6
      obtain ⟨oc, od, dt, sl⟩ := o
      simp only at g3 g4
      subst g3 g4
      have e4 : its = (bs.map fun b => Value.type b.name).toArray := by rw [← e3]
      subst e4
      have hl := I.kIn a' _ (show X.K.lookup a' = some _ from hK ▸ g1)
      exact PySem.W.kia_tup Zk I.kIn pk hl (kit_any a bs) hx fun tk => ⟨.bl _, H, I.tok tk, rfl, kv S rep_bl q⟩
  · exact h.elim
/-- abs, int, str, tuple, list -/
def AbsQ : DC := fun ds O Q => match ds with
  | [.int i] => Q (.int (if i < 0 then -i else i)) O
  | _ => False
theorem abs_ok {X : Cx} : CallD Γ X (.builtin "abs") AbsQ := by
  intro F O ds Q pins s σ H vs us I rv e0 S rd h
  unfold AbsQ at h
  split at h
  · obtain ⟨v, rfl, r⟩ := reps1 rd
    cases r
    exact call_abs pins s σ H _ _ _ I rv ⟨_, rfl, kv S rep_int h⟩
  · exact h.elim
def IntQ : DC := fun ds O Q => match ds with
  | [.int i] => Q (.int i) O
  | [.bl b] => Q (.int (if b then 1 else 0)) O
  | [.str z] => ∃ n, PySem.intText? z = some n ∧ z.length ≤ 640 ∧ Q (.int n) O
  | _ => False
theorem int_ok {X : Cx} : CallD Γ X (.type "int") IntQ := by
  intro F O ds Q pins s σ H vs us I rv e0 S rd h
  unfold IntQ at h
  split at h
  · obtain ⟨v, rfl, r⟩ := reps1 rd
    cases r
    exact call_int1 pins s σ H _ _ _ I rv (.inl ⟨_, rfl, kv S rep_int h⟩)
  · obtain ⟨v, rfl, r⟩ := reps1 rd
    cases r
    exact call_int1 pins s σ H _ _ _ I rv (.inr ⟨_, rfl, kv S rep_int h⟩)
  · obtain ⟨v, rfl, r⟩ := reps1 rd
    cases r
    obtain ⟨n, h1, h2, q⟩ := h
    exact call_int_str pins s σ H _ _ _ I rv ⟨_, n, rfl, h1, h2, kv S rep_int q⟩
  · exact h.elim
def StrQ : DC := fun ds O Q => match ds with
  | [.int i] => i.natAbs.log2 < 1920 ∧ Q (.str (toString i)) O
  | [.str z] => Q (.str z) O
  | _ => False
theorem str_ok {X : Cx} : CallD Γ X (.type "str") StrQ := by
  intro F O ds Q pins s σ H vs us I rv e0 S rd h
  unfold StrQ at h
  split at h
  · obtain ⟨v, rfl, r⟩ := reps1 rd
    cases r
    exact call_str_int pins s σ H _ _ _ I rv ⟨_, rfl, h.1, kv S rep_str h.2⟩
  · obtain ⟨v, rfl, r⟩ := reps1 rd
    cases r
    exact SkE.call_str_str pins s σ H _ _ _ I rv ⟨_, rfl, kv S rep_str h⟩
  · exact h.elim
def TupQ : DC := fun ds O Q => match ds with
  | [.tup xs] => Q (.tup xs) O
  | [.lst xs] => Q (.tup xs) O
  | [.rls xs] => Q (.tup xs) O
  | [.raw (.ref a)] => ∃ xs, O a = some (.lst xs) ∧ Q (.tup xs) O
  | _ => False
theorem tup_ok {X : Cx} (hX : Γ.Has X) : CallD Γ X (.type "tuple") TupQ := by
  intro F O ds Q pins s σ H vs us I rv e0 S rd h
  have hK := hX.K
  unfold TupQ at h
  split at h
  · obtain ⟨v, rfl, a, ys, rfl, h1, h2⟩ := reps1 rd
    exact call_tuple_of pins s σ H _ _ _ I rv ⟨a, ys, rfl, .inr ⟨S.ext.seqT (hK ▸ h1), kv S (rep_tup h1 h2) h⟩⟩
  · obtain ⟨v, rfl, a, ys, rfl, h1, h2⟩ := reps1 rd
    exact call_tuple_of pins s σ H _ _ _ I rv ⟨a, ys, rfl, .inl ⟨SqL.of (S.ext _ _ h1), fun l hl => kv_tup S hl h2 h⟩⟩
  · obtain ⟨v, rfl, a, ys, rfl, h1, h2⟩ := reps1 rd
    exact call_tuple_of pins s σ H _ _ _ I rv ⟨a, ys, rfl, .inl ⟨S.ext.seqL (hK ▸ h1), fun l hl => kv_tup S hl h2 h⟩⟩
  · obtain ⟨v, rfl, r⟩ := reps1 rd
    cases r
    obtain ⟨xs, ho, q⟩ := h
    obtain ⟨ws, h1, h2⟩ := S.list ho
    exact call_tuple_of pins s σ H _ _ _ I rv ⟨_, ws, rfl, .inl ⟨SqL.of h1, fun l hl => kv_tup S hl h2 q⟩⟩
  · exact h.elim
def LstQ : DC := fun ds O Q => match ds with
  | [.tup xs] => Q (.lst xs) O
  | [.lst xs] => Q (.lst xs) O
  | [.rls xs] => Q (.lst xs) O
  | [.raw (.ref a)] => ∃ xs, O a = some (.lst xs) ∧ Q (.lst xs) O
  | _ => False
theorem lst_ok {X : Cx} (hX : Γ.Has X) : CallD Γ X (.type "list") LstQ := by
  intro F O ds Q pins s σ H vs us I rv e0 S rd h
  have hK := hX.K
  unfold LstQ at h
  split at h
  · obtain ⟨v, rfl, a, ys, rfl, h1, h2⟩ := reps1 rd
    exact call_list_of pins s σ H _ _ _ I rv ⟨a, ys, rfl, .inr (S.ext.seqT (hK ▸ h1)), fun l hl => kv_lst S hl h2 h⟩
  · obtain ⟨v, rfl, a, ys, rfl, h1, h2⟩ := reps1 rd
    exact call_list_of pins s σ H _ _ _ I rv ⟨a, ys, rfl, .inl (SqL.of (S.ext _ _ h1)), fun l hl => kv_lst S hl h2 h⟩
  · obtain ⟨v, rfl, a, ys, rfl, h1, h2⟩ := reps1 rd
    exact call_list_of pins s σ H _ _ _ I rv ⟨a, ys, rfl, .inl (S.ext.seqL (hK ▸ h1)), fun l hl => kv_lst S hl h2 h⟩
  · obtain ⟨v, rfl, r⟩ := reps1 rd
    cases r
    obtain ⟨xs, ho, q⟩ := h
    obtain ⟨ws, h1, h2⟩ := S.list ho
    exact call_list_of pins s σ H _ _ _ I rv ⟨_, ws, rfl, .inl (SqL.of h1), fun l hl => kv_lst S hl h2 q⟩
  · exact h.elim
theorem reps_bl {K : PySem.W.Frag} : ∀ {bs : List Bool} {vs : List V}, Reps K F (bs.map D.bl) vs → vs = bs.map V.bl
  | [], vs, h => h
  | b :: bs, vs, h => by
    obtain ⟨v, t, rfl, h1, h2⟩ := h
    rw [reps_bl h2, show v = .bl b from h1]; rfl
theorem reps_int {K : PySem.W.Frag} : ∀ {bs : List Int} {vs : List V}, Reps K F (bs.map D.int) vs → vs = bs.map V.int
  | [], vs, h => h
  | b :: bs, vs, h => by
    obtain ⟨v, t, rfl, h1, h2⟩ := h
    rw [reps_int h2, show v = .int b from h1]; rfl
theorem reps_str {K : PySem.W.Frag} : ∀ {bs : List Str} {vs : List V}, Reps K F (bs.map D.str) vs → vs = bs.map V.str
  | [], vs, h => h
  | b :: bs, vs, h => by
    obtain ⟨v, t, rfl, h1, h2⟩ := h
    rw [reps_str h2, show v = .str b from h1]; rfl
/-- all, any of a list of bools -/
def AllQ : DC := fun ds O Q => ∃ bs : List Bool, ds = [.lst (bs.map D.bl)] ∧ Q (.bl (bs.all id)) O
def AnyQ : DC := fun ds O Q => ∃ bs : List Bool, ds = [.lst (bs.map D.bl)] ∧ Q (.bl (bs.any id)) O
theorem all_ok {X : Cx} (hX : Γ.Has X) (hh : Γ.hot = false) : CallD Γ X (.builtin "all") AllQ := by
  intro F O ds Q pins s σ H vs us I rv e0 S rd ⟨bs, e, q⟩
  subst e
  obtain ⟨v, rfl, a, ys, rfl, h1, h2⟩ := reps1 rd
  have e2 := reps_bl h2
  subst e2
  exact cr_all (hX.calm hh) pins s σ H _ _ _ I rv ⟨a, bs, rfl, SqL.of (S.ext _ _ h1), kv S rep_bl q⟩
theorem any_ok {X : Cx} (hX : Γ.Has X) (hh : Γ.hot = false) : CallD Γ X (.builtin "any") AnyQ := by
  intro F O ds Q pins s σ H vs us I rv e0 S rd ⟨bs, e, q⟩
  subst e
  obtain ⟨v, rfl, a, ys, rfl, h1, h2⟩ := reps1 rd
  have e2 := reps_bl h2
  subst e2
  exact cr_any (hX.calm hh) pins s σ H _ _ _ I rv ⟨a, bs, rfl, SqL.of (S.ext _ _ h1), kv S rep_bl q⟩
def SumQ : DC := fun ds O Q => ∃ ns : List Int, ds = [.lst (ns.map D.int)] ∧ Q (.int ns.sum) O
theorem sum_ok {X : Cx} (hX : Γ.Has X) (hh : Γ.hot = false) : CallD Γ X (.builtin "sum") SumQ := by
  intro F O ds Q pins s σ H vs us I rv e0 S rd ⟨bs, e, q⟩
  subst e
  obtain ⟨v, rfl, a, ys, rfl, h1, h2⟩ := reps1 rd
  have e2 := reps_int h2
  subst e2
  exact cr_sum (hX.calm hh) pins s σ H _ _ _ I rv ⟨a, bs, rfl, SqL.of (S.ext _ _ h1), kv S rep_int q⟩
def MaxQ : DC := fun ds O Q => match ds with
  | [.int i, .int j] => Q (.int (if j > i then j else i)) O
  | _ => False
def MinQ : DC := fun ds O Q => match ds with
  | [.int i, .int j] => Q (.int (if j < i then j else i)) O
  | _ => False
theorem max_ok {X : Cx} (hX : Γ.Has X) (hh : Γ.hot = false) : CallD Γ X (.builtin "max") MaxQ := by
  intro F O ds Q pins s σ H vs us I rv e0 S rd h
  unfold MaxQ at h
  split at h
  · obtain ⟨v, w, rfl, r1, r2⟩ := reps2 rd
    cases r1; cases r2
    exact call_max2 (hX.calm hh) pins s σ H _ _ _ I rv ⟨_, _, rfl, kv S rep_int h⟩
  · exact h.elim
theorem min_ok {X : Cx} (hX : Γ.Has X) (hh : Γ.hot = false) : CallD Γ X (.builtin "min") MinQ := by
  intro F O ds Q pins s σ H vs us I rv e0 S rd h
  unfold MinQ at h
  split at h
  · obtain ⟨v, w, rfl, r1, r2⟩ := reps2 rd
    cases r1; cases r2
    exact call_min2 (hX.calm hh) pins s σ H _ _ _ I rv ⟨_, _, rfl, kv S rep_int h⟩
  · exact h.elim

/-! ### methods -/
/-- a method of a text with one argument -/
theorem we_strm1 {id : String} {name : Str} {o e : Expr} {apos pos : Pos} {r : V → List V → Hp → VK → Prop} (slot : Slot "str" name id) (ty : typeOf (.builtin id) = pure (.type "method_descriptor")) (rule : ∀ X, Γ.Has X → MtR X id (r))
    (h : We Γ o ρ O fun x O1 => ∃ a, x = .str a ∧ We Γ e ρ O1 fun y O2 => ∀ F H v, Ext Γ.F0 F → Stt Γ.M.K F O2 H → Rep Γ.M.K F y v → r (.str a) [v] H (KV' Γ F Q))
    (hm : ∀ X, Γ.Has X → ∀ {x xs H} {Q Q' : VK}, (∀ v H, Q v H → Q' v H) → r x xs H Q → r x xs H Q')
    (hs : ∀ env, starEach [e] env = [(false, eval e env)] := by intro _; rfl) (hbase : ∀ env, attributeBase o name env (eval o env) = eval o env := by intro _; rfl) (hline : (apos.endLine == pos.line) = true := by rfl) : We Γ (.Call (.Attribute o name apos) [e] [] pos) ρ O Q := fun F σ H e0 s rr X hX pins st I => by
  refine (pe_m1 slot ty (rule X hX) (Ev.pe hX o) (Ev.pe hX e) (hs X.env) (hbase X.env) hline).run pins st σ H _ I ((h F σ H e0 s rr).mono fun v H1 ⟨d, F1, O1, e1, s1, r1, a, hd, q1⟩ => ?_)
  subst hd
  cases r1
  refine ⟨⟨a, rfl⟩, (q1 F1 σ H1 (e0.trans e1) s1 (rr.mono e1)).mono fun w H2 ⟨d2, F2, O2, e2, s2, r2, q2⟩ => ?_⟩
  exact hm X hX (fun v H k => KV'.at (e1.trans e2) k) (q2 F2 H2 w (e0.trans (e1.trans e2)) s2 r2)
/-- xs.append(e), the list open -/
theorem we_append {o e : Expr} {apos pos : Pos} (h : We Γ o ρ O fun x O1 => ∃ a ds, x = .raw (.ref a) ∧ O1 a = some (.lst ds) ∧ We Γ e ρ O1 fun y O2 => ∃ ds, O2 a = some (.lst ds) ∧ ds.length < sizeLine ∧ Q .non (O2.up a (.lst (ds ++ [y]))))
    (hs : ∀ env, starEach [e] env = (false, eval e env) :: starEach [] env := by intro _; rfl) (hbase : ∀ env, attributeBase o "append" env (eval o env) = eval o env := by intro _; rfl) (hline : (apos.endLine == pos.line) = true := by rfl)
    (hfew : ∀ env, ((backTo pos (starEach [e] env)).all (fun x => !x.1) && (backToKw pos (keywordEach [] env)).all (fun x => x.1.isSome) && decide ([e].length + ([] : List Keyword).length + (if ([] : List Keyword).isEmpty then 0 else 1) < 30)) = true := by intro _; rfl) :
    We Γ (.Call (.Attribute o "append" apos) [e] [] pos) ρ O Q := fun F σ H e0 s rr X hX pins st I => by
  refine (pe_bm PySem.F.plainAttrs_list PySem.F.slot_list_append PySem.F.type_list_append mt_append (Ev.pe hX o) (pa_cons (Ev.pe hX e) pa_nil (hs X.env)) (hbase X.env) (hfew X.env) hline (hs X.env)).run pins st σ H _ I ((h F σ H e0 s rr).mono fun v H1 ⟨d, F1, O1, e1, s1, r1, a, ds, hd, ho, q1⟩ => ?_)
  subst hd
  cases r1
  obtain ⟨vs, g1, g2⟩ := s1.list ho
  refine ⟨.inl ⟨rfl, vs, SqL.of g1⟩, (q1 F1 σ H1 (e0.trans e1) s1 (rr.mono e1)).mono fun w H2 ⟨d2, F2, O2, e2, s2, r2, ds2, ho2, hz, q2⟩ => ?_⟩
  obtain ⟨vs2, k1, k2⟩ := s2.list ho2
  exact ⟨a, vs2, w, rfl, rfl, k1, by rw [← k2.length]; exact hz, kv1 (e1.trans e2) (s2.change ho2 (u := .lst (ds2 ++ [d2])) ⟨_, rfl, k2.append (Reps.cons r2 Reps.nil)⟩) rep_non q2⟩
/-! ### f-strings -/
theorem we_fmt {e : Expr} {pos : Pos} (h : We Γ e ρ O fun d O1 => (∃ z : Str, d = .str z ∧ z.length ≤ sizeLine ∧ Q (.str z) O1) ∨ ∃ i : Int, d = .int i ∧ i.natAbs.log2 < 1920 ∧ Q (.str (toString i)) O1) : We Γ (.FormattedValue e (-1) none pos) ρ O Q := fun F σ H e0 s r X hX pins st I =>
  (pe_fmt (Ev.pe hX e)).run pins st σ H _ I ((h F σ H e0 s r).mono fun v H1 ⟨d, F1, O1, e1, s1, r1, q1⟩ => by
    rcases q1 with ⟨z, rfl, hz, q⟩ | ⟨i, rfl, hz, q⟩
    · cases r1; exact .inl ⟨z, rfl, hz, kv1 e1 s1 rep_str q⟩
    · cases r1; exact .inr ⟨i, rfl, hz, kv1 e1 s1 rep_str q⟩)
/-- the parts, one behind the other -/
def WJ (Γ : G) : List Expr → Str → Env' → Opens → DK → Prop
  | [], acc, _, O, Q => Q (.str acc) O
  | e :: es, acc, ρ, O, Q => We Γ e ρ O fun d O1 => ∃ z, d = .str z ∧ (acc ++ z).length ≤ sizeLine ∧ WJ Γ es (acc ++ z) ρ O1 Q
theorem pj_all {X : Cx} (hX : Γ.Has X) : ∀ es : List Expr, PJ X es (es.map (Ev Γ))
  | [] => .nil
  | e :: es => .cons (Ev.pe hX e) (pj_all hX es)
theorem tjs_run : ∀ (es : List Expr) (acc : Str) {F F1 : Fr} {O1 : Opens} {H1 : Hp}, Ext Γ.F0 F → Ext F F1 → Stt Γ.M.K F1 O1 H1 → EnvR Γ.M.K F1 ρ σ → WJ Γ es acc ρ O1 Q → tJs (es.map (Ev Γ)) acc σ H1 fun out H2 => KV' Γ F Q (.str out) H2
  | [], acc, F, F1, O1, H1, e0, e1, s, r, h => kv1 e1 s rep_str h
  | e :: es, acc, F, F1, O1, H1, e0, e1, s, r, h => (show We Γ e ρ O1 _ from h) F1 σ H1 (e0.trans e1) s r |>.mono fun v H2 ⟨d, F2, O2, e2, s2, r2, z, hd, hz, q⟩ => by
    subst hd
    cases r2
    exact ⟨z, rfl, hz, tjs_run es (acc ++ z) e0 (e1.trans e2) s2 (r.mono e2) q⟩
theorem we_joined {v1 v2 : Expr} {rest : List Expr} {pos : Pos} (h : WJ Γ (v1 :: v2 :: rest) Str.empty ρ O Q) : We Γ (.JoinedStr (v1 :: v2 :: rest) pos) ρ O Q := fun F σ H e0 s r X hX pins st I =>
  (pe_joined (pj_all hX _)).run pins st σ H _ I (tjs_run (v1 :: v2 :: rest) Str.empty e0 (Ext.refl F) s r h)
end
end DL

/-! DLG: the rules by names, small forms for the walk. -/
namespace DL
open PySem PySem.Spec PyProof.Rows L2

def slot (N : List Str) (x : Str) : Nat := N.findIdx (· == x)
/-- the built-in names that the module does not bind -/
structure Blt (M : Mo) : Prop where
  len : M.mg "len" = none
  isinstance : M.mg "isinstance" = none
  range : M.mg "range" = none
  all : M.mg "all" = none
  abs : M.mg "abs" = none
  int : M.mg "int" = none
  bool : M.mg "bool" = none
  str : M.mg "str" = none
  list : M.mg "list" = none
  tuple : M.mg "tuple" = none
  dict : M.mg "dict" = none
  sum : M.mg "sum" = none
  max : M.mg "max" = none
  min : M.mg "min" = none
  sorted : M.mg "sorted" = none
  set : M.mg "set" = none
section
variable {Γ : G} {ρ : Env'} {O : Opens} {Z : EndsD} {Q : DK} {x : Str} {pos p : Pos} {e : Expr} {es : List Expr}
theorem we_nm {d : D} (hd : ρ[slot Γ.N x]? = some (some d)) (hN : Γ.N[slot Γ.N x]? = some x) (hv : Vis Γ.sc x) (h : Q d O)
    (h1 : (x == ("__debug__" : Str)) = false := by decide) (h2 : (x == ("__classdict__" : Str)) = false := by decide) : We Γ (.Name x pos) ρ O Q := we_name hN hv hd h h1 h2
theorem ws_nm {pos' : Pos} (hN : Γ.N[slot Γ.N x]? = some x) (hl : Loc Γ.ss x) (h : We Γ e ρ O fun d O1 => Z.nx (ρ.set (slot Γ.N x) (some d)) O1) (hs : ∀ env, env.scope = Γ.sc → swapsWith e (some (.Name x pos')) pos.line env = pure false := by intro _ _; rfl) : WS Γ (.Assign [.Name x pos'] e pos) ρ O Z := ws_set hN hl h hs
theorem wg_nm {d : D} {Q : Env' → Opens → Prop} (hN : Γ.N[slot Γ.N x]? = some x) (hl : Loc Γ.ss x) (h : Q (ρ.set (slot Γ.N x) (some d)) O) : WG Γ (.Name x pos) d ρ O Q := wg_name hN hl h
theorem wgo_nm {own : List Nat} {d : D} {Q : Env' → Opens → Prop} (hN : Γ.N[slot Γ.N x]? = some x) (hl : Loc Γ.ss x) (hi : slot Γ.N x ∈ own) (h : Q (ρ.set (slot Γ.N x) (some d)) O) : WGo Γ own (.Name x pos) d ρ O Q := wgo_name hN hl hi h
theorem wo_none {Q : Option Int → Opens → Prop} (h : Q none O) : WO Γ none ρ O Q := h
theorem wo_some {Q : Option Int → Opens → Prop} (h : We Γ e ρ O fun d O1 => ∃ i, d = .int i ∧ Q (some i) O1) : WO Γ (some e) ρ O Q := h
theorem wi_nil {Q : Bool → Opens → Prop} (h : Q true O) : WI Γ [] ρ O Q := h
theorem wi_one {Q : Bool → Opens → Prop} (h : WT Γ e ρ O Q) : WI Γ [e] ρ O Q := h
theorem wj_nil {acc : Str} (h : Q (.str acc) O) : WJ Γ [] acc ρ O Q := h
theorem wj_cons {acc : Str} (h : We Γ e ρ O fun d O1 => ∃ z, d = .str z ∧ (acc ++ z).length ≤ sizeLine ∧ WJ Γ es (acc ++ z) ρ O1 Q) : WJ Γ (e :: es) acc ρ O Q := h
/-- a type's name as a value -/
theorem we_ty {n : String} {T : Ty} (hg : GlN Γ x) (hm : Γ.M.mg x = none) (hv : bootBuiltins x = some (.type n)) (h : Q (.raw (.ty n)) O) (hn : x ≠ "__name__" := by decide) (h1 : (x == ("__debug__" : Str)) = false := by decide) : We Γ (.Name x pos) ρ O Q := we_bltn (v := .ty n) hg hm hv rfl h hn h1
theorem we_tyInt (B : Blt Γ.M) (hg : GlN Γ "int") (h : Q (tyd .int) O) : We Γ (.Name "int" pos) ρ O Q := we_bltn hg B.int PySem.Pv.boot_int (v := .ty "int") rfl h
theorem we_tyBool (B : Blt Γ.M) (hg : GlN Γ "bool") (h : Q (tyd .bool) O) : We Γ (.Name "bool" pos) ρ O Q := we_bltn hg B.bool PySem.Pv.boot_bool (v := .ty "bool") rfl h
theorem we_tyStr (B : Blt Γ.M) (hg : GlN Γ "str") (h : Q (tyd .str) O) : We Γ (.Name "str" pos) ρ O Q := we_bltn hg B.str PySem.Pv.boot_str (v := .ty "str") rfl h
theorem we_tyList (B : Blt Γ.M) (hg : GlN Γ "list") (h : Q (tyd .list) O) : We Γ (.Name "list" pos) ρ O Q := we_bltn hg B.list PySem.Pv.boot_list (v := .ty "list") rfl h
theorem we_tyTuple (B : Blt Γ.M) (hg : GlN Γ "tuple") (h : Q (tyd .tuple) O) : We Γ (.Name "tuple" pos) ρ O Q := we_bltn hg B.tuple PySem.Pv.boot_tuple (v := .ty "tuple") rfl h
theorem we_tyDict (B : Blt Γ.M) (hg : GlN Γ "dict") (h : Q (tyd .dict) O) : We Γ (.Name "dict" pos) ρ O Q := we_bltn hg B.dict PySem.Pv.boot_dict (v := .ty "dict") rfl h
/-- isinstance(e, T) -/
theorem we_isi {a : Expr} (B : Blt Γ.M) (hg : GlN Γ "isinstance") (h : We Γ e ρ O fun d O1 => We Γ a ρ O1 fun c O2 => IsiQ [d, c] O2 Q)
    (h1 : ∀ env, starEach [e, a] env = (false, eval e env) :: starEach [a] env := by intro _; rfl) (h2 : ∀ env, starEach [a] env = (false, eval a env) :: starEach [] env := by intro _; rfl) (hpl : ∀ env, (backTo pos (starEach [a] env)).any (·.1) = false := by intro _; rfl) : We Γ (.Call (.Name "isinstance" p) [e, a] [] pos) ρ O Q :=
  we_blt (fun X hX => isi_ok hX) hg B.isinstance PyProof.Rows.boot_isinstance (wa_cons (h.imp fun _ _ q => wa_cons (q.imp fun _ _ q => wa_nil q) h2) h1) (he := h1) (hpl := hpl)
theorem one_arg {Qa : List D → Opens → Prop} (h : We Γ e ρ O fun d O1 => Qa [d] O1) (h1 : ∀ env, starEach [e] env = (false, eval e env) :: starEach [] env := by intro _; rfl) : WA Γ [e] ρ O Qa := wa_cons (h.imp fun _ _ q => wa_nil q) h1
theorem we_len (B : Blt Γ.M) (hg : GlN Γ "len") (h : We Γ e ρ O fun d O1 => LenQ [d] O1 Q) (h1 : ∀ env, starEach [e] env = (false, eval e env) :: starEach [] env := by intro _; rfl) : We Γ (.Call (.Name "len" p) [e] [] pos) ρ O Q :=
  we_blt (fun X hX => len_ok hX) hg B.len PySem.boot_len (one_arg h h1) (he := h1)
theorem we_all (B : Blt Γ.M) (hg : GlN Γ "all") (hh : Γ.hot = false) (h : We Γ e ρ O fun d O1 => AllQ [d] O1 Q) (h1 : ∀ env, starEach [e] env = (false, eval e env) :: starEach [] env := by intro _; rfl) : We Γ (.Call (.Name "all" p) [e] [] pos) ρ O Q :=
  we_blt (fun X hX => all_ok hX hh) hg B.all (by decide +kernel) (one_arg h h1) (he := h1)
theorem we_abs (B : Blt Γ.M) (hg : GlN Γ "abs") (h : We Γ e ρ O fun d O1 => AbsQ [d] O1 Q) (h1 : ∀ env, starEach [e] env = (false, eval e env) :: starEach [] env := by intro _; rfl) : We Γ (.Call (.Name "abs" p) [e] [] pos) ρ O Q :=
  we_blt (fun X hX => abs_ok) hg B.abs (by decide +kernel) (one_arg h h1) (he := h1)
theorem we_sum (B : Blt Γ.M) (hg : GlN Γ "sum") (hh : Γ.hot = false) (h : We Γ e ρ O fun d O1 => SumQ [d] O1 Q) (h1 : ∀ env, starEach [e] env = (false, eval e env) :: starEach [] env := by intro _; rfl) : We Γ (.Call (.Name "sum" p) [e] [] pos) ρ O Q :=
  we_blt (fun X hX => sum_ok hX hh) hg B.sum (by decide +kernel) (one_arg h h1) (he := h1)
theorem we_int_ (B : Blt Γ.M) (hg : GlN Γ "int") (h : We Γ e ρ O fun d O1 => IntQ [d] O1 Q) (h1 : ∀ env, starEach [e] env = (false, eval e env) :: starEach [] env := by intro _; rfl) : We Γ (.Call (.Name "int" p) [e] [] pos) ρ O Q :=
  we_typ (fun X hX => int_ok) hg B.int PySem.Pv.boot_int (one_arg h h1) (he := h1)
theorem we_str_ (B : Blt Γ.M) (hg : GlN Γ "str") (h : We Γ e ρ O fun d O1 => StrQ [d] O1 Q) (h1 : ∀ env, starEach [e] env = (false, eval e env) :: starEach [] env := by intro _; rfl) : We Γ (.Call (.Name "str" p) [e] [] pos) ρ O Q :=
  we_typ (fun X hX => str_ok) hg B.str PySem.Pv.boot_str (one_arg h h1) (he := h1)
theorem we_tuple_ (B : Blt Γ.M) (hg : GlN Γ "tuple") (h : We Γ e ρ O fun d O1 => TupQ [d] O1 Q) (h1 : ∀ env, starEach [e] env = (false, eval e env) :: starEach [] env := by intro _; rfl) : We Γ (.Call (.Name "tuple" p) [e] [] pos) ρ O Q :=
  we_typ (fun X hX => tup_ok hX) hg B.tuple PySem.Pv.boot_tuple (one_arg h h1) (he := h1)
theorem we_list_ (B : Blt Γ.M) (hg : GlN Γ "list") (h : We Γ e ρ O fun d O1 => LstQ [d] O1 Q) (h1 : ∀ env, starEach [e] env = (false, eval e env) :: starEach [] env := by intro _; rfl) : We Γ (.Call (.Name "list" p) [e] [] pos) ρ O Q :=
  we_typ (fun X hX => lst_ok hX) hg B.list PySem.Pv.boot_list (one_arg h h1) (he := h1)
theorem we_max {a : Expr} (B : Blt Γ.M) (hg : GlN Γ "max") (hh : Γ.hot = false) (h : We Γ e ρ O fun d O1 => We Γ a ρ O1 fun c O2 => MaxQ [d, c] O2 Q)
    (h1 : ∀ env, starEach [e, a] env = (false, eval e env) :: starEach [a] env := by intro _; rfl) (h2 : ∀ env, starEach [a] env = (false, eval a env) :: starEach [] env := by intro _; rfl) (hpl : ∀ env, (backTo pos (starEach [a] env)).any (·.1) = false := by intro _; rfl) : We Γ (.Call (.Name "max" p) [e, a] [] pos) ρ O Q :=
  we_blt (fun X hX => max_ok hX hh) hg B.max (by decide +kernel) (wa_cons (h.imp fun _ _ q => wa_cons (q.imp fun _ _ q => wa_nil q) h2) h1) (he := h1) (hpl := hpl)
theorem we_min {a : Expr} (B : Blt Γ.M) (hg : GlN Γ "min") (hh : Γ.hot = false) (h : We Γ e ρ O fun d O1 => We Γ a ρ O1 fun c O2 => MinQ [d, c] O2 Q)
    (h1 : ∀ env, starEach [e, a] env = (false, eval e env) :: starEach [a] env := by intro _; rfl) (h2 : ∀ env, starEach [a] env = (false, eval a env) :: starEach [] env := by intro _; rfl) (hpl : ∀ env, (backTo pos (starEach [a] env)).any (·.1) = false := by intro _; rfl) : We Γ (.Call (.Name "min" p) [e, a] [] pos) ρ O Q :=
  we_blt (fun X hX => min_ok hX hh) hg B.min (by decide +kernel) (wa_cons (h.imp fun _ _ q => wa_cons (q.imp fun _ _ q => wa_nil q) h2) h1) (he := h1) (hpl := hpl)
/-! ### small forms of what is asked of data -/
theorem ift {k : Bool} {A B : Prop} (h : k = true) (a : A) : if k = true then A else B := by rw [if_pos h]; exact a
theorem iff_ {k : Bool} {A B : Prop} (h : k = false) (b : B) : if k = true then A else B := by rw [h, if_neg Bool.false_ne_true]; exact b
theorem if2 {k : Bool} {A B : Prop} (a : k = true → A) (b : k = false → B) : if k = true then A else B := by
  cases k with
  | true => exact ift rfl (a rfl)
  | false => exact iff_ rfl (b rfl)
theorem q_bl {k : Bool} {P : Bool → Prop} (h : P k) : ∃ k', D.bl k = .bl k' ∧ P k' := ⟨k, rfl, h⟩
theorem q_addi {i j : Int} (h : Q (.int (i + j)) O) : BinQ .Add (.int i) (.int j) O Q := h
theorem q_subi {i j : Int} (h : Q (.int (i - j)) O) : BinQ .Sub (.int i) (.int j) O Q := h
theorem q_muli {i j : Int} (hc : CMulW i j) (h : Q (.int (i * j)) O) : BinQ .Mult (.int i) (.int j) O Q := ⟨hc, h⟩
theorem q_divi {i j : Int} (hc : CDivW i j) (h : Q (.int (i / j)) O) : BinQ .FloorDiv (.int i) (.int j) O Q := ⟨hc, h⟩
theorem q_modi {i j : Int} (hc : 0 < j) (h : Q (.int (i % j)) O) : BinQ .Mod (.int i) (.int j) O Q := ⟨hc, h⟩
theorem q_lti {i j : Int} (h : Q (.bl (decide (i < j))) O) : CmpQ .Lt (.int i) (.int j) O Q := h
theorem q_lei {i j : Int} (h : Q (.bl (decide (i ≤ j))) O) : CmpQ .LtE (.int i) (.int j) O Q := h
theorem q_gti {i j : Int} (h : Q (.bl (decide (j < i))) O) : CmpQ .Gt (.int i) (.int j) O Q := h
theorem q_gei {i j : Int} (h : Q (.bl (decide (j ≤ i))) O) : CmpQ .GtE (.int i) (.int j) O Q := h
theorem q_eqi {i j : Int} (h : Q (.bl (i == j)) O) : CmpQ .Eq (.int i) (.int j) O Q := ⟨_, _, rfl, rfl, rfl, rfl, h⟩
theorem q_nei {i j : Int} (h : Q (.bl (!(i == j))) O) : CmpQ .NotEq (.int i) (.int j) O Q := ⟨_, _, rfl, rfl, rfl, rfl, h⟩
theorem q_eqs {i j : Str} (h : Q (.bl (i == j)) O) : CmpQ .Eq (.str i) (.str j) O Q := h
theorem q_nes {i j : Str} (h : Q (.bl (!(i == j))) O) : CmpQ .NotEq (.str i) (.str j) O Q := h
theorem q_isi {d : D} {a b : Ty} (h1 : tyD O d = some a) (h : Q (.bl (isi a b)) O) : IsiQ [d, tyd b] O Q := ⟨a, b, h1, rfl, h⟩
theorem q_lent {xs : List D} (h : Q (.int xs.length) O) : LenQ [.tup xs] O Q := h
theorem q_lenl {xs : List D} (h : Q (.int xs.length) O) : LenQ [.lst xs] O Q := h
theorem q_ixt {xs : List D} {i : Int} {d : D} (h1 : atI xs i = some d) (h : Q d O) : IxQ (.tup xs) (.int i) O Q := ⟨d, h1, h⟩
theorem q_ixl {xs : List D} {i : Int} {d : D} (h1 : atI xs i = some d) (h : Q d O) : IxQ (.lst xs) (.int i) O Q := ⟨d, h1, h⟩
theorem q_trub {b : Bool} {Q : Bool → Opens → Prop} (h : Q b O) : TruQ (.bl b) O Q := h
theorem q_abs {i : Int} (h : Q (.int (if i < 0 then -i else i)) O) : AbsQ [.int i] O Q := h
end

/-! ### comprehensions that change nothing -/
section
variable {Γ : G} {ρ : Env'} {O : Opens} {Q : DK} {scope : Scope} {own : List Nat} {tg elt : Expr} {ifs : List Expr}
/-- each item kept by p gives f: what is open stays -/
theorem lc_pure {ds : List D} {Ql : List D → Opens → Prop} (p : D → Bool) (f : D → D) (hl : ds.length ≤ sizeLine)
    (ht : ∀ (F0 : Fr) x, x ∈ ds → WGo (blkG Γ scope F0) own tg x (wipeD ρ own) O fun ρ2 O2 => WI (blkG Γ scope F0) ifs ρ2 O2 fun b O3 => b = p x ∧ if b = true then We (blkG Γ scope F0) elt ρ2 O3 fun y O4 => y = f x ∧ O4 = O else O3 = O)
    (h : Ql ((ds.filter p).map f) O) : ∃ W, LcQ Γ scope own tg ifs elt ds.length (fun i => ds[i]?) ρ O Ql W := by
  refine ⟨fun i acc O' => acc = ((ds.take i).filter p).map f ∧ O' = O, ⟨rfl, rfl⟩, fun F0 i x acc O' hi hx ⟨e1, e2⟩ => ?_, fun acc O' ⟨e1, e2⟩ => ?_⟩
  · subst e2
    have hm : x ∈ ds := List.mem_of_getElem? hx
    have htk : ds.take (i + 1) = ds.take i ++ [x] := by
      rw [List.take_add_one, hx]; rfl
    have fin : ∀ ρ2 O2, (WI (blkG Γ scope F0) ifs ρ2 O2 fun b O3 => b = p x ∧ if b = true then We (blkG Γ scope F0) elt ρ2 O3 fun y O4 => y = f x ∧ O4 = O' else O3 = O') →
        WI (blkG Γ scope F0) ifs ρ2 O2 fun b O3 => if b = true then We (blkG Γ scope F0) elt ρ2 O3 fun y O4 => acc.length < sizeLine ∧ (acc ++ [y] = ((ds.take (i + 1)).filter p).map f ∧ O4 = O') else (acc = ((ds.take (i + 1)).filter p).map f ∧ O3 = O') := by
      intro ρ2 O2 hw
      have hlt : acc.length < sizeLine := by
        rw [e1, List.length_map]
        have h1 := List.length_filter_le p (ds.take i)
        rw [List.length_take] at h1
        omega
      have m : ∀ (b : Bool) O3, (b = p x ∧ if b = true then We (blkG Γ scope F0) elt ρ2 O3 fun y O4 => y = f x ∧ O4 = O' else O3 = O') → if b = true then We (blkG Γ scope F0) elt ρ2 O3 fun y O4 => acc.length < sizeLine ∧ (acc ++ [y] = ((ds.take (i + 1)).filter p).map f ∧ O4 = O') else (acc = ((ds.take (i + 1)).filter p).map f ∧ O3 = O') := by
        intro b O3 ⟨hb, hk⟩
        cases b with
        | true =>
          refine ift rfl ?_
          have hk : We (blkG Γ scope F0) elt ρ2 O3 fun y O4 => y = f x ∧ O4 = O' := by simpa using hk
          refine hk.imp fun y O4 ⟨ey, eo⟩ => ⟨hlt, ?_, eo⟩
          rw [htk, List.filter_append, List.map_append, ← e1, List.filter_cons, if_pos hb.symm, ey]; rfl
        | false =>
          refine iff_ rfl ⟨?_, by simpa using hk⟩
          rw [htk, List.filter_append, List.map_append, ← e1, List.filter_cons, if_neg (by rw [← hb]; decide)]; simp
      match ifs, hw with
      | [], hw => exact m true O2 hw
      | [c], hw => exact WT.imp (show WT _ c ρ2 O2 _ from hw) m
      | _ :: _ :: _, hw => exact hw.elim
    intro F σ H v e0 s r rv
    exact (ht F0 x hm F σ H v e0 s r rv).mono fun σ' H' ⟨w, k⟩ => ⟨w, KS.mono (Ext.refl F) (fun ρ2 O2 q => fin ρ2 O2 q) k⟩
  · subst e2 e1
    rw [List.take_length]; exact h
theorem lc_pureR {n : Nat} {Ql : List D → Opens → Prop} (p : Int → Bool) (f : Int → D) (hl : n ≤ sizeLine)
    (ht : ∀ (F0 : Fr) (i : Nat), i < n → WGo (blkG Γ scope F0) own tg (.int (i : Int)) (wipeD ρ own) O fun ρ2 O2 => WI (blkG Γ scope F0) ifs ρ2 O2 fun b O3 => b = p i ∧ if b = true then We (blkG Γ scope F0) elt ρ2 O3 fun y O4 => y = f i ∧ O4 = O else O3 = O)
    (h : Ql ((((List.range n).map fun i : Nat => (i : Int)).filter p).map f) O) : ∃ W, LcQ Γ scope own tg ifs elt n (fun i => some (.int (0 + (i : Int)))) ρ O Ql W := by
  have key := lc_pure (Γ := Γ) (ρ := ρ) (O := O) (scope := scope) (own := own) (tg := tg) (elt := elt) (ifs := ifs) (ds := (List.range n).map fun i : Nat => D.int (i : Int)) (Ql := Ql)
    (fun d => match d with | .int i => p i | _ => false) (fun d => match d with | .int i => f i | _ => .non) (by rw [List.length_map, List.length_range]; exact hl)
    (fun F0 x hx => by
      obtain ⟨i, hi, rfl⟩ := List.mem_map.mp hx
      exact ht F0 i (List.mem_range.mp hi)) (by
      have e1 : ∀ l : List Nat, ((l.map fun i : Nat => D.int (i : Int)).filter (fun d => match d with | .int i => p i | _ => false)).map (fun d => match d with | .int i => f i | _ => .non) = ((l.map fun i : Nat => (i : Int)).filter p).map f := by
        intro l
        induction l with
        | nil => rfl
        | cons a l ih =>
          rw [List.map_cons, List.map_cons, List.filter_cons, List.filter_cons]
          cases hp : p (a : Int) with
          | true => rw [if_pos (show (match D.int (a : Int) with | .int i => p i | _ => false) = true from hp), if_pos rfl, List.map_cons, List.map_cons, ih]
          | false => rw [if_neg (show ¬ (match D.int (a : Int) with | .int i => p i | _ => false) = true by show ¬ p (a : Int) = true; rw [hp]; decide), if_neg (by decide), ih]
      rw [e1]; exact h)
  obtain ⟨W, T⟩ := key
  refine ⟨W, ⟨T.start, fun F0 i x acc O' hi hx w => ?_, fun acc O' w => ?_⟩⟩
  · refine T.turn F0 i x acc O' (by rw [List.length_map, List.length_range]; exact hi) ?_ w
    rw [List.getElem?_map, List.getElem?_range hi]
    rw [Int.zero_add] at hx
    exact hx
  · rw [List.length_map, List.length_range] at T
    exact T.stop acc O' w
end
end DL
namespace DL
open PySem PySem.Spec PyProof.Rows L2
section
variable {Γ : G} {ρ : Env'} {O : Opens} {Q : DK} {x : Str} {pos : Pos}
theorem we_gstr {z : Str} {t : Tok} (hm : Γ.M.mg x = some (.str z t)) (hg : GlN Γ x) (h : Q (.str z) O) (h1 : (x == ("__debug__" : Str)) = false := by decide) : We Γ (.Name x pos) ρ O Q := we_glob (v := .str z) (d := .str z) hg hm ⟨t, rfl⟩ (fun _ => rfl) h h1
theorem we_gint {z : Int} {t : Tok} (hm : Γ.M.mg x = some (.int z t)) (hg : GlN Γ x) (h : Q (.int z) O) (h1 : (x == ("__debug__" : Str)) = false := by decide) : We Γ (.Name x pos) ρ O Q := we_glob (v := .int z) (d := .int z) hg hm ⟨t, rfl⟩ (fun _ => rfl) h h1
end
end DL

/-! DLX0: an own exception class called with keywords, at the library's level. -/
namespace DLX
open PySem PySem.Spec PySem.W PySem.Calls PyProof.Rows PySem.HandSPX
section
variable {Mo : Model} {Ar : Around} {Er : Value → Shared → Prop} {hp : Heap} {gs : Array GenState} {dr : Drawn} {tk : Nat} {os : OsState}
variable {nm qn : Str} {C N : Addr} {bs bm bmB : List Value} {hdct : Bool} {sn : List Str} {sub : List Value} {ab : Bool} {col : Option Bool} {dd : Option Addr} {k0 k1 k2 k3 k5 : Option Value} {B newId initId : String} {kw : List (Str × Value)}
theorem ck_new (F : ExcBaseFacts B newId initId bmB) (hT : ∀ Y : String, bm.contains (.type Y) = bmB.contains (.type Y)) {us : List Value} {Q : Unit → Shared → Prop} (hC : hp.get? C = some (excClassObj nm qn C N bs bm hdct sn sub ab col dd k0 k1 k2 k3 k5 newId)) (hq : Q () ⟨hp, gs, dr, tk, os⟩) :
    wpAny Mo Ar (checkBuiltinCall newId ⟨.ref C :: us, kw⟩) Q Er ⟨hp, gs, dr, tk, os⟩ := by
  have inB : (Value.ref C :: bm).contains (.type B) = true := by rw [List.contains_cons, hT, F.hasB, Bool.or_true]
  have h0 := F.noStar
  simp only [checkBuiltinCall, F.newKind, F.newSplit, F.newRow]
  repeat (first | refine wpAny_loadPart_at hC ?_ | (refine wpAny_isSubtype_exc hC ?_; rw [inB]) | refine wpAny_staticBase_exc hC ?_ | refine wpAny_madeBy_exc hC ?_ | simp only [bne_self_eq_false, Bool.false_eq_true, if_false] | wp_step)
  exact hq
end
section
variable {prog : Program} {w : World} {Ar : Around} {Er : Value → Shared → Prop} {R : Result → Shared → Prop} {hp : Heap} {gs : Array GenState} {dr : Drawn} {tk : Nat} {os : OsState}
variable {nm qn : Str} {C N : Addr} {bs bm bmB : List Value} {hdct : Bool} {sn : List Str} {sub : List Value} {ab : Bool} {col : Option Bool} {dd : Option Addr} {k0 k1 k2 k3 k5 : Option Value} {B newId initId : String} {kw : List (Str × Value)}
theorem mk_new (F : ExcBaseFacts B newId initId bmB) (hT : ∀ Y : String, bm.contains (.type Y) = bmB.contains (.type Y)) {us : List Value} (hC : hp.get? C = some (excClassObj nm qn C N bs bm hdct sn sub ab col dd k0 k1 k2 k3 k5 newId)) (hl : us.length ≤ sizeLine)
    (hq : R (.ok (.ret (.ref (hp.objs.size + 1)))) ⟨(hp.push (kdv_tup us)).push (excO C hp.objs.size), gs, dr, tk, os⟩) : codeAny (model prog w) Ar (.builtin newId ⟨.ref C :: us, kw⟩) R ⟨hp, gs, dr, tk, os⟩ := by
  have h0 := F.ends
  have inB : (Value.ref C :: bm).contains (.type B) = true := by rw [List.contains_cons, hT, F.hasB, Bool.or_true]
  have noA : (Value.ref C :: bm).contains (.type "AttributeError") = false := by rw [List.contains_cons, hT, F.noAttr]; rfl
  have noN : (Value.ref C :: bm).contains (.type "NameError") = false := by rw [List.contains_cons, hT, F.noName]; rfl
  refine codeAny_builtinAt F.entry ?_
  unfold Builtin.«BaseException.__new__»
  refine PySem.wpAt_bind ?_
  show PySem.wpAt _ _ _ (stack >>= _) _ _ _
  refine PySem.wpAt_bind (PySem.wpAt_stack fun p below => PySem.wpAt_of_wpAny ?_)
  wp_walk
  refine PySem.wpAt_of_wpAny ?_
  rw [F.owner]
  repeat (first | with_reducible refine wpAny_madeHere_exc F.canon hC ?_ | with_reducible refine wpAny_loadPart_at hC ?_ | (with_reducible refine wpAny_isSubtype_exc hC ?_; first | rw [inB] | rw [noA] | rw [noN]) | wp_step)
  show R _ _
  rw [Heap.size_push]
  exact hq
theorem ty_call (F : ExcBaseFacts B newId initId bmB) (hT : ∀ Y : String, bm.contains (.type Y) = bmB.contains (.type Y)) {us : List Value} {fI : Addr} {Q : Fin → Shared → Prop} (hC : hp.get? C = some (excClassObj nm qn C N bs bm hdct sn sub ab col dd k0 k1 k2 k3 k5 newId))
    (hi : Looks (model prog w) hp (typeLookup (.ref C) "__init__") (some (.ref fI))) (hb : ∀ self, Looks (model prog w) hp (bindSpecial (.ref fI) self) (.ref fI, [self])) (hl : us.length ≤ sizeLine)
    (hq : codeAny (model prog w) Ar (.call (.ref fI) ⟨.ref (hp.objs.size + 1) :: us, kw⟩) (fun r s' => match r with | .ok (.ret v) => v = .none ∧ Q (.done (.ret (.ref (hp.objs.size + 1)))) s' | .ok _ => False | .error e => Er e s') ⟨(hp.push (kdv_tup us)).push (excO C hp.objs.size), gs, dr, tk, os⟩) :
    wpAny (model prog w) Ar (Builtin.«type.__call__» ⟨.ref C :: us, kw⟩) Q Er ⟨hp, gs, dr, tk, os⟩ := by
  repeat (first | with_reducible refine wpAny_loadPart_at hC ?_ | with_reducible refine wpAny_madeBy_exc hC ?_ | wp_step)
  refine codeAny_call_builtin_code (Code.quiet_builtin _ F.quiet) (ck_new F hT hC ?_)
  refine mk_new F hT hC hl ?_
  show wpAny _ _ _ _ _ _
  have kp : ∀ b o, hp.get? b = some o → ((hp.push (kdv_tup us)).push (excO C hp.objs.size)).get? b = some o := fun b o e => Heap.get?_push_of_some _ (Heap.get?_push_of_some _ e)
  have hC1 := kp _ _ hC
  have got : ((hp.push (kdv_tup us)).push (excO C hp.objs.size)).get? (hp.objs.size + 1) = some (excO C hp.objs.size) := by heap_get
  have inC : (Value.ref C :: bm).contains (.ref C) = true := by simp
  have li := hi.keeps kp
  have lb := (hb (.ref (hp.objs.size + 1))).keeps kp
  unfold isInstance
  repeat (first | with_reducible refine wpAny_loadPart_at got ?_ | (with_reducible refine wpAny_isSubtype_exc hC1 ?_; rw [inC]) | wp_step)
  show wpAny _ _ (typeLookup (.ref C) _) _ _ _
  refine li.at ?_
  refine wpAny_holding (wpAny_bind (lb.at ?_))
  refine wpAny_bind (wpAny_call (codeAny_mono hq fun r s' z => ?_))
  rcases r with e | (v | _ | _ | _) <;> first | exact z | exact z.elim | skip
  obtain ⟨rfl, z⟩ := z
  first
    | exact wpAny_pure (wpAny_pure z)
    | (wp_walk; exact z)
theorem ccall (F : ExcBaseFacts B newId initId bmB) (hT : ∀ Y : String, bm.contains (.type Y) = bmB.contains (.type Y)) {us : List Value} {fI : Addr} (hC : hp.get? C = some (excClassObj nm qn C N bs bm hdct sn sub ab col dd k0 k1 k2 k3 k5 newId))
    (hi : Looks (model prog w) hp (typeLookup (.ref C) "__init__") (some (.ref fI))) (hb : ∀ self, Looks (model prog w) hp (bindSpecial (.ref fI) self) (.ref fI, [self])) (hl : us.length ≤ sizeLine)
    (hq : codeAny (model prog w) (Ar.under (.builtin "type.__call__" ⟨.ref C :: us, kw⟩)) (.call (.ref fI) ⟨.ref (hp.objs.size + 1) :: us, kw⟩) (InitBack (hp.objs.size + 1) R) ⟨(hp.push (kdv_tup us)).push (excO C hp.objs.size), gs, dr, tk, os⟩) :
    codeAny (model prog w) Ar (.call (.ref C) ⟨us, kw⟩) R ⟨hp, gs, dr, tk, os⟩ := by
  have f1 := tc_lookup
  have f2 := tc_bind (.ref C)
  have ty : (⟨hp, gs, dr, tk, os⟩ : Shared).TypeIs (.ref C) "type" := ⟨_, hC, rfl⟩
  refine codeAny_of_tree ?_
  show wpAny _ _ (callAny (.ref C) _) _ _ _
  repeat (any_goals (first | assumption | with_reducible refine wpAny_loadPart_at hC ?_ | wp_step))
  refine ⟨rfl, ?_⟩
  refine codeAny_call_builtin_at (Code.quiet_builtin _ (by decide +kernel)) entry_typeCall (wpAny_check_type_call_sub hC (ty_call F hT hC hi hb hl ?_))
  refine codeAny_mono hq fun r s' z => ?_
  rcases r with e | (v | _ | _ | _) <;> exact z
end
end DLX

/-! DLX1: try with named except clauses, one class or a tuple of classes each. -/
namespace DLX
open PySem PySem.Spec PyProof.Rows L2

/-- what leads a clause: its test asks the classes cs -/
def Asks (X : Cx) (t : Expr) (cs : List Value) : Prop :=
  ∀ (a : Addr) (pn : List (Addr × Obj)) (σ : L2.St) (H : Hp) (s : Shared) (cls : Value) (b : Bool) (Q : Bool → Shared → Prop) (E : Value → Shared → Prop), Inv (X.suite a pn) [] σ H s → PySem.W.Looks (model X.prog X.w) s.heap (typeOf (.ref a)) cls → PySem.W.exmAny X.K cls cs = some b →
    (∀ h', (∀ q o, s.heap.get? q = some o → h'.get? q = some o) → Q b { s with heap := h' }) → wpAny (model X.prog X.w) (X.A.mark (some (.ref a))) (eval t X.env) (fun c s1 => wpAny (model X.prog X.w) (X.A.mark (some (.ref a))) (excMatches (.ref a) c) Q E s1) E s
theorem one_name {X : Cx} {x : Str} {c : Value} {np : Pos} {a : Addr} {pn : List (Addr × Obj)} {σ : L2.St} {H : Hp} {s : Shared} {Q : Value → Shared → Prop} {E : Value → Shared → Prop} (hc : Names X x c) (I : Inv (X.suite a pn) [] σ H s) (q : Q c s) : wpAny (model X.prog X.w) (X.A.mark (some (.ref a))) (eval (.Name x np) X.env) Q E s := by
  obtain ⟨hg, hd, hm | ⟨hm, hv, hn⟩⟩ := hc
  · exact ld_glob (X := X.suite a pn) I hg hm q hd
  · exact ld_blt (X := X.suite a pn) I hg hm hv q hn hd
theorem any_one {K : PySem.W.Frag} {cls c : Value} {b : Bool} (h : PySem.W.exmAny K cls [c] = some b) : PySem.W.exmOne K cls c = some b := by
  obtain ⟨b1, d1, h1, h2, h3⟩ := PySem.W.exmAny_cons h
  have h2' : some false = some d1 := h2
  cases h2'
  rw [h1, h3, Bool.or_false]
theorem asks_name {X : Cx} {x : Str} {c : Value} {np : Pos} (hc : Names X x c) : Asks X (.Name x np) [c] := fun a pn σ H s cls b Q E I LT he q =>
  one_name hc I ((PySem.W.exm_one I.kIn LT (any_one he)).here (q s.heap fun _ _ z => z))
theorem asks_tup2 {X : Cx} {x y : Str} {c d : Value} {p1 p2 tp : Pos} {n : Nat} (hc : Names X x c) (hd : Names X y d) : Asks X (.Tuple [.Name x p1, .Name y p2] n tp) [c, d] := fun a pn σ H s cls b Q E I LT he q => by
  refine wpAny_Tuple (wpAny_items_cons (one_name hc I (wpAny_items_cons (one_name hd I (wpAny_items_nil ⟨by size_fits, ?_⟩)))))
  have kp : ∀ z o, s.heap.get? z = some o → (s.heap.push { cls := .type "tuple", data := .seq [c, d].toArray }).get? z = some o := fun _ _ z => Heap.get?_push_of_some _ z
  exact (PySem.W.exm_tup2 (I.kIn.keeps kp) (LT.keeps kp) (Heap.get?_push_size s.heap rfl) he).here (q _ kp)
theorem asks_tup3 {X : Cx} {x y u : Str} {c d e : Value} {p1 p2 p3 tp : Pos} {n : Nat} (hc : Names X x c) (hd : Names X y d) (hu : Names X u e) : Asks X (.Tuple [.Name x p1, .Name y p2, .Name u p3] n tp) [c, d, e] := fun a pn σ H s cls b Q E I LT he q => by
  refine wpAny_Tuple (wpAny_items_cons (one_name hc I (wpAny_items_cons (one_name hd I (wpAny_items_cons (one_name hu I (wpAny_items_nil ⟨by size_fits, ?_⟩)))))))
  have kp : ∀ z o, s.heap.get? z = some o → (s.heap.push { cls := .type "tuple", data := .seq [c, d, e].toArray }).get? z = some o := fun _ _ z => Heap.get?_push_of_some _ z
  exact (PySem.W.exm_tup3 (I.kIn.keeps kp) (LT.keeps kp) (Heap.get?_push_size s.heap rfl) he).here (q _ kp)
/-- the ends of a suite whose name goes -/
def endsN (i : Nat) (D : Ends) : Ends := { nx := fun σ H => D.nx (σ.set i none) H, rt := D.rt, bk := fun σ H => D.bk (σ.set i none) H, ct := fun σ H => D.ct (σ.set i none) H }
abbrev Hd := List Value × Nat × (Addr → Value → Option Addr → TS)
/-- what the clauses wish of an exception of the body -/
def wHds (K : PySem.W.Frag) (Wout : WX) (D : Ends) : List Hd → WX
  | [] => Wout
  | (cs, i, ts) :: r => fun cls d σ H => ∃ b, PySem.W.exmAny K cls cs = some b ∧ (b = true → ∀ a, H a = none → ts a cls d (endsN i D) (σ.set i (some (.ref a))) H) ∧ (b = false → wHds K Wout D r cls d σ H)
inductive HdA (X : Cx) : List ExceptHandler → List Hd → Prop
  | nil : HdA X [] []
  | cons {t : Expr} {n : Str} {cs : List Value} {i : Nat} {ts : Addr → Value → Option Addr → TS} {b0 : Stmt} {su : List Stmt} {p : Pos} {hs : List ExceptHandler} {l : List Hd} (ht : Asks X t cs) (hi : X.N[i]? = some n) (hl : X.env.kindOf n = some .local)
      (hsu : ∀ (a : Addr) (oe : Obj) (cls : Value) (d : Option Addr) (pn : List (Addr × Obj)), Zc cls d oe → (∃ vs, oe.data = .fields vs) → PSs (X.suite a ((a, oe) :: pn)) (b0 :: su) (ts a cls d)) (r : HdA X hs l) :
      HdA X (.ExceptHandler (some t) (some n) (b0 :: su) p :: hs) ((cs, i, ts) :: l)
theorem flying_grows {B h h' : Heap} {l : List Env} {e : Addr} {Z : Obj → Prop} (f : HandSPX.FlyingZ B l e Z h) (k : ∀ b o, h.get? b = some o → h'.get? b = some o) : HandSPX.FlyingZ B l e Z h' := by
  obtain ⟨f1, f2, f3, oe, vs, T, oT, ts, g1, g2, g3, g4, g5, g6, g7, g8, g9⟩ := f
  exact ⟨fun b o z => k b o (f1 b o z), f2, Heap.FunFrames.of_keeps (fun b o z _ => ⟨o, k b o z, rfl⟩) f3, oe, vs, T, oT, ts, k _ _ g1, g2, g3, g4, g5, g6, k _ _ g7, g8, g9⟩
section
variable {X : Cx} {body : List Stmt} {h0 : ExceptHandler} {hs : List ExceptHandler} {l : List Hd} {pos : Pos} {tb : WX → TS} {Wout : WX}
theorem ps_tryA (hst : X.stack = X.env :: X.outer) (hf : X.env.frame = some X.env.locals) (hN : X.N.Nodup) (tk : Takes X Wout)
    (hb : ∀ (W : WX) (pn : List (Addr × Obj)) (xe : Value → Shared → Prop), Takes (X.tr pn xe) W → PassesOwn (model X.prog X.w) X.A X.env xe → PSs (X.tr pn xe) body (tb W))
    (hh : HdA X (h0 :: hs) l) : PS X (.Try body (h0 :: hs) [] [] pos) (fun D σ H => tb (wHds X.K Wout D l) D σ H) := by
  refine ⟨fun pins s σ H D I h => ?_⟩
  have ok := I.ok
  have hfr : X.A.frames = some (X.env :: X.outer) := by rw [ok.frames, hst]
  refine wpAny_Try_except (wpAny_mono ((hb (wHds X.K Wout D l) (X.pn ++ pins) (fun e s₁ => wpAny (model X.prog X.w) X.A (noteFrame e X.env) (fun _ s₂ => wpAny (model X.prog X.w) X.A (setFlight e none) (fun _ s₃ => wpAny (model X.prog X.w) X.A (handleBy e X.env (h0 :: hs)) (SP X pins D) X.xe s₃) X.xe s₂) X.xe s₁)
    (fun u s' xx => ?_) PassesOwn.looking).run [] s σ H D (I.toTry _) h) (fun f s1 hsp => ?_) (fun e s1 he => he))
  · obtain ⟨a, B, sI, pins', σ', H', cls, d, rfl, J', nb, up, sky, na, os, ag, w⟩ := xx
    have J : Inv X pins σ' H' sI := J'.ofTry ok
    have sky2 : Sky B (X.env :: X.outer) a (Zc cls d) X.env.locals s'.heap := by rw [← hst]; exact sky
    show wpAny (model X.prog X.w) X.A (noteFrame (.ref a) X.env) _ _ _
    refine Sky.land Zc.steady hfr hf sky2 fun h3 fl3 up3 => ?_
    have outFr : ∀ {h : Heap} {o : Obj} {vs : Array Value}, h.FunFrames B (X.env :: X.outer) → h.get? a = some o → o.data = .fields vs → a ∉ frs (X.env :: X.outer) := fun {h o vs} ff e dd hm => by
      obtain ⟨_, o', e', hnf⟩ := ff.mem hm
      rw [e] at e'
      exact hnf vs (by rw [← Option.some.inj e']; exact dd)
    obtain ⟨oe3, vs3, he3, hz3, hd3⟩ := fl3.there
    have nfr := outFr fl3.2.2.1 he3 hd3
    have nL : a ≠ X.env.locals := fun z => nfr (List.mem_filterMap.mpr ⟨X.env, List.mem_cons_self, by rw [hf, z]⟩)
    have nF : a ∉ X.fs := fun hm => by
      obtain ⟨e, he, q⟩ := List.mem_filterMap.mp hm
      exact nfr (List.mem_filterMap.mpr ⟨e, List.mem_cons_of_mem _ he, q⟩)
    have go : ∀ {hs' : List ExceptHandler} {l' : List Hd}, HdA X hs' l' → wHds X.K Wout D l' cls d σ' H' → ∀ h5, HandSPX.FlyingZ B (X.env :: X.outer) a (Zc cls d) h5 → sI.heap.UpToSlots h5 →
        wpAny (model X.prog X.w) X.A (handleBy (.ref a) X.env hs') (SP X pins D) X.xe { s' with heap := h5 } := by
      intro hs' l' hk
      induction hk with
      | nil =>
        intro w h5 fl up5
        refine wpAny_handleBy_nil ?_
        obtain ⟨k1, k2, k3, oe, vs, T, oT, ts', he, hz, hd, h1, hr⟩ := id fl
        unfold PySem.passOn
        refine wpAny_bind (wpAny_field he hd h1 ?_)
        rw [if_neg (show ¬ ((Value.ref T == Value.none) = true) from by simp)]
        have fin : wpAny (model X.prog X.w) X.A (setFlight (.ref a) X.env.frame) (fun _ s4 => wpAny (model X.prog X.w) X.A (throw (.ref a) : Sem Flow) (SP X pins D) X.xe s4) X.xe { s' with heap := h5 } := by
          rw [hf]
          exact HandSPX.setFlight_upZ fl fun h4 held upp => wpAny_throw (tk _ _ ⟨a, B, sI, pins, σ', H', cls, d, rfl, J, nb, up5.trans upp, .inr (.inr (by rw [hst]; exact held)), na, os, ag, w⟩)
        first
          | exact wpAny_bind (wpAny_pure (wpAny_bind fin))
          | exact wpAny_bind fin
      | @cons t n cs i ts b0 su p hs2 l2 ht hi hl hsu r ih =>
        intro w h5 fl up5
        obtain ⟨b, hb1, yes, no⟩ := w
        obtain ⟨oe5, vs5, he5, hz5, hd5⟩ := fl.there
        have J5 : Inv X pins σ' H' { s' with heap := h5 } := J.landed nb fl.1 up5 os ag
        have S5 := J5.suite he5 hd5 na nL nF
        refine wpAny_handleBy_cons (codeAny_handlers_test ?_) (by intro q; cases q)
        refine ht a _ σ' H' _ cls b _ _ S5 (fun A Q E s k q => wpAny_typeOf_ref (k _ _ he5) (by rw [hz5.1]; exact q)) hb1 fun h6 k6 => ?_
        have fl6 := flying_grows fl k6
        have up6 : sI.heap.UpToSlots h6 := up5.trans (Heap.UpToSlots.of_keeps k6)
        cases b with
        | true =>
          refine codeAny_handlers_suite_as (HandSPX.lands_againZ fl6 fun h4 fl4 up4 => ?_)
          have J4 : Inv X pins σ' H' { s' with heap := h4 } := J.landed nb fl4.1 (up6.trans up4) os ag
          obtain ⟨oe4, vs4, he4, hz4, hd4⟩ := fl4.there
          have S4 := J4.suite he4 hd4 na nL nF
          refine store_ok (X := X.suite a ((a, oe4) :: (X.pn ++ pins))) (v := .ref a) S4 hN hi (.inl hl) rfl (fun s5 S5 => ?_) (.inr hl)
          refine wpAny_mono ((hsu a oe4 cls d (X.pn ++ pins) hz4 ⟨_, hd4⟩).run [] s5 _ H' _ S5 (yes rfl a na)) (fun f s6 hsp => ?_) (fun _ _ z => False.elim z)
          have fin : ∀ {σ6 : L2.St} {H6 : Hp} {Q : Shared → Prop}, Inv (X.suite a ((a, oe4) :: (X.pn ++ pins))) [] σ6 H6 s6 → (∀ s7, Inv X pins (σ6.set i none) H6 s7 → Q s7) → wpAny (model X.prog X.w) X.A (do bindName X.env n .none; unbindBehindTheSuite X.env n p) (fun _ s7 => Q s7) X.xe s6 :=
            fun {σ6 H6 Q} S6 hq => gone_ok (S6.unsuite ok) hN hi hl hq
          cases f with
          | next => obtain ⟨σ6, H6, S6, q6⟩ := hsp; exact fin S6 fun s7 J7 => ⟨_, _, J7, q6⟩
          | brk => obtain ⟨σ6, H6, S6, q6⟩ := hsp; exact fin S6 fun s7 J7 => ⟨_, _, J7, q6⟩
          | cont => obtain ⟨σ6, H6, S6, q6⟩ := hsp; exact fin S6 fun s7 J7 => ⟨_, _, J7, q6⟩
          | ret u => obtain ⟨v6, σ6, H6, S6, r6, q6⟩ := hsp; exact fin S6 fun s7 J7 => ⟨_, _, _, J7, r6, q6⟩
        | false => exact ih (no rfl) h6 fl6 up6
    exact go hh w h3 fl3 (up.trans up3)
  · cases f with
    | next => obtain ⟨σ', H', J', q⟩ := hsp; exact wpAny_execs_nil ⟨σ', H', J'.ofTry ok, q⟩
    | brk => obtain ⟨σ', H', J', q⟩ := hsp; exact ⟨σ', H', J'.ofTry ok, q⟩
    | cont => obtain ⟨σ', H', J', q⟩ := hsp; exact ⟨σ', H', J'.ofTry ok, q⟩
    | ret u => obtain ⟨v, σ', H', J', r, q⟩ := hsp; exact ⟨v, σ', H', J'.ofTry ok, r, q⟩
end
end DLX

/-! DLX2: own exceptions as values: made, asked, read; E.__init__(self, ..) of an own class E over ValueError. -/
namespace DLX
open PySem PySem.Spec PyProof.Rows L2
section
variable {X : Cx} {o e : Expr} {es : List Expr} {to te : TE} {ta : TA} {x f : Str} {p p1 p2 pos : Pos}
/-- E.__init__(self, ..), E an own class whose __init__ is ValueError's -/
theorem pe_upI {E : Addr} {mc : Value} {pl : Sem Bool} (hg : Gl X x) (hm : X.mg x = some (.ref E)) (r : ClX.CRead X.K E mc) (v : PySem.W.findCls X.K (.ref E) mc "__init__" = some (.val (.builtin "ValueError.__init__"))) (ha : PA X (e :: es) ta)
    (hd : (x == ("__debug__" : Str)) = false := by decide)
    (hc : eval (.Call (.Attribute (.Name x p1) "__init__" p2) (e :: es) [] pos) X.env = (do
      let ov ← eval (.Name x p1) X.env
      standAt p2.atName
      let (g, first) ← holding [ov] (getMethod ov "__init__" pl)
      callWith pos g first (backTo pos (starEach (e :: es) X.env)) (backToKw pos (keywordEach [] X.env))) := by rfl)
    (he : starEach (e :: es) X.env = (false, eval e X.env) :: starEach es X.env := by rfl) (hpl : (backTo pos (starEach es X.env)).any (·.1) = false := by rfl) :
    PE X (.Call (.Attribute (.Name x p1) "__init__" p2) (e :: es) [] pos) (tVeI X.K ta) := by
  refine ⟨fun pins s σ H Q I h => ?_⟩
  refine PySem.W.methodCall_KW (ld_glob I hg hm ?_ hd) hc
  refine PySem.W.method_cls I.kIn r.ga (PySem.W.cls_value I.kIn r.rd v rfl ?_)
  show wpAny _ _ (callWith pos (Value.builtin "ValueError.__init__") [] (backTo pos (starEach (e :: es) X.env)) []) _ _ _
  refine PyProof.Rows.callWith_method1 (thn (ha.run pos pins _ σ H _ (I.tok _) h) fun us s1 ⟨vs, H1, I1, r1, a, C, ws, ev, hl, T, ea, q⟩ => ?_) he hpl
  subst ev
  cases r1 with
  | @cons _ u0 _ ur ra rw' =>
    cases (show u0 = Value.ref a from ra)
    exact oinit_ok T I1 ea (by rw [← Paired.length rw', sizeLine_eq]; omega) fun s' J => ⟨.non, H1, J, rfl, q⟩
/-- what C(..) as a value wishes of C's own __init__ -/
def wMk (C : Addr) (sp : Sp) (vs : List V) (H1 : Hp) (Q : VK) : Prop := vs.length ≤ 1000 ∧ ∀ a, H1 a = none → sp (.ref a :: vs) (upd H1 a (exo a C none)) (fun v H2 => v = .non ∧ Q (.ref a) H2) (fun _ _ _ => False)
theorem run_mk {CX : CXT} {pins : List (Addr × Obj)} {σ : L2.St} {H1 : Hp} {Q : VK} {C fI : Addr} {k : Nat} {fd : FuncData} {ps : List Str} {sp : Sp} {us al : List Value} {vs : List V} {kw : List (Str × Value)} {s1 : Shared} (T : OexC X.K C) (iC : PySem.W.findIn X.K (.ref C) "__init__" = some (some (.ref fI))) (tI : PySem.W.typeIn X.K (.ref fI) = some (.type "function"))
    (F1 : FnOk X.prog X.w X.K X.mg X.base CX k fI fd ps sp) (hr : Room (k + 1) X.A) (hx : Passes CX X (fun _ _ _ => False)) (I1 : Inv X pins σ H1 s1) (r1 : Vals vs al) (hus : us.length ≤ sizeLine)
    (hb : ∀ self, X.K.In s1.heap → (self :: al).length = ps.length → bindArgs fd ⟨self :: us, kw⟩ = pure (ps.zip (self :: al))) (h : wMk C sp vs H1 Q) : wpAny (model X.prog X.w) X.A (call (.ref C) us kw) (EP X pins σ Q) X.xe s1 := by
  obtain ⟨hz, q1⟩ := h
  obtain ⟨nm, q, N, bs, bm, sn, sub, ab, col, dd, k0, k1, k2, k3, k5, hC, hbm⟩ := T.cls
  have kIn1 := I1.kIn
  obtain ⟨hp, g, dr, tk, os⟩ := s1
  have hsz : hp.objs.size ≤ hp.objs.size + 1 := Nat.le_succ _
  have hq := q1 (hp.objs.size + 1) (I1.hok.fresh hsz)
  have kk : ∀ b o, hp.get? b = some o → ((hp.push (PySem.W.kdv_tup us)).push (PySem.HandSPX.excO C hp.objs.size)).get? b = some o := fun b o e => Heap.get?_push_of_some _ (Heap.get?_push_of_some _ e)
  have got : ((hp.push (PySem.W.kdv_tup us)).push (PySem.HandSPX.excO C hp.objs.size)).get? (hp.objs.size + 1) = some (PySem.HandSPX.excO C hp.objs.size) := by heap_get
  have I2 : Inv X pins σ (upd H1 (hp.objs.size + 1) (exo (hp.objs.size + 1) C none)) ⟨(hp.push (PySem.W.kdv_tup us)).push (PySem.HandSPX.excO C hp.objs.size), g, dr, tk, os⟩ := I1.laid (t' := tk) kk hsz (exo_ok got)
  have r2 : Vals (V.ref (hp.objs.size + 1) :: vs) (Value.ref (hp.objs.size + 1) :: al) := .cons rfl r1
  have hl : (Value.ref (hp.objs.size + 1) :: al).length = ps.length := by
    rw [← r2.length]
    exact F1.len _ _ _ _ hq
  refine wpAny_call (ccall F.excBase_ValueError (fun Y => PySem.HandSPX.refsVE_contains Y bm hbm) (kIn1 _ _ hC) (PySem.W.looks_findIn kIn1 iC) (fun self => PySem.W.bind_fn kIn1 self tI) hus
    (codeAny_mono (F1.run _ X.stack _ _ ⟨Value.ref (hp.objs.size + 1) :: us, kw⟩ (Value.ref (hp.objs.size + 1) :: al) _ _ (fun _ _ _ => False) (hr.make C us kw) (I2.env0.make C us kw) (.of_eq (hb _ kIn1 hl)) r2 hq) fun r s' hq2 => ?_))
  cases r with
  | error er => exact hx pins σ _ _ er s' I2 hq2
  | ok fl =>
    cases fl with
    | ret u =>
      obtain ⟨v, H2, J, rv, ev, q2⟩ := I2.after hq2
      subst ev
      exact ⟨rv, ⟨.ref (hp.objs.size + 1), H2, J, rfl, q2⟩⟩
    | next => exact False.elim hq2
    | brk => exact False.elim hq2
    | cont => exact False.elim hq2
/-- C(e, ..) as a value -/
theorem pe_mkV {CX : CXT} {C fI : Addr} {k : Nat} {fd : FuncData} {ps : List Str} {sp : Sp} (T : OexC X.K C) (iC : PySem.W.findIn X.K (.ref C) "__init__" = some (some (.ref fI))) (tI : PySem.W.typeIn X.K (.ref fI) = some (.type "function"))
    (F1 : FnOk X.prog X.w X.K X.mg X.base CX k fI fd ps sp) (hr : Room (k + 1) X.A) (hx : Passes CX X (fun _ _ _ => False)) (hb : ∀ us : List Value, us.length = ps.length → bindArgs fd ⟨us, []⟩ = pure (ps.zip us)) (hg : Gl X x) (hm : X.mg x = some (.ref C)) (ha : PA X (e :: es) ta)
    (hd : (x == ("__debug__" : Str)) = false := by decide) (he : starEach (e :: es) X.env = (false, eval e X.env) :: starEach es X.env := by rfl) (hpl : (backTo pos (starEach es X.env)).any (·.1) = false := by rfl) :
    PE X (.Call (.Name x p) (e :: es) [] pos) (fun σ H Q => ta σ H fun vs H1 => wMk C sp vs H1 Q) := by
  refine ⟨fun pins s σ H Q I h => ?_⟩
  refine wpAny_Call_Name_kw (ld_glob I hg hm ?_ hd)
  refine PySem.W.callWith_K (h₀ := X.base) I.ok.mod.kin T.kC (thn (ha.run pos pins s σ H _ I h) fun us s1 ⟨vs, H1, I1, r1, q1⟩ => ⟨I1.kIn, ?_⟩) he hpl
  have hl : us.length ≤ sizeLine := by
    have h1 := q1.1
    rw [← Paired.length r1, sizeLine_eq]
    omega
  exact run_mk T iC tI F1 hr hx I1 r1 hl (fun self _ hl => hb _ hl) q1
/-- C(n = e), one keyword -/
theorem pe_mkK {CX : CXT} {C fI : Addr} {k : Nat} {fd : FuncData} {ps : List Str} {sp : Sp} {kws : List Keyword} {ks : List Str} {tk : TA} (T : OexC X.K C) (iC : PySem.W.findIn X.K (.ref C) "__init__" = some (some (.ref fI))) (tI : PySem.W.typeIn X.K (.ref fI) = some (.type "function"))
    (F1 : FnOk X.prog X.w X.K X.mg X.base CX k fI fd ps sp) (hr : Room (k + 1) X.A) (hx : Passes CX X (fun _ _ _ => False)) (hb : ∀ self (us : List Value), (self :: us).length = ps.length → bindArgs fd ⟨[self], ks.zip us⟩ = pure (ps.zip (self :: us))) (hg : Gl X x) (hm : X.mg x = some (.ref C)) (ha : PK X kws tk)
    (hall : (backToKw pos (keywordEach kws X.env)).all (·.1.isSome) = true := by rfl) (hks : (backToKw pos (keywordEach kws X.env)).filterMap (·.1) = ks := by rfl) (hd : (x == ("__debug__" : Str)) = false := by decide)
    (hpl : ((backTo pos (starEach [] X.env)).any (·.1) || (backToKw pos (keywordEach kws X.env)).any (·.1.isNone)) = false := by rfl) :
    PE X (.Call (.Name x p) [] kws pos) (fun σ H Q => tk σ H fun vs H1 => wMk C sp vs H1 Q) := by
  refine ⟨fun pins s σ H Q I h => ?_⟩
  refine wpAny_Call_Name_kw (ld_glob I hg hm ?_ hd)
  refine PySem.W.callWith_KW0 (h₀ := X.base) I.ok.mod.kin T.kC hall ?_ hpl
  refine thn (ha.run pos pins s σ H _ I h) fun us s1 ⟨vs, H1, I1, r1, q1⟩ => ⟨I1.kIn, ?_⟩
  rw [hks]
  exact run_mk (us := []) T iC tI F1 hr hx I1 r1 (Nat.zero_le _) (fun self _ hl => hb self us hl) q1
/-- an exception held: its record -/
theorem exo_inst {pins : List (Addr × Obj)} {σ : L2.St} {H : Hp} {s : Shared} {a C d : Addr} {fs : List (Str × V)} (I : Inv X pins σ H s) (e1 : H a = some (exo a C (some d))) (e2 : H d = some (exd d fs)) :
    ∃ (ox od : Obj) (mA : Str → Option Value), PySem.W.InstAt s.heap a ox C (some od) ∧ (∀ n, PySem.W.lookIn n od = some (mA n)) ∧ ∀ g, RelO (fs.lookup g) (mA g) := by
  obtain ⟨t1, ho⟩ := exo_at I.hok e1
  obtain ⟨mA, hns, rel⟩ := exd_at I.hok e2
  obtain ⟨od, ho2, hl⟩ := lookIn_ns hns
  exact ⟨_, od, mA, ⟨ho, rfl, rfl, ho2⟩, hl, rel⟩
/-- e.n, e such an exception -/
theorem pe_xv {n : Str} (he : PE X e te) (hb : attributeBase e n X.env (eval e X.env) = eval e X.env := by rfl) : PE X (.Attribute e n pos) (fun σ H Q => te σ H fun y H1 => ∃ (a C d : Addr) (fs : List (Str × V)) (v : V), y = .ref a ∧ XfC X.K C ∧ PySem.W.findIn X.K (.ref C) n = some none ∧
    H1 a = some (exo a C (some d)) ∧ H1 d = some (exd d fs) ∧ fs.lookup n = some v ∧ Q v H1) := by
  refine ⟨fun pins s σ H Q I h => ?_⟩
  refine attr_of hb (thn (he.run pins s σ H _ I h) fun u s1 ⟨y, H1, I1, ry, a, C, d, fs, v, ey, T, hno, e1, e2, l, q⟩ => ?_)
  subst ey
  cases (show u = Value.ref a from ry)
  obtain ⟨ox, od, mA, J, hl, rel⟩ := exo_inst I1 e1 e2
  obtain ⟨w, hw, rw'⟩ := RelO.some_of (v := v) (o := mA n) (by rw [← l]; exact rel n)
  exact HandSPX.exc_get I1.kIn J T.ga T.gg T.exC (PySem.W.findObj_own T.hdC hno rfl (by rw [hl, hw])) (handed_of rw') ⟨v, H1, I1.tok _, rw', q⟩
/-- isinstance(e, c), e such an exception -/
theorem ask_xv {pins : List (Addr × Obj)} {σ : L2.St} {H : Hp} {s : Shared} {a C : Addr} {c cv : Value} {b : Bool} {ox : Obj} {od : Option Obj} {Q : VK} (E : ExcC X.K C) (I : Inv X pins σ H s) (J : PySem.W.InstAt s.heap a ox C od) (ec : c = cv) (e : PySem.W.kitOne X.K (.ref C) cv = some b) (q : Q (.bl b) H) :
    wpAny (model X.prog X.w) X.A (call (.builtin "isinstance") [.ref a, c]) (EP X pins σ Q) X.xe s := by
  subst ec
  obtain ⟨cd, hcd, _⟩ := PySem.W.any_some E.hd
  exact PySem.W.kia_one (PySem.W.kitx_exc (by rw [hcd]; rfl) E.hg E.hk E.hs E.ha E.hn E.ht E.hm) I.kIn J e (fun z => nomatch z) fun tk => ⟨.bl b, H, I.kept (t' := tk) fun _ _ z => z, rfl, q⟩
end
end DLX

/-! DLX3: the rules over data: own exceptions made, raised, caught; what is open is shut. -/
namespace DL
open PySem PySem.Spec PyProof.Rows L2 DLX

/-! ### an open thing is shut: it stands as it is -/
def Opens.drop (O : Opens) (p : Addr) : Opens := fun b => if b = p then Option.none else O b
theorem Opens.drop_same {O : Opens} {p : Addr} : O.drop p p = Option.none := if_pos rfl
theorem Opens.drop_ne {O : Opens} {p b : Addr} (h : b ≠ p) : O.drop p b = O b := if_neg h
theorem Opens.drop_up {O : Opens} {p : Addr} {u : OO} (h : O p = Option.none) : (O.up p u).drop p = O := by
  funext b
  by_cases e : b = p
  · rw [e, Opens.drop_same, h]
  · rw [Opens.drop_ne e, Opens.up_ne e]
theorem ext_add {F : Fr} {p : Addr} {o : HO} (h : F.z p = none) : Ext F (F.add p o) := Ext.new h
section
variable {K : PySem.W.Frag} {F : Fr} {H : Hp} {O : Opens} {p : Addr} {o : HO} {u : OO}
theorem Stt.shut (S : Stt K F O H) (h : O p = some u) (ho : H p = some o) : Stt K (F.add p o) (O.drop p) H := by
  have hz := (S.opn p u h).1
  refine ⟨fun a w q => ?_, fun a w q => ?_, fun a w q => ?_⟩
  · have q : upd F.z p o a = some w := q
    by_cases e : a = p
    · rw [e, upd_same] at q
      rw [e, ho]; exact q
    · rw [upd_ne e] at q
      exact S.ext a w q
  · by_cases e : a = p
    · rw [e, Opens.drop_same] at q; cases q
    · rw [Opens.drop_ne e] at q
      obtain ⟨h1, w2, h2, h3⟩ := S.opn a w q
      exact ⟨by show upd F.z p o a = none; rw [upd_ne e]; exact h1, w2, h2, h3.mono (ext_add hz)⟩
  · obtain ⟨h1, h2, h3⟩ := S.rst a w q
    have e : a ≠ p := fun z => by rw [z, h] at h2; cases h2
    exact ⟨by show upd F.z p o a = none; rw [upd_ne e]; exact h1, by rw [Opens.drop_ne e]; exact h2, h3⟩
/-- all that H holds besides is left alone -/
def restOf (F : Fr) (O : Opens) (H : Hp) : Hp := fun b => if F.z b = none ∧ O b = none then H b else none
theorem Stt.pinAll (S : Stt K F O H) : Stt K ⟨F.z, restOf F O H⟩ O H := by
  refine ⟨S.ext, fun a w q => ?_, fun a w q => ?_⟩
  · obtain ⟨h1, w2, h2, h3⟩ := S.opn a w q
    exact ⟨h1, w2, h2, RepO.monoZ (F := F) (F' := ⟨F.z, restOf F O H⟩) (fun _ _ z => z) h3⟩
  · have q : (if F.z a = none ∧ O a = none then H a else none) = some w := q
    split at q
    · rename_i c; exact ⟨c.1, c.2, q⟩
    · cases q
theorem restOf_has (S : Stt K F O H) {a : Addr} {w : HO} (q : F.r a = some w) : restOf F O H a = some w := by
  obtain ⟨h1, h2, h3⟩ := S.rst a w q
  show (if F.z a = none ∧ O a = none then H a else none) = some w
  rw [if_pos ⟨h1, h2⟩]; exact h3
/-- .. and after a call with all left alone -/
theorem Stt.unpinAll {F' : Fr} {O' : Opens} {H' : Hp} (S : Stt K F O H) (S' : Stt K F' O' H') (e : Ext ⟨F.z, restOf F O H⟩ F') : Stt K ⟨F'.z, F.r⟩ O' H' ∧ Ext F ⟨F'.z, F.r⟩ := by
  refine ⟨⟨S'.ext, fun a w q => ?_, fun a w q => ?_⟩, ⟨e.1, rfl⟩⟩
  · obtain ⟨h1, w2, h2, h3⟩ := S'.opn a w q
    exact ⟨h1, w2, h2, RepO.monoZ (F := F') (F' := ⟨F'.z, F.r⟩) (fun _ _ z => z) h3⟩
  · exact S'.rst a w (by rw [e.2]; exact restOf_has S q)
/-- what is newly open was not there -/
theorem Stt.wasNew {F' : Fr} {O' : Opens} {H' : Hp} (S : Stt K F O H) (S' : Stt K F' O' H') (e : Ext ⟨F.z, restOf F O H⟩ F') {d : Addr} {w : OO} (h1 : O d = none) (h2 : O' d = some w) : H d = none := by
  cases q : H d with
  | none => rfl
  | some v =>
    have hz : F.z d = none := by
      cases y : F.z d with
      | none => rfl
      | some t => have z := e.1 d t y; rw [(S'.opn d w h2).1] at z; cases z
    have r : F'.r d = some v := by
      rw [e.2]
      show (if F.z d = none ∧ O d = none then H d else none) = some v
      rw [if_pos ⟨hz, h1⟩]; exact q
    have z := (S'.rst d v r).2.1
    rw [h2] at z; cases z
theorem Reps.onlyZ {r : Hp} {ds : List D} {vs : List V} (h : Reps K F ds vs) : Reps K ⟨F.z, r⟩ ds vs := Reps.monoZ (F := F) (F' := ⟨F.z, r⟩) (fun _ _ z => z) _ _ h
theorem Rep.onlyZ {r : Hp} {d : D} {v : V} (h : Rep K F d v) : Rep K ⟨F.z, r⟩ d v := Rep.monoZ (F := F) (F' := ⟨F.z, r⟩) (fun _ _ z => z) _ _ h
end
section
variable {Γ : G} {ρ : Env'} {O : Opens} {Z : EndsD} {Q : DK} {x f : Str} {e : Expr} {p pos pos2 : Pos}
/-- an open list that goes out as it stands -/
theorem we_shut (h : We Γ e ρ O fun d O1 => ∃ p ds, d = .raw (.ref p) ∧ O1 p = some (.lst ds) ∧ Q (.lst ds) (O1.drop p)) : We Γ e ρ O Q := fun F σ H e0 s r => (h F σ H e0 s r).mono fun v H1 ⟨d, F1, O1, e1, s1, r1, p, ds, hd, ho, q⟩ => by
  subst hd
  cases r1
  obtain ⟨h1, w, h2, vs, rfl, h3⟩ := s1.opn p _ ho
  exact ⟨.lst ds, F1.add p (.lst vs), O1.drop p, e1.trans (ext_add h1), s1.shut ho h2, rep_lst upd_same (h3.mono (ext_add h1)), q⟩
/-- an open list that a slot holds is shut -/
theorem wss_shut {st : List Stmt} {i : Nat} {p : Addr} {ds : List D} (hi : ρ[i]? = some (some (.raw (.ref p)))) (ho : O p = some (.lst ds)) (h : WSs Γ st (ρ.set i (some (.lst ds))) (O.drop p) Z) : WSs Γ st ρ O Z := fun F σ H e0 s r => by
  obtain ⟨h1, w, h2, vs, rfl, h3⟩ := s.opn p _ ho
  have ex := ext_add (o := .lst vs) h1
  obtain ⟨v, g1, g2⟩ := r.get i _ hi
  cases g2
  have rr : EnvR Γ.M.K (F.add p (.lst vs)) (ρ.set i (some (.lst ds))) σ := by
    refine ⟨by rw [List.length_set]; exact r.len, fun j d q => ?_⟩
    by_cases hj : j = i
    · subst hj
      have hl : j < ρ.length := (List.getElem?_eq_some_iff.mp hi).1
      rw [List.getElem?_set_self hl] at q
      cases q
      exact ⟨_, g1, rep_lst upd_same (h3.mono ex)⟩
    · rw [List.getElem?_set_ne (Ne.symm hj)] at q
      exact (r.mono ex).get j d q
  exact KE'.mono ex (h (F.add p (.lst vs)) σ H (e0.trans ex) (s.shut ho h2) rr)
end

/-! ### own exceptions -/
/-- an __init__(self, f) that says E.__init__(self, ..); self.f = f -/
def spIni (K : PySem.W.Frag) (f : Str) : SpD := fun ds O Q _ => ∃ (a C : Addr) (x : D), ds = [.raw (.ref a), x] ∧ O a = some (.exo a C none) ∧ OexC K C ∧ PySem.W.findIn K (.ref C) f = some none ∧ ∀ d, O d = none → d ≠ a → Q .non ((O.up d (.exd d [f] [x])).up a (.exo a C (some d)))
/-- the class x at C, its objects with the field f -/
structure XCls (M : Mo) (x : Str) (C : Addr) (f : Str) (k : Nat) : Prop where
  g : M.mg x = some (.ref C)
  T : OexC M.K C
  no : PySem.W.findIn M.K (.ref C) f = some none
  rd : XfC M.K C
  is : ExcC M.K C
  ini : ∃ (fI : Addr) (fd : FuncData), PySem.W.findIn M.K (.ref C) "__init__" = some (some (.ref fI)) ∧ PySem.W.typeIn M.K (.ref fI) = some (.type "function") ∧ FnOk M.P M.w M.K M.mg M.base (L2.CX M.P M.w) k fI fd ["self", f] (lift M.K (spIni M.K f)) ∧
    (∀ us : List Value, us.length = 2 → bindArgs fd ⟨us, []⟩ = pure ([("self" : Str), f].zip us)) ∧ ∀ self (us : List Value), (self :: us).length = 2 → bindArgs fd ⟨[self], [f].zip us⟩ = pure ([("self" : Str), f].zip (self :: us))
theorem no_pass {X : Cx} {P : Program} {w : World} : Passes (L2.CX P w) X (fun _ _ _ => False) := fun _ _ _ _ _ _ _ ⟨_, _, _, _, _, _, _, _, _, _, _, _, h⟩ => h.elim
section
variable {Γ : G} {ρ : Env'} {O : Opens} {Z : EndsD} {Q : DK} {x f : Str} {e : Expr} {p pos pos2 : Pos} {C : Addr} {k : Nat}
/-- the state behind such an __init__ -/
def IniQ (O1 : Opens) (a C : Addr) (f : Str) (d : D) : DK := fun r O' => r = .non ∧ ∃ dd, O1 dd = none ∧ dd ≠ a ∧ O' = ((O1.up a (.exo a C none)).up dd (.exd dd [f] [d])).up a (.exo a C (some dd))
theorem ini_lift {K : PySem.W.Frag} {F1 : Fr} {O1 : Opens} {H1 : Hp} {a : Addr} {d : D} {v : V} {Qv : VK} (T : OexC K C) (no : PySem.W.findIn K (.ref C) f = some none) (s1 : Stt K F1 O1 H1) (ha : H1 a = none) (r : Rep K F1 d v)
    (h : ∀ (F' : Fr) (O' : Opens) (H' : Hp) (dd : Addr), Ext F1 ⟨F'.z, F1.r⟩ → Stt K ⟨F'.z, F1.r⟩ O' H' → O1 dd = none → dd ≠ a → H1 dd = none → O' = ((O1.up a (.exo a C none)).up dd (.exd dd [f] [d])).up a (.exo a C (some dd)) → Qv .non H') :
    lift K (spIni K f) [.ref a, v] (upd H1 a (exo a C none)) Qv (fun _ _ _ => False) := by
  have hO := s1.closed ha
  have S2 : Stt K F1 (O1.up a (.exo a C none)) (upd H1 a (exo a C none)) := s1.open_ ha rfl
  refine ⟨[.raw (.ref a), d], ⟨F1.z, restOf F1 (O1.up a (.exo a C none)) (upd H1 a (exo a C none))⟩, O1.up a (.exo a C none), IniQ O1 a C f d, fun _ _ => False, Reps.cons rep_raw (Reps.cons r.onlyZ Reps.nil), S2.pinAll, ?_, ?_, fun _ _ _ _ _ _ _ _ _ h => h.elim⟩
  · refine ⟨a, C, d, rfl, Opens.up_same, T, no, fun dd h1 h2 => ⟨rfl, dd, ?_, h2, rfl⟩⟩
    rw [Opens.up_ne h2] at h1
    exact h1
  · intro d' v' F' O' H' ee S' r' ⟨hd, dd, h1, h2, hO'⟩
    subst hd
    cases r'
    obtain ⟨S3, e3⟩ := S2.unpinAll S' ee
    have hn : (upd H1 a (exo a C none)) dd = none := S2.wasNew S' ee (w := .exd dd [f] [d]) (by rw [Opens.up_ne h2]; exact h1) (by rw [hO', Opens.up_ne h2, Opens.up_same])
    rw [upd_ne h2] at hn
    exact h F' O' H' dd e3 S3 h1 h2 hn hO'
theorem exc_value {K : PySem.W.Frag} {F1 : Fr} {O1 O' : Opens} {H1 H' : Hp} {a dd : Addr} {d : D} (S : Stt K F1 O' H') (ha : O1 a = none) (h1 : O1 dd = none) (h2 : dd ≠ a) (e : O' = ((O1.up a (.exo a C none)).up dd (.exd dd [f] [d])).up a (.exo a C (some dd))) :
    ∃ F2, Ext F1 F2 ∧ Stt K F2 O1 H' ∧ Rep K F2 (.exc C [f] [d]) (.ref a) := by
  have ea : O' a = some (.exo a C (some dd)) := by rw [e, Opens.up_same]
  have ed : O' dd = some (.exd dd [f] [d]) := by rw [e, Opens.up_ne h2, Opens.up_same]
  obtain ⟨za, oa, ga, ra⟩ := S.opn a _ ea
  have ra : oa = exo a C (some dd) := ra
  subst ra
  have S1 := S.shut ea ga
  have ed1 : O'.drop a dd = some (.exd dd [f] [d]) := by rw [Opens.drop_ne h2]; exact ed
  obtain ⟨zd, od, gd, vs, rd, hl, rr⟩ := S1.opn dd _ ed1
  subst rd
  have S2 := S1.shut ed1 gd
  have x1 : Ext F1 (F1.add a (exo a C (some dd))) := ext_add za
  have x2 := ext_add (o := exd dd ([f].zip vs)) zd
  have eO : (O'.drop a).drop dd = O1 := by
    funext b
    by_cases hb : b = dd
    · rw [hb, Opens.drop_same, h1]
    · rw [Opens.drop_ne hb]
      by_cases hc : b = a
      · rw [hc, Opens.drop_same, ha]
      · rw [Opens.drop_ne hc, e, Opens.up_ne hc, Opens.up_ne hb, Opens.up_ne hc]
  rw [eO] at S2
  refine ⟨_, x1.trans x2, S2, a, dd, vs, rfl, ?_, upd_same, rfl, rr.mono x2⟩
  exact x2.1 a _ upd_same
theorem mk_run {X : Cx} (hX : Γ.Has X) {F F1 : Fr} {O1 : Opens} {H1 : Hp} {d : D} {v : V} (hc : XCls Γ.M x C f k) (e1 : Ext F F1) (s1 : Stt Γ.M.K F1 O1 H1) (r1 : Rep Γ.M.K F1 d v) (q : Q (.exc C [f] [d]) O1) : wMk C (lift X.K (spIni X.K f)) [v] H1 (KV' Γ F Q) := by
  refine ⟨by show 1 ≤ 1000; omega, fun a ha => ?_⟩
  rw [← hX.K]
  refine ini_lift hc.T hc.no s1 ha r1 fun F' O' H' dd e3 S3 h1 h2 hn hO => ⟨rfl, ?_⟩
  obtain ⟨F2, x2, S2, rr⟩ := exc_value (H1 := H1) S3 (s1.closed ha) h1 h2 hO
  exact ⟨.exc C [f] [d], F2, O1, e1.trans (e3.trans x2), S2, rr, q⟩
theorem XCls.at {X : Cx} (hX : Γ.Has X) (hc : XCls Γ.M x C f k) : XCls ⟨X.prog, X.w, X.K, X.mg, X.base⟩ x C f k := hX.M ▸ hc
/-- C(e) -/
theorem we_mkx (hc : XCls Γ.M x C f k) (hk : k + 1 ≤ Γ.k) (hg : GlN Γ x) (hh : Γ.hot = false) (h : We Γ e ρ O fun d O1 => Q (.exc C [f] [d]) O1) (hd : (x == ("__debug__" : Str)) = false := by decide) (h1 : ∀ env, starEach [e] env = (false, eval e env) :: starEach [] env := by intro _; rfl) : We Γ (.Call (.Name x p) [e] [] pos) ρ O Q := fun F σ H e0 s r X hX pins st I => by
  have hc' := hc.at hX
  obtain ⟨fI, fd, i1, i2, i3, i4, i5⟩ := hc'.ini
  refine (pe_mkV hc'.T i1 i2 i3 ((hX.room hh).mono hk) no_pass i4 (hX.gl hg) hc'.g (pa_cons (Ev.pe hX e) pa_nil (h1 X.env)) hd (h1 X.env)).run pins st σ H _ I ((h F σ H e0 s r).mono fun v H1 ⟨d, F1, O1, e1, s1, r1, q⟩ => ?_)
  exact mk_run hX hc e1 s1 r1 q
/-- C(f = e) -/
theorem we_mkxK {kp : Pos} (hc : XCls Γ.M x C f k) (hk : k + 1 ≤ Γ.k) (hg : GlN Γ x) (hh : Γ.hot = false) (h : We Γ e ρ O fun d O1 => Q (.exc C [f] [d]) O1) (hd : (x == ("__debug__" : Str)) = false := by decide)
    (hall : ∀ env, (backToKw pos (keywordEach [⟨some f, e, kp⟩] env)).all (·.1.isSome) = true := by intro _; rfl) (hks : ∀ env, (backToKw pos (keywordEach [⟨some f, e, kp⟩] env)).filterMap (·.1) = [f] := by intro _; rfl)
    (hpl : ∀ env, ((backTo pos (starEach [] env)).any (·.1) || (backToKw pos (keywordEach [⟨some f, e, kp⟩] env)).any (·.1.isNone)) = false := by intro _; rfl) : We Γ (.Call (.Name x p) [] [⟨some f, e, kp⟩] pos) ρ O Q := fun F σ H e0 s r X hX pins st I => by
  have hc' := hc.at hX
  obtain ⟨fI, fd, i1, i2, i3, i4, i5⟩ := hc'.ini
  refine (pe_mkK (ks := [f]) hc'.T i1 i2 i3 ((hX.room hh).mono hk) no_pass i5 (hX.gl hg) hc'.g (pk_cons (Ev.pe hX e) pk_nil) (hall X.env) (hks X.env) hd (hpl X.env)).run pins st σ H _ I ((h F σ H e0 s r).mono fun v H1 ⟨d, F1, O1, e1, s1, r1, q⟩ => ?_)
  exact mk_run hX hc e1 s1 r1 q
/-- raise C(e) -/
theorem ws_raise (hc : XCls Γ.M x C f k) (hk : k + 1 ≤ Γ.k) (hg : GlN Γ x) (hh : Γ.hot = false) (h : We Γ e ρ O fun d O1 => Γ.E ⟨C, [f], [d]⟩ ρ O1) (hd : (x == ("__debug__" : Str)) = false := by decide) (h1 : ∀ env, starEach [e] env = (false, eval e env) :: starEach [] env := by intro _; rfl) : WS Γ (.Raise (some (.Call (.Name x p) [e] [] pos)) none pos2) ρ O Z := fun F σ H e0 s r X hX pins st I => by
  have hc' := hc.at hX
  obtain ⟨fI, fd, i1, i2, i3, i4, i5⟩ := hc'.ini
  refine (ps_raise (hX.calm hh) hX.takes (pmk_oex hc'.T i1 i2 i3 ((hX.room hh).mono hk) (.all i4) .nil no_pass (hX.gl hg) hc'.g (pa_cons (Ev.pe hX e) pa_nil (h1 X.env)) hd (h1 X.env))).run pins st σ H _ I ((h F σ H e0 s r).mono fun v H1 ⟨d, F1, O1, e1, s1, r1, q⟩ => ?_)
  refine ⟨by show 1 ≤ 1000; omega, fun a ha => ?_⟩
  rw [← hX.K]
  refine ini_lift hc.T hc.no s1 ha r1 fun F' O' H' dd e3 S3 h1 h2 hn hO => ⟨rfl, dd, ?_⟩
  have ea : O' a = some (.exo a C (some dd)) := by rw [hO, Opens.up_same]
  have ed : O' dd = some (.exd dd [f] [d]) := by rw [hO, Opens.up_ne h2, Opens.up_same]
  obtain ⟨za, oa, ga, ra⟩ := S3.opn a _ ea
  have ra : oa = exo a C (some dd) := ra
  subst ra
  obtain ⟨zd, od, gd, vs, rd, hl, rr⟩ := S3.opn dd _ ed
  subst rd
  have oa1 := s1.closed ha
  refine ⟨[f].zip vs, ga, gd, hn, ?_⟩
  have xx : Ext ⟨F'.z, F1.r⟩ (Fr.add ⟨F'.z, F1.r⟩ dd (.xd ([f].zip vs))) := ext_add zd
  refine ⟨⟨C, [f], [d]⟩, ρ, Fr.add ⟨F'.z, F1.r⟩ dd (.xd ([f].zip vs)), O1, (e0.trans e1).trans (e3.trans xx), ?_, (r.mono e1).mono (e3.trans xx), ⟨rfl, rfl, .inr ⟨dd, vs, rfl, upd_same, rr.mono xx⟩⟩, q⟩
  refine ⟨fun b w q => ?_, fun b w q => ?_, fun b w q => ?_⟩
  · have q : upd F'.z dd (.xd ([f].zip vs)) b = some w := q
    by_cases hb : b = dd
    · rw [hb, upd_same] at q ⊢; exact q
    · rw [upd_ne hb] at q ⊢
      have hba : b ≠ a := fun z => by rw [z, show F'.z a = none from za] at q; cases q
      rw [del_ne hba]
      exact S3.ext b w q
  · have hba : b ≠ a := fun z => by rw [z, oa1] at q; cases q
    have hbd : b ≠ dd := fun z => by rw [z, h1] at q; cases q
    obtain ⟨g1, w2, g2, g3⟩ := S3.opn b w (by rw [hO, Opens.up_ne hba, Opens.up_ne hbd, Opens.up_ne hba]; exact q)
    exact ⟨by show upd F'.z dd _ b = none; rw [upd_ne hbd]; exact g1, w2, by rw [upd_ne hbd, del_ne hba]; exact g2, g3.mono xx⟩
  · obtain ⟨g1, g2, g3⟩ := S3.rst b w q
    have hba : b ≠ a := fun z => by rw [z, ea] at g2; cases g2
    have hbd : b ≠ dd := fun z => by rw [z, ed] at g2; cases g2
    exact ⟨by show upd F'.z dd _ b = none; rw [upd_ne hbd]; exact g1, by
      rw [hO, Opens.up_ne hba, Opens.up_ne hbd, Opens.up_ne hba] at g2; exact g2, by rw [upd_ne hbd, del_ne hba]; exact g3⟩
end
end DL

/-! DLX4: the rules over data: try .. except, fields of exceptions, isinstance of them. -/
namespace DL
open PySem PySem.Spec PyProof.Rows L2 DLX

/-- where an except suite runs: the exception x at a, its dict at da -/
def suiteG (Γ : G) (F0 : Fr) (a : Addr) (x : XD) (da : Option Addr) : G := { Γ with hot := true, F0 := F0, E := fun _ _ _ => False, pin := fun b cls d => b = a ∧ cls = .ref x.cls ∧ d = da }
/-- where a try's body runs -/
def tryG (Γ : G) (F0 : Fr) (E : XD → Env' → Opens → Prop) : G := { Γ with F0 := F0, E := E, pin := fun _ _ _ => False }
theorem suiteG_has {Γ : G} {X : Cx} {F0 : Fr} {a : Addr} {x : XD} {da : Option Addr} {oe : Obj} {pn : List (Addr × Obj)} (hX : Γ.Has X) (hz : Zc (.ref x.cls) da oe) (hf : ∃ vs, oe.data = .fields vs) : (suiteG Γ F0 a x da).Has (X.suite a ((a, oe) :: pn)) where
  M := hX.M
  N := hX.N
  nd := hX.nd
  sc := hX.sc
  calm := fun h => absurd (show true = false from h) (by decide)
  room := fun h => absurd (show true = false from h) (by decide)
  units := hX.units
  fn := hX.fn
  takes := fun u s' ⟨_, _, _, _, _, _, _, _, _, _, _, _, _, _, _, _, w⟩ => by
    obtain ⟨_, _, _, _, _, _, _, _, q⟩ := w
    exact q.elim
  passes := PassesOwn.never
  stk := hX.stk
  pin := fun b cls d ⟨h1, h2, h3⟩ => by
    subst h1 h2 h3
    exact ⟨oe, hz, hf, List.mem_cons_self⟩
theorem tryG_has {Γ : G} {X : Cx} {F0 : Fr} {E : XD → Env' → Opens → Prop} {pn : List (Addr × Obj)} {xe : Value → Shared → Prop} (hX : Γ.Has X) (tk : Takes (X.tr pn xe) (tryG Γ F0 E).W) (ps : PassesOwn (model X.prog X.w) X.A X.env xe) : (tryG Γ F0 E).Has (X.tr pn xe) where
  M := hX.M
  N := hX.N
  nd := hX.nd
  sc := hX.sc
  calm := hX.calm
  room := hX.room
  units := hX.units
  fn := hX.fn
  takes := tk
  passes := ps
  stk := hX.stk
  pin := fun _ _ _ h => h.elim
/-- one clause: its classes, the slot of its name, its suite -/
abbrev HdD := List Value × Nat × List Stmt
inductive HdsD (Γ : G) : List ExceptHandler → List HdD → Prop
  | nil : HdsD Γ [] []
  | cons {t : Expr} {n : Str} {cs : List Value} {i : Nat} {b0 : Stmt} {su : List Stmt} {p : Pos} {hs : List ExceptHandler} {l : List HdD} (ht : ∀ X, Γ.Has X → Asks X t cs) (hi : Γ.N[i]? = some n) (hl : Γ.sc.names.lookup n = some .local) (r : HdsD Γ hs l) : HdsD Γ (.ExceptHandler (some t) (some n) (b0 :: su) p :: hs) ((cs, i, b0 :: su) :: l)
/-- what the clauses wish of an exception of the body -/
def EHs (Γ : G) (Z : EndsD) : List HdD → XD → Env' → Opens → Prop
  | [] => Γ.E
  | (cs, i, su) :: r => fun x ρ O => ∃ b, PySem.W.exmAny Γ.M.K (.ref x.cls) cs = some b ∧ (b = true → ∀ F0 a da, Ext Γ.F0 F0 → RepX Γ.M.K F0 x (.ref x.cls) da → WSs (suiteG Γ F0 a x da) su (ρ.set i (some (.raw (.ref a)))) O { nx := fun ρ' O' => Z.nx (ρ'.set i none) O', rt := Z.rt, bk := fun ρ' O' => Z.bk (ρ'.set i none) O', ct := fun ρ' O' => Z.ct (ρ'.set i none) O' }) ∧ (b = false → EHs Γ Z r x ρ O)
section
variable {Γ : G} {ρ : Env'} {O : Opens} {Z : EndsD} {Q : DK} {x : Str} {e : Expr} {p pos : Pos}
/-- the reading of a suite at the level below -/
def tSu (X : Cx) (su : List Stmt) : Addr → Value → Option Addr → TS := fun a cls d D σ H => ∃ Γ' : G, (∀ (oe : Obj) (pn : List (Addr × Obj)), Zc cls d oe → (∃ vs, oe.data = .fields vs) → Γ'.Has (X.suite a ((a, oe) :: pn))) ∧ EvSs Γ' su D σ H
theorem hds_a {X : Cx} (hX : Γ.Has X) : ∀ {hs : List ExceptHandler} {l : List HdD}, HdsD Γ hs l → HdA X hs (l.map fun (h : HdD) => (h.1, h.2.1, tSu X h.2.2))
  | _, _, .nil => .nil
  | _, _, .cons ht hi hl r => .cons (ht X hX) (by rw [hX.N]; exact hi) (by show X.env.scope.names.lookup _ = _; rw [hX.sc]; exact hl)
      (fun a oe cls d pn hz hf => ⟨fun pins s σ H D I ⟨Γ', g, q⟩ => (EvSs.pss (g oe pn hz hf) _).run pins s σ H D I q⟩) (hds_a hX r)
theorem ehs_w {X : Cx} (hX : Γ.Has X) {F F' : Fr} {σ : L2.St} {H : Hp} {xd : XD} {ρ' : Env'} {O' : Opens} {cls : Value} {d : Option Addr} (e0 : Ext Γ.F0 F) (e1 : Ext F F') (s : Stt Γ.M.K F' O' H) (r : EnvR Γ.M.K F' ρ' σ) (rx : RepX Γ.M.K F' xd cls d) :
    ∀ {l : List HdD}, EHs Γ Z l xd ρ' O' → wHds X.K Γ.W (KE' Γ F Z) (l.map fun (h : HdD) => (h.1, h.2.1, tSu X h.2.2)) cls d σ H
  | [], h => ⟨xd, ρ', F', O', e0.trans e1, s, r, rx, h⟩
  | (cs, i, su) :: l, ⟨b, h1, h2, h3⟩ => by
    have rx0 := rx
    obtain ⟨ec, rx2⟩ := rx
    subst ec
    refine ⟨b, by rw [← hX.K]; exact h1, fun hb a ha => ?_, fun hb => ehs_w hX e0 e1 s r rx0 (h3 hb)⟩
    have wr := h2 hb F' a d (e0.trans e1) rx0
    refine ⟨suiteG Γ F' a xd d, fun oe pn hz hf => suiteG_has hX hz hf, ?_⟩
    refine (wr F' (σ.set i (some (.ref a))) H (Ext.refl F') s (r.set i rep_raw)).mono (fun σ2 H2 ⟨ρ2, F2, O2, e2, s2, r2, q2⟩ => ?_) (fun v H2 ⟨d2, F2, O2, e2, s2, r2, q2⟩ => ⟨d2, F2, O2, e1.trans e2, s2, r2, q2⟩) (fun σ2 H2 ⟨ρ2, F2, O2, e2, s2, r2, q2⟩ => ?_) fun σ2 H2 ⟨ρ2, F2, O2, e2, s2, r2, q2⟩ => ?_
    · exact ⟨ρ2.set i none, F2, O2, e1.trans e2, s2, r2.forget i none, q2⟩
    · exact ⟨ρ2.set i none, F2, O2, e1.trans e2, s2, r2.forget i none, q2⟩
    · exact ⟨ρ2.set i none, F2, O2, e1.trans e2, s2, r2.forget i none, q2⟩
theorem ws_try {body : List Stmt} {h0 : ExceptHandler} {hs : List ExceptHandler} {l : List HdD} (ht : Γ.top = true) (hh : HdsD Γ (h0 :: hs) l) (h : ∀ F, Ext Γ.F0 F → WSs (tryG Γ F (EHs Γ Z l)) body ρ O Z) : WS Γ (.Try body (h0 :: hs) [] [] pos) ρ O Z := fun F σ H e0 s r X hX pins st I => by
  obtain ⟨k1, k2⟩ := hX.stk ht
  refine (ps_tryA (tb := fun W D σ H => (∀ cls d σ H, (tryG Γ F (EHs Γ Z l)).W cls d σ H → W cls d σ H) ∧ EvSs (tryG Γ F (EHs Γ Z l)) body D σ H) k1 k2 (by rw [hX.N]; exact hX.nd) hX.takes (fun W pn xe tk po => ⟨fun pins s σ H D I ⟨m, q⟩ => ?_⟩) (hds_a hX hh)).run pins st σ H _ I ?_
  · exact (EvSs.pss (tryG_has hX (tk.imp m) po) body).run pins s σ H D I q
  · refine ⟨fun cls d σ' H' ⟨xd, ρ', F', O', e1, s', r', rx, q⟩ => ehs_w hX e0 e1 s' r' rx q, ?_⟩
    exact (h F e0 F σ H (Ext.refl F) s r).mono (fun _ _ q => q) (fun _ _ q => q) (fun _ _ q => q) fun _ _ q => q
/-! ### fields of exceptions, isinstance of them -/
theorem zip_lookup {n : Str} : ∀ {ns : List Str} {ds : List D} {vs : List V} {K : PySem.W.Frag} {F : Fr} {d : D}, (ns.zip ds).lookup n = some d → Reps K F ds vs → ∃ v, (ns.zip vs).lookup n = some v ∧ Rep K F d v
  | [], _, _, _, _, _, h, _ => by cases h
  | _ :: _, [], _, _, _, _, h, _ => by cases h
  | m :: ns, x :: ds, vs, K, F, d, h, r => by
    obtain ⟨v, t, rfl, h1, h2⟩ := r
    by_cases e : n = m
    · subst e
      rw [List.zip_cons_cons, List.lookup_cons] at h
      rw [List.zip_cons_cons, List.lookup_cons]
      simp only [beq_self_eq_true] at h ⊢
      cases h
      exact ⟨v, rfl, h1⟩
    · have e' : (n == m) = false := by simpa using e
      rw [List.zip_cons_cons, List.lookup_cons] at h
      rw [List.zip_cons_cons, List.lookup_cons]
      simp only [e'] at h ⊢
      exact zip_lookup h h2
/-- e.n, e an exception held -/
theorem we_xv {n : Str} (h : We Γ e ρ O fun y O1 => ∃ C ns ds d, y = .exc C ns ds ∧ XfC Γ.M.K C ∧ PySem.W.findIn Γ.M.K (.ref C) n = some none ∧ (ns.zip ds).lookup n = some d ∧ Q d O1) (hb : ∀ env, attributeBase e n env (eval e env) = eval e env := by intro _; rfl) : We Γ (.Attribute e n pos) ρ O Q := fun F σ H e0 s r X hX pins st I => by
  refine (pe_xv (Ev.pe hX e) (hb X.env)).run pins st σ H _ I ((h F σ H e0 s r).mono fun v H1 ⟨y, F1, O1, e1, s1, r1, C, ns, ds, d, hy, T, no, hl, q⟩ => ?_)
  subst hy
  obtain ⟨a, dd, vs, rfl, h1, h2, h3, h4⟩ := r1
  obtain ⟨w, g1, g2⟩ := zip_lookup hl h4
  exact ⟨a, C, dd, ns.zip vs, w, rfl, hX.K ▸ T, hX.K ▸ no, s1.ext _ _ h1, s1.ext _ _ h2, g1, kv1 e1 s1 g2 q⟩
/-- e.n, e the exception that the suite holds -/
theorem we_xp {n : Str} (h : We Γ e ρ O fun y O1 => ∃ (a C : Addr) (ns : List Str) (ds : List D) (da : Addr) (d : D), y = .raw (.ref a) ∧ Γ.pin a (.ref C) (some da) ∧ (∃ vs, Γ.F0.z da = some (.xd (ns.zip vs)) ∧ Reps Γ.M.K Γ.F0 ds vs) ∧ XfC Γ.M.K C ∧ PySem.W.findIn Γ.M.K (.ref C) n = some none ∧ (ns.zip ds).lookup n = some d ∧ Q d O1) (hb : ∀ env, attributeBase e n env (eval e env) = eval e env := by intro _; rfl) : We Γ (.Attribute e n pos) ρ O Q := fun F σ H e0 s r X hX pins st I => by
  refine attr_of (hb X.env) (thn ((Ev.pe hX e).run pins st σ H _ I (h F σ H e0 s r)) fun u s1 ⟨v, H1, I1, rv, y, F1, O1, e1, S1, r1, a, C, ns, ds, da, d, hy, hp, ⟨vs, z1, z2⟩, T, no, hl, q⟩ => ?_)
  subst hy
  cases r1
  cases (show u = Value.ref a from rv)
  obtain ⟨oe, hz, ⟨us, hf⟩, hm⟩ := hX.pin a _ _ hp
  obtain ⟨ha, _⟩ := I1.pin (a, oe) (List.mem_append_left _ hm)
  have e01 := e0.trans e1
  have hx : ObjOk X.prog X.w H1 s1.heap da (.xd (ns.zip vs)) := I1.hok da _ (S1.ext _ _ (e01.1 _ _ z1))
  obtain ⟨mA, hns, hr⟩ := hx
  obtain ⟨od, ho, hl2⟩ := lookIn_ns hns
  obtain ⟨w, g1, g2⟩ := zip_lookup hl z2
  obtain ⟨t, ht, rt⟩ := RelO.some_of (v := w) (o := mA n) (by rw [← g1]; exact hr n)
  have J : PySem.W.InstAt s1.heap a oe C (some od) := ⟨ha, hz.1, by unfold PySem.W.notCls; rw [hf], by rw [hz.2]; exact ho⟩
  have T' := hX.K ▸ T
  have no' := hX.K ▸ no
  exact HandSPX.exc_get I1.kIn J T'.ga T'.gg T'.exC (PySem.W.findObj_own T'.hdC no' rfl (by rw [hl2, ht])) (handed_of rt) ⟨w, H1, I1.tok _, rt, kv1 e1 S1 (g2.mono e01) q⟩
/-- a class as a value: what isinstance is asked -/
def clsV : D → Option Value
  | .raw (.ref C) => some (.ref C)
  | .raw (.ty n) => some (.type n)
  | _ => none
theorem clsV_ok {K : PySem.W.Frag} {F : Fr} {d : D} {v : V} {u cv : Value} (h : clsV d = some cv) (r : Rep K F d v) (rv : RelV v u) : u = cv := by
  cases d with
  | raw x =>
    cases r
    cases v with
    | ref a => cases h; exact rv
    | ty n => cases h; exact rv
    | _ => cases h
  | _ => cases h
/-- isinstance(e, c), e an exception held or caught -/
def IsXQ (Γ : G) : DC := fun ds O Q => match ds with
  | [.exc C ns es, c] => ∃ cv b, clsV c = some cv ∧ ExcC Γ.M.K C ∧ PySem.W.kitOne Γ.M.K (.ref C) cv = some b ∧ Q (.bl b) O
  | [.raw (.ref a), c] => ∃ C da cv b, Γ.pin a (.ref C) (some da) ∧ (∃ (ns : List Str) (vs : List V), Γ.F0.z da = some (.xd (ns.zip vs))) ∧ clsV c = some cv ∧ ExcC Γ.M.K C ∧ PySem.W.kitOne Γ.M.K (.ref C) cv = some b ∧ Q (.bl b) O
  | _ => False
theorem isx_ok {X : Cx} (hX : Γ.Has X) : CallD Γ X (.builtin "isinstance") (IsXQ Γ) := by
  intro F O ds Q pins s σ H vs us I rv e0 S rd h
  unfold IsXQ at h
  split at h
  · rename_i C ns es c
    obtain ⟨cv, b, h1, E, h2, q⟩ := h
    obtain ⟨v, w, rfl, r1, r2⟩ := reps2 rd
    obtain ⟨a, dd, ws, rfl, g1, g2, _, _⟩ := r1
    obtain ⟨u1, u2, rfl, q1, q2⟩ := vals2 rv
    cases (show u1 = Value.ref a from q1)
    obtain ⟨ox, od, mA, J, _, _⟩ := exo_inst I (S.ext _ _ g1) (S.ext _ _ g2)
    exact ask_xv (hX.K ▸ E) I J (clsV_ok h1 r2 q2) (hX.K ▸ h2) (kv S rep_bl q)
  · rename_i a c
    obtain ⟨C, da, cv, b, hp, ⟨ns, ws, z1⟩, h1, E, h2, q⟩ := h
    obtain ⟨v, w, rfl, r1, r2⟩ := reps2 rd
    cases r1
    obtain ⟨u1, u2, rfl, q1, q2⟩ := vals2 rv
    cases (show u1 = Value.ref a from q1)
    obtain ⟨oe, hz, ⟨fv, hf⟩, hm⟩ := hX.pin a _ _ hp
    obtain ⟨ha, _⟩ := I.pin (a, oe) (List.mem_append_left _ hm)
    have hx : ObjOk X.prog X.w H s.heap da (.xd (ns.zip ws)) := I.hok da _ (S.ext _ _ (e0.1 _ _ z1))
    obtain ⟨mA, hns, hr⟩ := hx
    obtain ⟨od, ho, hl2⟩ := lookIn_ns hns
    have J : PySem.W.InstAt s.heap a oe C (some od) := ⟨ha, hz.1, by unfold PySem.W.notCls; rw [hf], by rw [hz.2]; exact ho⟩
    exact ask_xv (hX.K ▸ E) I J (clsV_ok h1 r2 q2) (hX.K ▸ h2) (kv S rep_bl q)
  · exact h.elim
theorem we_isx {a : Expr} (B : Blt Γ.M) (hg : GlN Γ "isinstance") (h : We Γ e ρ O fun d O1 => We Γ a ρ O1 fun c O2 => IsXQ Γ [d, c] O2 Q)
    (h1 : ∀ env, starEach [e, a] env = (false, eval e env) :: starEach [a] env := by intro _; rfl) (h2 : ∀ env, starEach [a] env = (false, eval a env) :: starEach [] env := by intro _; rfl) (hpl : ∀ env, (backTo pos (starEach [a] env)).any (·.1) = false := by intro _; rfl) : We Γ (.Call (.Name "isinstance" p) [e, a] [] pos) ρ O Q :=
  we_blt (fun X hX => isx_ok hX) hg B.isinstance PyProof.Rows.boot_isinstance (wa_cons (h.imp fun _ _ q => wa_cons (q.imp fun _ _ q => wa_nil q) h2) h1) (he := h1) (hpl := hpl)
/-- an own class by its name -/
theorem we_cls {C : Addr} (hg : GlN Γ x) (hm : Γ.M.mg x = some (.ref C)) (h : Q (.raw (.ref C)) O) (h1 : (x == ("__debug__" : Str)) = false := by decide) : We Γ (.Name x pos) ρ O Q := we_glob (v := .ref C) (d := .raw (.ref C)) hg hm rfl (fun _ => rfl) h h1
end
end DL

/-! DLH: one way to walk whatever is walked: for, comprehensions (as values, stored in a name). -/
namespace DL
open PySem PySem.Spec PyProof.Rows L2

/-- J gives n items, the i-th being it i, while what is frozen in F1 stands -/
def ItOk (K : PySem.W.Frag) (F1 : Fr) (J : It) (n : Nat) (it : Nat → Option D) : Prop := ∃ (G : Hp → Prop) (Y : Nat → Hp → V → Hp → Prop), Walk J n G Y ∧ (∀ F2 O2 H2, (∀ a o, F1.z a = some o → F2.z a = some o) → Stt K F2 O2 H2 → G H2) ∧
  ∀ F2 O2 H2 i x H', (∀ a o, F1.z a = some o → F2.z a = some o) → Stt K F2 O2 H2 → i < n → Y i H2 x H' → ∃ F3 d, Ext F2 F3 ∧ Stt K F3 O2 H' ∧ it i = some d ∧ Rep K F3 d x
/-- the walk of iter, before its target: what R says of the number and the items -/
def PiD (Γ : G) (tg iter : Expr) (ρ : Env') (O : Opens) (R : Nat → (Nat → Option D) → Opens → Prop) : Prop := ∀ X, Γ.Has X → ∃ wi : TI, PI X tg iter wi ∧ ∀ F σ H (Rv : It → Hp → Prop), Ext Γ.F0 F → Stt Γ.M.K F O H → EnvR Γ.M.K F ρ σ →
  (∀ F1 O1 H1 J n it, Ext F F1 → Stt Γ.M.K F1 O1 H1 → ItOk Γ.M.K F1 J n it → R n it O1 → Rv J H1) → wi σ H Rv
section
variable {Γ : G} {ρ : Env'} {O : Opens} {Z : EndsD} {Q : DK} {tg iter : Expr} {R : Nat → (Nat → Option D) → Opens → Prop}
theorem PiD.imp {R' : Nat → (Nat → Option D) → Opens → Prop} (h : PiD Γ tg iter ρ O R) (m : ∀ n it O1, R n it O1 → R' n it O1) : PiD Γ tg iter ρ O R' := fun X hX => by
  obtain ⟨wi, h1, h2⟩ := h X hX
  exact ⟨wi, h1, fun F σ H Rv e0 s r k => h2 F σ H Rv e0 s r fun F1 O1 H1 J n it e1 s1 io q => k F1 O1 H1 J n it e1 s1 io (m _ _ _ q)⟩
theorem itok_list {K : PySem.W.Frag} {F1 : Fr} {a : Addr} {ds : List D} {vs : List V} (h1 : SqL K F1.z a vs) (h2 : Reps K F1 ds vs) : ItOk K F1 (Itl K a) ds.length fun i => ds[i]? := by
  refine ⟨_, _, h2.length ▸ walk_list (K := K) (a := a) (xs := vs), fun F2 O2 H2 e s => s.ext.seqL (seq_l e h1), fun F2 O2 H2 i x H' e s hi ⟨y1, y2⟩ => ?_⟩
  subst y1
  obtain ⟨d, g1, g2⟩ := h2.back y2
  exact ⟨F2, d, Ext.refl F2, s, g1, Rep.monoZ e d x g2⟩
theorem itok_tup {K : PySem.W.Frag} {F1 : Fr} {a : Addr} {ds : List D} {vs : List V} (h1 : SqT K F1.z a vs) (h2 : Reps K F1 ds vs) : ItOk K F1 (Itt K a) ds.length fun i => ds[i]? := by
  refine ⟨_, _, h2.length ▸ walk_tup (K := K) (a := a) (xs := vs), fun F2 O2 H2 e s => s.ext.seqT (seq_t e h1), fun F2 O2 H2 i x H' e s hi ⟨y1, y2⟩ => ?_⟩
  subst y1
  obtain ⟨d, g1, g2⟩ := h2.back y2
  exact ⟨F2, d, Ext.refl F2, s, g1, Rep.monoZ e d x g2⟩
/-- a list, a tuple: what comes is frozen -/
theorem pi_ls (h : We Γ iter ρ O fun d O1 => ∃ ds, (d = .lst ds ∨ d = .rls ds) ∧ R ds.length (fun i => ds[i]?) O1) : PiD Γ tg iter ρ O R := fun X hX => by
  refine ⟨_, pi_list (Ev.pe hX iter), fun F σ H Rv e0 s r k => (h F σ H e0 s r).mono fun v H1 ⟨d, F1, O1, e1, s1, r1, ds, hd, q⟩ => ?_⟩
  have hl : ∃ a vs, v = .ref a ∧ SqL Γ.M.K F1.z a vs ∧ Reps Γ.M.K F1 ds vs := by
    rcases hd with rfl | rfl
    · obtain ⟨a, vs, e, g1, g2⟩ := r1
      exact ⟨a, vs, e, SqL.of g1, g2⟩
    · exact r1
  obtain ⟨a, vs, rfl, g1, g2⟩ := hl
  refine ⟨a, rfl, ⟨vs, s1.ext.seqL (hX.K ▸ g1)⟩, ?_⟩
  rw [← hX.K]
  exact k F1 O1 H1 _ _ _ e1 s1 (itok_list g1 g2) q
theorem pi_tp (h : We Γ iter ρ O fun d O1 => ∃ ds, d = .tup ds ∧ R ds.length (fun i => ds[i]?) O1) : PiD Γ tg iter ρ O R := fun X hX => by
  refine ⟨_, pi_tup (Ev.pe hX iter), fun F σ H Rv e0 s r k => (h F σ H e0 s r).mono fun v H1 ⟨d, F1, O1, e1, s1, r1, ds, hd, q⟩ => ?_⟩
  subst hd
  obtain ⟨a, vs, rfl, g1, g2⟩ := r1
  refine ⟨a, rfl, ⟨vs, s1.ext.seqT (hX.K ▸ g1)⟩, ?_⟩
  rw [← hX.K]
  exact k F1 O1 H1 _ _ _ e1 s1 (itok_tup g1 g2) q
/-- a text's signs; a range -/
def signsD (z : Str) : List D := z.cps.toList.map fun c => .str ⟨#[c]⟩
def rangeD (n : Nat) : List D := (List.range n).map fun i : Nat => .int (i : Int)
def rangeD2 (lo : Int) (n : Nat) : List D := (List.range n).map fun i : Nat => .int (lo + (i : Int))
theorem signs_at {z : Str} {i c : Nat} (h : z.cps[i]? = some c) : (signsD z)[i]? = some (.str ⟨#[c]⟩) := by
  unfold signsD
  rw [List.getElem?_map, Array.getElem?_toList, h]; rfl
theorem signs_len {z : Str} : (signsD z).length = z.cps.size := by unfold signsD; rw [List.length_map, Array.length_toList]
theorem range_at {n i : Nat} (h : i < n) : (rangeD n)[i]? = some (.int (i : Int)) := by
  unfold rangeD
  rw [List.getElem?_map, List.getElem?_range h]; rfl
theorem range_len {n : Nat} : (rangeD n).length = n := by unfold rangeD; rw [List.length_map, List.length_range]
theorem range_at2 {lo : Int} {n i : Nat} (h : i < n) : (rangeD2 lo n)[i]? = some (.int (lo + (i : Int))) := by
  unfold rangeD2
  rw [List.getElem?_map, List.getElem?_range h]; rfl
theorem range_len2 {lo : Int} {n : Nat} : (rangeD2 lo n).length = n := by unfold rangeD2; rw [List.length_map, List.length_range]
theorem pi_st (h : We Γ iter ρ O fun d O1 => ∃ z : Str, d = .str z ∧ R (signsD z).length (fun i => (signsD z)[i]?) O1) : PiD Γ tg iter ρ O R := fun X hX => by
  refine ⟨_, pi_str (Ev.pe hX iter), fun F σ H Rv e0 s r k => (h F σ H e0 s r).mono fun v H1 ⟨d, F1, O1, e1, s1, r1, z, hd, q⟩ => ?_⟩
  subst hd
  cases r1
  refine ⟨z, rfl, k F1 O1 H1 _ _ _ e1 s1 ⟨_, _, (signs_len (z := z)).symm ▸ walk_str (z := z), fun _ _ _ _ _ => True.intro, fun F2 O2 H2 i x H' e s hi ⟨y1, c, y2, y3⟩ => ?_⟩ q⟩
  subst y1 y3
  exact ⟨F2, .str ⟨#[c]⟩, Ext.refl F2, s, signs_at y2, rfl⟩
theorem itok_range {K : PySem.W.Frag} {F1 : Fr} {lo : Int} {n : Nat} {ds : List D} (hl : ds.length = n) (ha : ∀ i, i < n → ds[i]? = some (.int (lo + (i : Int)))) : ItOk K F1 (Itr lo n) ds.length fun i => ds[i]? := by
  rw [hl]
  exact ⟨_, _, walk_range, fun _ _ _ _ _ => True.intro, fun F2 O2 H2 i x H' e s hi ⟨y1, y2⟩ => by
    subst y1 y2
    exact ⟨F2, .int (lo + i), Ext.refl F2, s, ha i hi, rfl⟩⟩
theorem pi_rg {a : Expr} {p p2 : Pos} (B : Blt Γ.M) (hg : GlN Γ "range") (h : We Γ a ρ O fun d O1 => ∃ n : Int, d = .int n ∧ -(2 ^ 62) ≤ n ∧ n < 2 ^ 62 ∧ R (rangeD n.toNat).length (fun i => (rangeD n.toNat)[i]?) O1) (h1 : ∀ env, starEach [a] env = [(false, eval a env)] := by intro _; rfl) : PiD Γ tg (.Call (.Name "range" p) [a] [] p2) ρ O R := fun X hX => by
  refine ⟨_, pi_range1 (hX.gl hg) (by rw [← hX.mg]; exact B.range) (pa_cons (Ev.pe hX a) pa_nil (h1 X.env)) (h1 X.env), fun F σ H Rv e0 s r k => (h F σ H e0 s r).mono fun v H1 ⟨d, F1, O1, e1, s1, r1, n, hd, b1, b2, q⟩ => ?_⟩
  subst hd
  cases r1
  exact ⟨n, rfl, b1, b2, k F1 O1 H1 _ _ _ e1 s1 (itok_range range_len fun i hi => by rw [range_at hi, Int.zero_add]) q⟩
theorem pi_rg2 {a b : Expr} {p p2 : Pos} (B : Blt Γ.M) (hg : GlN Γ "range") (h : We Γ a ρ O fun d O1 => We Γ b ρ O1 fun c O2 => ∃ lo hi : Int, d = .int lo ∧ c = .int hi ∧ -(2 ^ 62) ≤ lo ∧ lo < 2 ^ 62 ∧ -(2 ^ 62) ≤ hi ∧ hi < 2 ^ 62 ∧ R (rangeD2 lo (hi - lo).toNat).length (fun i => (rangeD2 lo (hi - lo).toNat)[i]?) O2)
    (h1 : ∀ env, starEach [a, b] env = [(false, eval a env), (false, eval b env)] := by intro _; rfl) (h2 : ∀ env, starEach [b] env = [(false, eval b env)] := by intro _; rfl) : PiD Γ tg (.Call (.Name "range" p) [a, b] [] p2) ρ O R := fun X hX => by
  have s1 : ∀ env, starEach [a, b] env = (false, eval a env) :: starEach [b] env := fun env => by rw [h1, h2]
  refine ⟨_, pi_range2 (hX.gl hg) (by rw [← hX.mg]; exact B.range) (pa_cons (Ev.pe hX a) (pa_cons (Ev.pe hX b) pa_nil (h2 X.env)) (s1 X.env)) (h1 X.env) (h2 X.env), fun F σ H Rv e0 s r k => ?_⟩
  refine (h F σ H e0 s r).mono fun v H1 ⟨d, F1, O1, e1, s1, r1, q1⟩ => (q1 F1 σ H1 (e0.trans e1) s1 (r.mono e1)).mono fun w H2 ⟨c, F2, O2, e2, s2, r2, lo, hi, hd, hc, b1, b2, b3, b4, q⟩ => ?_
  subst hd hc
  cases r1; cases r2
  exact ⟨lo, hi, rfl, ⟨b1, b2, b3, b4⟩, k F2 O2 H2 _ _ _ (e1.trans e2) s2 (itok_range range_len2 fun i hi => range_at2 hi) q⟩
/-! ### for -/
theorem ws_forI {body : List Stmt} {pos : Pos} (hh : Γ.hot = false) (h : PiD Γ tg iter ρ O fun n it O1 => ∃ W, ForQ Γ tg body Z n it ρ O1 W) (hs : ∀ env x, foldedSetIterable iter env x = pure x := by intro _ _; rfl) : WS Γ (.For tg iter body [] pos) ρ O Z := fun F σ H e0 s r X hX pins st I => by
  obtain ⟨wi, h1, h2⟩ := h X hX
  refine (ps_for hX.passes (hX.calm hh) h1 (EvG.pg hX tg) (EvSs.pss hX body) (hs X.env)).run pins st σ H _ I (h2 F σ H _ e0 s r fun F1 O1 H1 J n it e1 s1 ⟨G, Y, w, g1, g2⟩ ⟨W, T⟩ => ?_)
  refine for_it w (D := KE' Γ F Z) (fun i σ' H' => KS Γ F1 (W i) σ' H') (ks (Ext.refl F1) s1 (r.mono e1) T.start) (fun i σ' H' _ ⟨ρ', F', O', e2, s2, r2, _⟩ => g1 F' O' H' e2.1 s2) (fun i v σ' H' H2 hi ⟨ρ', F', O', e2, s2, r2, w2⟩ y => ?_) (fun σ' H' ⟨ρ', F', O', e2, s2, r2, w2⟩ => ks (e1.trans e2) s2 r2 (T.stop _ _ w2))
  obtain ⟨F3, d, e3, s3, hd, rd⟩ := g2 F' O' H' i v H2 e2.1 s2 hi y
  exact (for_turn T (F := F1) (e0.trans e1) hi hd (e2.trans e3) s3 (r2.mono e3) w2 rd).mono fun σ3 H3 q => q.mono (fun _ _ q => q) (fun _ _ q => KV'.mono e1 (fun _ _ q => q) q) (fun _ _ q => KS.mono e1 (fun _ _ q => q) q) (fun _ _ q => q)
/-! ### comprehensions -/
/-- how a comprehension ends: its list at P -/
def LcEnd (K : PySem.W.Frag) (F : Fr) (Ql : List D → Opens → Prop) (P : Addr) (H2 : Hp) : Prop := ∃ F' O' acc vs, Ext F F' ∧ F'.z P = none ∧ F'.r P = none ∧ O' P = none ∧ H2 P = some (.lst vs) ∧ Stt K F' O' H2 ∧ Reps K F' acc vs ∧ Ql acc O'
theorem LcEnd.of {F1 : Fr} {H1 H2 : Hp} {O1 : Opens} {P : Addr} {W : List D → Opens → Prop} {Ql : List D → Opens → Prop} (s : Stt Γ.M.K F1 O1 H1) (hp : H1 P = none) (h : LcS Γ.M.K F1 P W H2) (m : ∀ acc O', W acc O' → Ql acc O') : LcEnd Γ.M.K F1 Ql P H2 := by
  obtain ⟨F', O', acc, vs, e, g1, g2, g3, s', r, w⟩ := lc_end s hp h
  refine ⟨F', O', acc, vs, e, g1, ?_, g2, g3, s', r, m _ _ w⟩
  rw [e.2]
  cases q : F1.r P with
  | none => rfl
  | some u =>
    obtain ⟨_, _, h3⟩ := s.rst P u q
    rw [h3] at hp; cases hp
theorem LcEnd.frozen {F : Fr} {P : Addr} {H2 : Hp} {Ql : List D → Opens → Prop} (h : LcEnd Γ.M.K F Ql P H2) (m : ∀ acc O', Ql acc O' → Q (.lst acc) O') : KV' Γ F Q (.ref P) H2 := by
  obtain ⟨F', O', acc, vs, e, g1, g0, g2, g3, s', r, w⟩ := h
  refine ⟨.lst acc, F'.add P (.lst vs), O', e.trans (Ext.new g1), ⟨fun a u q => ?_, fun a u q => ?_, fun a u q => ?_⟩, rep_lst upd_same (r.mono (Ext.new g1)), m _ _ w⟩
  · have q : upd F'.z P (.lst vs) a = some u := q
    by_cases ha : a = P
    · rw [ha, upd_same] at q; cases q; rw [ha]; exact g3
    · rw [upd_ne ha] at q; exact s'.ext a u q
  · have ne : a ≠ P := fun z => by rw [z, g2] at q; cases q
    obtain ⟨h1, ho, h2, h3⟩ := s'.opn a u q
    exact ⟨by show upd F'.z P _ a = none; rw [upd_ne ne]; exact h1, ho, h2, h3.mono (Ext.new g1)⟩
  · have q : F'.r a = some u := q
    have ne : a ≠ P := fun z => by rw [z, g0] at q; cases q
    obtain ⟨h1, h2, h3⟩ := s'.rst a u q
    exact ⟨by show upd F'.z P _ a = none; rw [upd_ne ne]; exact h1, h2, h3⟩
theorem LcEnd.opened {F : Fr} {P : Addr} {H2 : Hp} {Ql : List D → Opens → Prop} (h : LcEnd Γ.M.K F Ql P H2) (m : ∀ p acc O', O' p = none → Ql acc O' → Q (.raw (.ref p)) (O'.up p (.lst acc))) : KV' Γ F Q (.ref P) H2 := by
  obtain ⟨F', O', acc, vs, e, g1, g0, g2, g3, s', r, w⟩ := h
  refine ⟨.raw (.ref P), F', O'.up P (.lst acc), e, ⟨s'.ext, fun a u q => ?_, fun a u q => ?_⟩, rep_raw, m P acc O' g2 w⟩
  · by_cases ha : a = P
    · rw [ha, Opens.up_same] at q; cases q
      rw [ha]
      exact ⟨g1, _, g3, vs, rfl, r⟩
    · rw [Opens.up_ne ha] at q
      exact s'.opn a u q
  · have ne : a ≠ P := fun z => by rw [z, g0] at q; cases q
    obtain ⟨h1, h2, h3⟩ := s'.rst a u q
    exact ⟨h1, by rw [Opens.up_ne ne]; exact h2, h3⟩
variable {scope : Scope} {own : List (Str × Nat)} {elt : Expr} {ifs : List Expr}
/-- the comprehension run: from the walk to its end -/
theorem lc_runI {X : Cx} (hX : Γ.Has X) {wi : TI} {F : Fr} {σ : L2.St} {H : Hp} {Qv : VK} {Ql : List D → Opens → Prop} (e0 : Ext Γ.F0 F) (s : Stt Γ.M.K F O H) (r : EnvR Γ.M.K F ρ σ)
    (hw : ∀ (Rv : It → Hp → Prop), (∀ F1 O1 H1 J n it, Ext F F1 → Stt Γ.M.K F1 O1 H1 → ItOk Γ.M.K F1 J n it → (∃ W, LcQ Γ scope (own.map (·.2)) tg ifs elt n it ρ O1 Ql W) → Rv J H1) → wi σ H Rv)
    (hq : ∀ P H2, LcEnd Γ.M.K F Ql P H2 → Qv (.ref P) H2) : tLc wi (BG Γ scope tg) (BI Γ scope ifs) (BE Γ scope elt) (own.map (·.2)) σ H Qv := by
  refine hw _ fun F1 O1 H1 J n it e1 s1 ⟨G, Y, w, g1, g2⟩ ⟨W, T⟩ => fun P hP => ?_
  refine lc_it w (D := P) (fun i H' => LcS Γ.M.K F1 P (W i) H') (lc_start s1 hP T.start) (fun i H' _ ⟨F', O', acc, us, e2, s2, _⟩ => g1 ⟨F'.z, upd F1.r P (.lst us)⟩ O' H' e2.1 s2) (fun i v H' H2 hi ⟨F', O', acc, us, e2, s2, ra, w2⟩ y => ?_) (fun H' w => hq P H' ?_)
  · obtain ⟨F3, d, e3, s3, hd, rd⟩ := g2 ⟨F'.z, upd F1.r P (.lst us)⟩ O' H' i v H2 e2.1 s2 hi y
    have er : F3.r = upd F1.r P (.lst us) := e3.2
    have s3' : Stt Γ.M.K ⟨F3.z, upd F1.r P (.lst us)⟩ O' H2 := by
      have : (⟨F3.z, upd F1.r P (.lst us)⟩ : Fr) = F3 := by rw [← er]
      rw [this]; exact s3
    have e13 : Ext F1 ⟨F3.z, F1.r⟩ := ⟨fun a o q => e3.1 a o (e2.1 a o q), rfl⟩
    exact lc_turn (F1 := F1) (F2 := ⟨F3.z, F1.r⟩) T hi hd (r.mono e1) e13 s3' (Reps.monoZ (F := F') (F' := ⟨F3.z, F1.r⟩) e3.1 _ _ ra) w2 (rep_z (F := F3) rfl rd)
  · obtain ⟨F', O', acc, vs, k1, k2, k3, k4, k5, k6, k7, k8⟩ := LcEnd.of s1 hP w T.stop
    exact ⟨F', O', acc, vs, e1.trans k1, k2, k3, k4, k5, k6, k7, k8⟩
theorem we_lcI {pos : Pos} {Ql : List D → Opens → Prop} (hh : Γ.hot = false) (ok : blkC Γ.N Γ.sc scope own = true) (h : PiD Γ tg iter ρ O fun n it O1 => ∃ W, LcQ Γ scope (own.map (·.2)) tg ifs elt n it ρ O1 Ql W) (hq : ∀ F P H2, LcEnd Γ.M.K F Ql P H2 → KV' Γ F Q (.ref P) H2)
    (hs : ∀ env x, foldedSetIterable iter env x = pure x := by intro _ _; rfl) : We Γ (.ListComp elt [⟨tg, iter, ifs, 0⟩] scope pos) ρ O Q := fun F σ H e0 s r X hX pins sh I => by
  obtain ⟨wi, h1, h2⟩ := h X hX
  exact (pe_lc (own := own) (hX.calm hh) (by rw [hX.N]; exact hX.nd) h1 (by rw [hX.N, hX.sc]; exact blkOk_by ok) (fun s H C cl fp => bg_pg hX tg) (fun s H C cl fp => bi_pt hX ifs) (fun s H C cl fp => be_pe hX elt) (hs X.env)).run pins sh σ H _ I
    (lc_runI hX e0 s r (fun Rv k => h2 F σ H Rv e0 s r k) fun P H2 le => hq F P H2 le)
/-- [..] frozen at its end -/
theorem we_lcf {pos : Pos} (hh : Γ.hot = false) (ok : blkC Γ.N Γ.sc scope own = true) (h : PiD Γ tg iter ρ O fun n it O1 => ∃ W, LcQ Γ scope (own.map (·.2)) tg ifs elt n it ρ O1 (LcF Q) W) (hs : ∀ env x, foldedSetIterable iter env x = pure x := by intro _ _; rfl) : We Γ (.ListComp elt [⟨tg, iter, ifs, 0⟩] scope pos) ρ O Q :=
  we_lcI hh ok h (fun F P H2 le => le.frozen fun _ _ q => q) hs
/-- .. left open -/
theorem we_lco {pos : Pos} (hh : Γ.hot = false) (ok : blkC Γ.N Γ.sc scope own = true) (h : PiD Γ tg iter ρ O fun n it O1 => ∃ W, LcQ Γ scope (own.map (·.2)) tg ifs elt n it ρ O1 (LcO Q) W) (hs : ∀ env x, foldedSetIterable iter env x = pure x := by intro _ _; rfl) : We Γ (.ListComp elt [⟨tg, iter, ifs, 0⟩] scope pos) ρ O Q :=
  we_lcI hh ok h (fun F P H2 le => le.opened fun p acc O' hp q => q p hp) hs
/-- y = [..], y a local of a def -/
theorem ws_lcI {y : Str} {py pos spos : Pos} {Ql : List D → Opens → Prop} (hh : Γ.hot = false) (hk : Γ.sc.kind = .function) (hN : Γ.N[slot Γ.N y]? = some y) (hy : Γ.sc.names.lookup y = some .local) (hl : (py.line == pos.line) = true) (ha : (scope.names.any fun (n, k) => n == y && (k == .local || k == .cell)) = false)
    (ok : blkC Γ.N Γ.sc scope own = true) (h : PiD Γ tg iter ρ O fun n it O1 => ∃ W, LcQ Γ scope (own.map (·.2)) tg ifs elt n it ρ O1 Ql W) (hq : ∀ F P H2, LcEnd Γ.M.K F Ql P H2 → KV' Γ F (fun d O' => Z.nx (ρ.set (slot Γ.N y) (some d)) O') (.ref P) H2)
    (hs : ∀ env x, foldedSetIterable iter env x = pure x := by intro _ _; rfl) : WS Γ (.Assign [.Name y py] (.ListComp elt [⟨tg, iter, ifs, 0⟩] scope pos) spos) ρ O Z := fun F σ H e0 s r X hX pins sh I => by
  obtain ⟨wi, h1, h2⟩ := h X hX
  have hy' : X.env.scope.names.lookup y = some .local := by rw [hX.sc]; exact hy
  refine (ps_setLc (i := slot Γ.N y) (own := own) (hX.calm hh) (by rw [hX.N]; exact hX.nd) (by rw [hX.N]; exact hN) hy' (sw_true (by rw [hX.sc]; exact hk) hy' hl ha) h1 (by rw [hX.N, hX.sc]; exact blkOk_by ok) (fun s H C cl fp => bg_pg hX tg) (fun s H C cl fp => bi_pt hX ifs) (fun s H C cl fp => be_pe hX elt) (hs X.env)).run pins sh σ H _ I ?_
  refine lc_runI hX e0 s r (fun Rv k => h2 F σ H Rv e0 s r k) fun P H2 le => ?_
  obtain ⟨d, F', O', e1, s1, r1, q⟩ := hq F P H2 le
  exact ks e1 s1 ((r.mono e1).set _ r1) q
theorem ws_lcf {y : Str} {py pos spos : Pos} (hh : Γ.hot = false) (hk : Γ.sc.kind = .function) (hN : Γ.N[slot Γ.N y]? = some y) (hy : Γ.sc.names.lookup y = some .local) (hl : (py.line == pos.line) = true) (ha : (scope.names.any fun (n, k) => n == y && (k == .local || k == .cell)) = false)
    (ok : blkC Γ.N Γ.sc scope own = true) (h : PiD Γ tg iter ρ O fun n it O1 => ∃ W, LcQ Γ scope (own.map (·.2)) tg ifs elt n it ρ O1 (LcF fun d O' => Z.nx (ρ.set (slot Γ.N y) (some d)) O') W) (hs : ∀ env x, foldedSetIterable iter env x = pure x := by intro _ _; rfl) : WS Γ (.Assign [.Name y py] (.ListComp elt [⟨tg, iter, ifs, 0⟩] scope pos) spos) ρ O Z :=
  ws_lcI hh hk hN hy hl ha ok h (fun F P H2 le => le.frozen fun _ _ q => q) hs
theorem ws_lco {y : Str} {py pos spos : Pos} (hh : Γ.hot = false) (hk : Γ.sc.kind = .function) (hN : Γ.N[slot Γ.N y]? = some y) (hy : Γ.sc.names.lookup y = some .local) (hl : (py.line == pos.line) = true) (ha : (scope.names.any fun (n, k) => n == y && (k == .local || k == .cell)) = false)
    (ok : blkC Γ.N Γ.sc scope own = true) (h : PiD Γ tg iter ρ O fun n it O1 => ∃ W, LcQ Γ scope (own.map (·.2)) tg ifs elt n it ρ O1 (LcO fun d O' => Z.nx (ρ.set (slot Γ.N y) (some d)) O') W) (hs : ∀ env x, foldedSetIterable iter env x = pure x := by intro _ _; rfl) : WS Γ (.Assign [.Name y py] (.ListComp elt [⟨tg, iter, ifs, 0⟩] scope pos) spos) ρ O Z :=
  ws_lcI hh hk hN hy hl ha ok h (fun F P H2 le => le.opened fun p acc O' hp q => q p hp) hs
end
end DL

/-! DLI: comprehensions with the slots found, methods of texts, differences of truth values. -/
namespace DL
open PySem PySem.Spec PyProof.Rows L2

/-- a comprehension's own slots -/
def ownS (N : List Str) (scope : Scope) : List (Str × Nat) := scope.names.filterMap fun y => match y.2 with
  | .local => if N.contains y.1 then some (y.1, slot N y.1) else none
  | .cell => if N.contains y.1 then some (y.1, slot N y.1) else none
  | _ => none
abbrev ownN (N : List Str) (scope : Scope) : List Nat := (ownS N scope).map (·.2)
section
variable {Γ : G} {ρ : Env'} {O : Opens} {Z : EndsD} {Q : DK} {tg iter elt : Expr} {ifs : List Expr} {scope : Scope} {pos : Pos}
theorem we_lc (hh : Γ.hot = false) (ok : blkC Γ.N Γ.sc scope (ownS Γ.N scope) = true) (h : PiD Γ tg iter ρ O fun n it O1 => ∃ W, LcQ Γ scope (ownN Γ.N scope) tg ifs elt n it ρ O1 (LcF Q) W) (hs : ∀ env x, foldedSetIterable iter env x = pure x := by intro _ _; rfl) : We Γ (.ListComp elt [⟨tg, iter, ifs, 0⟩] scope pos) ρ O Q := we_lcf hh ok h hs
theorem we_lcOpen (hh : Γ.hot = false) (ok : blkC Γ.N Γ.sc scope (ownS Γ.N scope) = true) (h : PiD Γ tg iter ρ O fun n it O1 => ∃ W, LcQ Γ scope (ownN Γ.N scope) tg ifs elt n it ρ O1 (LcO Q) W) (hs : ∀ env x, foldedSetIterable iter env x = pure x := by intro _ _; rfl) : We Γ (.ListComp elt [⟨tg, iter, ifs, 0⟩] scope pos) ρ O Q := we_lco hh ok h hs
theorem ws_lc {y : Str} {py spos : Pos} (hh : Γ.hot = false) (hk : Γ.sc.kind = .function) (hN : Γ.N[slot Γ.N y]? = some y) (hy : Γ.sc.names.lookup y = some .local) (hl : (py.line == pos.line) = true) (ha : (scope.names.any fun (n, k) => n == y && (k == .local || k == .cell)) = false)
    (ok : blkC Γ.N Γ.sc scope (ownS Γ.N scope) = true) (h : PiD Γ tg iter ρ O fun n it O1 => ∃ W, LcQ Γ scope (ownN Γ.N scope) tg ifs elt n it ρ O1 (LcF fun d O' => Z.nx (ρ.set (slot Γ.N y) (some d)) O') W) (hs : ∀ env x, foldedSetIterable iter env x = pure x := by intro _ _; rfl) : WS Γ (.Assign [.Name y py] (.ListComp elt [⟨tg, iter, ifs, 0⟩] scope pos) spos) ρ O Z :=
  ws_lcf hh hk hN hy hl ha ok h hs
theorem ws_lcOpen {y : Str} {py spos : Pos} (hh : Γ.hot = false) (hk : Γ.sc.kind = .function) (hN : Γ.N[slot Γ.N y]? = some y) (hy : Γ.sc.names.lookup y = some .local) (hl : (py.line == pos.line) = true) (ha : (scope.names.any fun (n, k) => n == y && (k == .local || k == .cell)) = false)
    (ok : blkC Γ.N Γ.sc scope (ownS Γ.N scope) = true) (h : PiD Γ tg iter ρ O fun n it O1 => ∃ W, LcQ Γ scope (ownN Γ.N scope) tg ifs elt n it ρ O1 (LcO fun d O' => Z.nx (ρ.set (slot Γ.N y) (some d)) O') W) (hs : ∀ env x, foldedSetIterable iter env x = pure x := by intro _ _; rfl) : WS Γ (.Assign [.Name y py] (.ListComp elt [⟨tg, iter, ifs, 0⟩] scope pos) spos) ρ O Z :=
  ws_lco hh hk hN hy hl ha ok h hs

theorem wgo_nb {x : Str} {d : D} {own : List Nat} {Q : Env' → Opens → Prop} (hN : Γ.N[slot Γ.N x]? = some x) (hl : Loc Γ.ss x) (hi : own.contains (slot Γ.N x) = true) (h : Q (ρ.set (slot Γ.N x) (some d)) O) : WGo Γ own (.Name x pos) d ρ O Q := wgo_name hN hl (by simpa using hi) h
/-! ### methods of texts -/
variable {o e : Expr} {apos : Pos}
theorem we_split (h : We Γ o ρ O fun x O1 => ∃ a, x = .str a ∧ We Γ e ρ O1 fun y O2 => ∃ b : Str, y = .str b ∧ (b.length == 0) = false ∧ a.length + 2 ≤ sizeLine ∧ Q (.lst ((Txt.split a b).map D.str)) O2)
    (hs : ∀ env, starEach [e] env = [(false, eval e env)] := by intro _; rfl) (hb : ∀ env, attributeBase o "split" env (eval o env) = eval o env := by intro _; rfl) (hl : (apos.endLine == pos.line) = true := by rfl) : We Γ (.Call (.Attribute o "split" apos) [e] [] pos) ρ O Q := by
  refine we_strm1 (r := fun x xs H Q => ∃ a b, x = .str a ∧ xs = [.str b] ∧ (b.length == 0) = false ∧ a.length + 2 ≤ sizeLine ∧ rNewStrs (Txt.split a b) H Q) F.slot_str_split F.type_str_split (fun X hX => mt_split) (h.imp fun x O1 ⟨a, hx, q⟩ => ⟨a, hx, q.imp fun y O2 ⟨b, hy, h1, h2, q2⟩ F H v e0 s r => ?_⟩) (fun X hX x xs H Q Q' m ⟨a, b, h1, h2, h3, h4, h5⟩ => ⟨a, b, h1, h2, h3, h4, fun p hp => m _ _ (h5 p hp)⟩) hs hb hl
  subst hy
  cases r
  refine ⟨a, b, rfl, rfl, h1, h2, fun p hp => kv_lst s hp ?_ q2⟩
  have : ∀ l : List Str, Reps Γ.M.K F (l.map D.str) (l.map V.str) := by
    intro l
    induction l with
    | nil => exact rfl
    | cons z l ih => exact Reps.cons rep_str ih
  exact this _
theorem we_startswith (h : We Γ o ρ O fun x O1 => ∃ a, x = .str a ∧ We Γ e ρ O1 fun y O2 => ∃ b : Str, y = .str b ∧ Q (.bl (Txt.startswith a b)) O2)
    (hs : ∀ env, starEach [e] env = [(false, eval e env)] := by intro _; rfl) (hb : ∀ env, attributeBase o "startswith" env (eval o env) = eval o env := by intro _; rfl) (hl : (apos.endLine == pos.line) = true := by rfl) : We Γ (.Call (.Attribute o "startswith" apos) [e] [] pos) ρ O Q := by
  refine we_strm1 (r := fun x xs H Q => ∃ a b, x = .str a ∧ xs = [.str b] ∧ Q (.bl (Txt.startswith a b)) H) F.slot_str_startswith F.type_str_startswith (fun X hX => mt_startswith) (h.imp fun x O1 ⟨a, hx, q⟩ => ⟨a, hx, q.imp fun y O2 ⟨b, hy, q2⟩ F H v e0 s r => ?_⟩) (fun X hX x xs H Q Q' m ⟨a, b, h1, h2, h3⟩ => ⟨a, b, h1, h2, m _ _ h3⟩) hs hb hl
  subst hy
  cases r
  exact ⟨a, b, rfl, rfl, kv s rep_bl q2⟩
theorem we_partition (h : We Γ o ρ O fun x O1 => ∃ a, x = .str a ∧ We Γ e ρ O1 fun y O2 => ∃ b : Str, y = .str b ∧ (b.length == 0) = false ∧ a.length ≤ sizeLine ∧ Q (.tup [.str (Txt.partition a b).1, .str (Txt.partition a b).2.1, .str (Txt.partition a b).2.2]) O2)
    (hs : ∀ env, starEach [e] env = [(false, eval e env)] := by intro _; rfl) (hb : ∀ env, attributeBase o "partition" env (eval o env) = eval o env := by intro _; rfl) (hl : (apos.endLine == pos.line) = true := by rfl) : We Γ (.Call (.Attribute o "partition" apos) [e] [] pos) ρ O Q := by
  refine we_strm1 (r := fun x xs H Q => ∃ a b, x = .str a ∧ xs = [.str b] ∧ (b.length == 0) = false ∧ a.length ≤ sizeLine ∧ ∀ p, H p = none → Q (.ref p) (upd H p (.tup [.str (Txt.partition a b).1, .str (Txt.partition a b).2.1, .str (Txt.partition a b).2.2]))) F.slot_str_partition F.type_str_partition (fun X hX => mt_partition) (h.imp fun x O1 ⟨a, hx, q⟩ => ⟨a, hx, q.imp fun y O2 ⟨b, hy, h1, h2, q2⟩ F H v e0 s r => ?_⟩) (fun X hX x xs H Q Q' m ⟨a, b, h1, h2, h3, h4, h5⟩ => ⟨a, b, h1, h2, h3, h4, fun p hp => m _ _ (h5 p hp)⟩) hs hb hl
  subst hy
  cases r
  exact ⟨a, b, rfl, rfl, h1, h2, fun p hp => kv_tup s hp (Reps.cons rep_str (Reps.cons rep_str (Reps.cons rep_str Reps.nil))) q2⟩
theorem we_join (h : We Γ o ρ O fun x O1 => ∃ a, x = .str a ∧ We Γ e ρ O1 fun y O2 => ∃ ys : List Str, (y = .lst (ys.map D.str) ∨ y = .tup (ys.map D.str)) ∧ (ys.map (·.length)).sum + ys.length * a.length ≤ 16777216 ∧ Q (.str (Txt.join a ys)) O2)
    (hs : ∀ env, starEach [e] env = [(false, eval e env)] := by intro _; rfl) (hb : ∀ env, attributeBase o "join" env (eval o env) = eval o env := by intro _; rfl) (hl : (apos.endLine == pos.line) = true := by rfl) : We Γ (.Call (.Attribute o "join" apos) [e] [] pos) ρ O Q := by
  refine we_strm1 (r := fun x xs H Q => ∃ a p, ∃ ys : List Str, x = .str a ∧ xs = [.ref p] ∧ (SqL Γ.M.K H p (ys.map V.str) ∨ SqT Γ.M.K H p (ys.map V.str)) ∧ (ys.map (·.length)).sum + ys.length * a.length ≤ 16777216 ∧ Q (.str (Txt.join a ys)) H) F.slot_str_join F.type_str_join (fun X hX => hX.K ▸ mt_join) (h.imp fun x O1 ⟨a, hx, q⟩ => ⟨a, hx, q.imp fun y O2 ⟨ys, hy, h2, q2⟩ F H v e0 s r => ?_⟩) (fun X hX x xs H Q Q' m ⟨a, p, ys, h1, h2, h3, h4, h5⟩ => ⟨a, p, ys, h1, h2, h3, h4, m _ _ h5⟩) hs hb hl
  rcases hy with rfl | rfl
  · obtain ⟨p, vs, rfl, g1, g2⟩ := r
    have e := reps_str g2
    subst e
    exact ⟨a, p, ys, rfl, rfl, .inl (SqL.of (s.ext _ _ g1)), h2, kv s rep_str q2⟩
  · obtain ⟨p, vs, rfl, g1, g2⟩ := r
    have e := reps_str g2
    subst e
    exact ⟨a, p, ys, rfl, rfl, .inr (s.ext.seqT g1), h2, kv s rep_str q2⟩
end
end DL

/-! DLJ: comprehensions over a list of things told by a function: map, filter; loops with a state told. -/
namespace DL
open PySem PySem.Spec PyProof.Rows L2
section
variable {Γ : G} {ρ : Env'} {O : Opens} {Q : DK} {scope : Scope} {own : List Nat} {tg elt c : Expr} {α : Type}
/-- what is open may change from turn to turn: inv tells of it -/
theorem lc_stateA (xs : List α) (g : α → D) (inv : Nat → List D → Opens → Prop) {Ql : List D → Opens → Prop} (hl : xs.length ≤ sizeLine) (h0 : inv 0 [] O) (ha : ∀ i acc O', i ≤ xs.length → inv i acc O' → acc.length ≤ i)
    (ht : ∀ (F0 : Fr) (i : Nat) (x : α) (acc : List D) (O' : Opens), i < xs.length → xs[i]? = some x → inv i acc O' → WGo (blkG Γ scope F0) own tg (g x) (wipeD ρ own) O' fun ρ2 O2 => We (blkG Γ scope F0) elt ρ2 O2 fun y O3 => inv (i + 1) (acc ++ [y]) O3)
    (h : ∀ acc O', inv xs.length acc O' → Ql acc O') : ∃ W, LcQ Γ scope own tg [] elt (xs.map g).length (fun i => (xs.map g)[i]?) ρ O Ql W := by
  refine ⟨inv, h0, fun F0 i d acc O' hi hd w => ?_, fun acc O' w => h acc O' (by rw [List.length_map] at w; exact w)⟩
  rw [List.length_map] at hi
  rw [List.getElem?_map] at hd
  obtain ⟨x, hx, rfl⟩ := Option.map_eq_some_iff.mp hd
  intro F σ H v e0 s r rv
  refine (ht F0 i x acc O' hi hx w F σ H v e0 s r rv).mono fun σ' H' ⟨w1, k⟩ => ⟨w1, KS.mono (Ext.refl F) (fun ρ2 O2 q => ?_) k⟩
  refine wi_nil (ift rfl ?_)
  exact q.imp fun y O4 z => ⟨Nat.lt_of_le_of_lt (ha i acc O' (Nat.le_of_lt hi) w) (Nat.lt_of_lt_of_le hi hl), z⟩
/-- [elt for tg in xs], each gives f x -/
theorem lc_mapA (xs : List α) (g : α → D) (f : α → D) {Ql : List D → Opens → Prop} (hl : xs.length ≤ sizeLine) (ht : ∀ (F0 : Fr) (x : α), x ∈ xs → WGo (blkG Γ scope F0) own tg (g x) (wipeD ρ own) O fun ρ2 O2 => We (blkG Γ scope F0) elt ρ2 O2 fun y O3 => y = f x ∧ O3 = O)
    (h : Ql (xs.map f) O) : ∃ W, LcQ Γ scope own tg [] elt (xs.map g).length (fun i => (xs.map g)[i]?) ρ O Ql W := by
  refine lc_stateA xs g (fun i acc O' => acc = (xs.take i).map f ∧ O' = O) hl ⟨rfl, rfl⟩ (fun i acc O' hi w => ?_) (fun F0 i x acc O' hi hx w => ?_) fun acc O' w => ?_
  · rw [w.1, List.length_map, List.length_take]; exact Nat.min_le_left _ _
  · obtain ⟨w1, w2⟩ := w
    subst w2
    have hm := ht F0 x (List.mem_of_getElem? hx)
    intro F σ H v e0 s r rv
    refine (hm F σ H v e0 s r rv).mono fun σ' H' ⟨w3, k⟩ => ⟨w3, KS.mono (Ext.refl F) (fun ρ2 O2 q => q.imp fun y O4 z => ⟨?_, z.2⟩) k⟩
    rw [z.1, w1, List.take_add_one, hx, List.map_append]; rfl
  · obtain ⟨w1, w2⟩ := w
    subst w2
    rw [w1, List.take_length]; exact h
/-- [elt for tg in xs if c] -/
theorem lc_filA (xs : List α) (g : α → D) (p : α → Bool) (f : α → D) {Ql : List D → Opens → Prop} (hl : xs.length ≤ sizeLine)
    (ht : ∀ (F0 : Fr) (x : α), x ∈ xs → WGo (blkG Γ scope F0) own tg (g x) (wipeD ρ own) O fun ρ2 O2 => WT (blkG Γ scope F0) c ρ2 O2 fun b O3 => b = p x ∧ O3 = O ∧ (p x = true → We (blkG Γ scope F0) elt ρ2 O fun y O4 => y = f x ∧ O4 = O))
    (h : Ql ((xs.filter p).map f) O) : ∃ W, LcQ Γ scope own tg [c] elt (xs.map g).length (fun i => (xs.map g)[i]?) ρ O Ql W := by
  refine ⟨fun i acc O' => acc = ((xs.take i).filter p).map f ∧ O' = O, ⟨rfl, rfl⟩, fun F0 i d acc O' hi hd w => ?_, fun acc O' w => ?_⟩
  · obtain ⟨w1, w2⟩ := w
    subst w2
    rw [List.length_map] at hi
    rw [List.getElem?_map] at hd
    obtain ⟨x, hx, rfl⟩ := Option.map_eq_some_iff.mp hd
    have hm := ht F0 x (List.mem_of_getElem? hx)
    have tk : xs.take (i + 1) = xs.take i ++ [x] := by rw [List.take_add_one, hx]; rfl
    have small : acc.length < sizeLine := by
      rw [w1, List.length_map]
      have a1 := List.length_filter_le p (xs.take i)
      rw [List.length_take] at a1
      omega
    intro F σ H v e0 s r rv
    refine (hm F σ H v e0 s r rv).mono fun σ' H' ⟨w3, k⟩ => ⟨w3, KS.mono (Ext.refl F) (fun ρ2 O2 q => ?_) k⟩
    refine WT.imp (show WT _ c ρ2 O2 _ from q) fun b O3 ⟨hb, hO, hw⟩ => ?_
    subst hO
    cases b with
    | true =>
      rw [if_pos rfl]
      refine (hw hb.symm).imp fun y O4 z => ⟨small, ?_, z.2⟩
      rw [tk, List.filter_append, List.map_append, ← w1, List.filter_cons, if_pos hb.symm, z.1]; rfl
    | false =>
      rw [if_neg Bool.false_ne_true]
      refine ⟨?_, rfl⟩
      rw [tk, List.filter_append, List.map_append, ← w1, List.filter_cons, if_neg (by rw [← hb]; decide)]; simp
  · obtain ⟨w1, w2⟩ := w
    subst w2
    rw [List.length_map] at w1
    rw [w1, List.take_length]; exact h
/-- over things as they are -/
theorem lc_mapD (xs : List D) (f : D → D) {Ql : List D → Opens → Prop} (hl : xs.length ≤ sizeLine) (ht : ∀ (F0 : Fr) (x : D), x ∈ xs → WGo (blkG Γ scope F0) own tg x (wipeD ρ own) O fun ρ2 O2 => We (blkG Γ scope F0) elt ρ2 O2 fun y O3 => y = f x ∧ O3 = O)
    (h : Ql (xs.map f) O) : ∃ W, LcQ Γ scope own tg [] elt xs.length (fun i => xs[i]?) ρ O Ql W := by
  have k := lc_mapA (Γ := Γ) (ρ := ρ) (scope := scope) (own := own) (tg := tg) (elt := elt) (Ql := Ql) xs id f hl ht h
  rw [List.map_id] at k
  exact k
theorem lc_filD (xs : List D) (p : D → Bool) (f : D → D) {Ql : List D → Opens → Prop} (hl : xs.length ≤ sizeLine)
    (ht : ∀ (F0 : Fr) (x : D), x ∈ xs → WGo (blkG Γ scope F0) own tg x (wipeD ρ own) O fun ρ2 O2 => WT (blkG Γ scope F0) c ρ2 O2 fun b O3 => b = p x ∧ O3 = O ∧ (p x = true → We (blkG Γ scope F0) elt ρ2 O fun y O4 => y = f x ∧ O4 = O))
    (h : Ql ((xs.filter p).map f) O) : ∃ W, LcQ Γ scope own tg [c] elt xs.length (fun i => xs[i]?) ρ O Ql W := by
  have k := lc_filA (Γ := Γ) (ρ := ρ) (scope := scope) (own := own) (tg := tg) (elt := elt) (c := c) (Ql := Ql) xs id p f hl ht h
  rw [List.map_id] at k
  exact k
end
/-! ### for with a state told by slots -/
section
variable {Γ : G} {ρ : Env'} {O : Opens} {Z : EndsD} {tg : Expr} {body : List Stmt} {α : Type}
theorem for_stateA (xs : List α) (g : α → D) (inv : Nat → Env' → Opens → Prop) (h0 : inv 0 ρ O)
    (ht : ∀ (i : Nat) (x : α) (ρ' : Env') (O' : Opens), i < xs.length → xs[i]? = some x → inv i ρ' O' → WG Γ tg (g x) ρ' O' fun ρ2 O2 => WSs Γ body ρ2 O2 { Z with nx := inv (i + 1), ct := inv (i + 1), bk := Z.nx })
    (h : ∀ ρ' O', inv xs.length ρ' O' → Z.nx ρ' O') : ∃ W, ForQ Γ tg body Z (xs.map g).length (fun i => (xs.map g)[i]?) ρ O W := by
  refine ⟨inv, h0, fun i d ρ' O' hi hd w => ?_, fun ρ' O' w => h ρ' O' (by rw [List.length_map] at w; exact w)⟩
  rw [List.length_map] at hi
  rw [List.getElem?_map] at hd
  obtain ⟨x, hx, rfl⟩ := Option.map_eq_some_iff.mp hd
  exact ht i x ρ' O' hi hx w
theorem for_stateD (xs : List D) (inv : Nat → Env' → Opens → Prop) (h0 : inv 0 ρ O)
    (ht : ∀ (i : Nat) (x : D) (ρ' : Env') (O' : Opens), i < xs.length → xs[i]? = some x → inv i ρ' O' → WG Γ tg x ρ' O' fun ρ2 O2 => WSs Γ body ρ2 O2 { Z with nx := inv (i + 1), ct := inv (i + 1), bk := Z.nx })
    (h : ∀ ρ' O', inv xs.length ρ' O' → Z.nx ρ' O') : ∃ W, ForQ Γ tg body Z xs.length (fun i => xs[i]?) ρ O W := by
  have k := for_stateA (Γ := Γ) (Z := Z) (tg := tg) (body := body) xs id inv h0 ht h
  rw [List.map_id] at k
  exact k
end
end DL

/-! DLK: one step of a walk over data. -/
namespace DL
open PySem PySem.Spec PyProof.Rows L2
section
variable {Γ : G} {ρ : Env'} {O : Opens} {Z : EndsD} {Q : DK} {x y : Str} {a b : Expr}
/-- x, y = a, b -/
theorem ws_pr {px py pt pos : Pos} {kt k2 pt2} (hh : Γ.hot = false) (hi : Γ.N[slot Γ.N x]? = some x) (hj : Γ.N[slot Γ.N y]? = some y) (hij : (slot Γ.N x == slot Γ.N y) = false) (hx : Γ.sc.names.lookup x = some .local) (hy : Γ.sc.names.lookup y = some .local)
    (h : We Γ a ρ O fun u O1 => We Γ b ρ O1 fun v O2 => Z.nx ((ρ.set (slot Γ.N x) (some u)).set (slot Γ.N y) (some v)) O2) (hw : ∀ env, env.scope = Γ.sc → swappedStores [.Tuple [.Name x px, .Name y py] kt pt] (.Tuple [a, b] k2 pt2) env = pure (some [x, y]))
    (hs : ∀ env, env.scope = Γ.sc → swapsWithSole [.Tuple [.Name x px, .Name y py] kt pt] (.Tuple [a, b] k2 pt2) pos.line env = pure false := by intro _ _; rfl)
    (h1 : ∀ env, starEach [a, b] env = (false, eval a env) :: starEach [b] env := by intro _; rfl) (h2 : ∀ env, starEach [b] env = (false, eval b env) :: starEach [] env := by intro _; rfl) : WS Γ (.Assign [.Tuple [.Name x px, .Name y py] kt pt] (.Tuple [a, b] k2 pt2) pos) ρ O Z :=
  ws_par hh hi hj (by simpa using hij) hx hy h hw hs h1 h2
theorem q_lens {z : Str} (hz : z.length ≤ sizeLine) (h : Q (.int z.length) O) : LenQ [.str z] O Q := ⟨hz, h⟩
theorem q_ixs {z : Str} {i : Int} {c : Nat} (hz : z.length ≤ sizeLine) (h1 : atI z.cps.toList i = some c) (h : Q (.str ⟨#[c]⟩) O) : IxQ (.str z) (.int i) O Q := ⟨hz, c, h1, h⟩
theorem q_insg {z : Str} {c : Nat} (h : Q (.bl (decide (c ∈ z.cps.toList))) O) : CmpQ .In (.str ⟨#[c]⟩) (.str z) O Q := ⟨c, rfl, h⟩
theorem q_nisg {z : Str} {c : Nat} (h : Q (.bl (!decide (c ∈ z.cps.toList))) O) : CmpQ .NotIn (.str ⟨#[c]⟩) (.str z) O Q := ⟨c, rfl, h⟩
theorem q_isn {d : D} (h0 : ∀ v, d ≠ .raw v) (h : Q (.bl (isNon d)) O) : CmpQ .Is d .non O Q := by
  cases d with
  | raw v => exact absurd rfl (h0 v)
  | _ => exact h
theorem q_nisn {d : D} (h0 : ∀ v, d ≠ .raw v) (h : Q (.bl (!isNon d)) O) : CmpQ .IsNot d .non O Q := by
  cases d with
  | raw v => exact absurd rfl (h0 v)
  | _ => exact h
theorem at_nat {α : Type} {xs : List α} {j : Int} {i : Nat} {a : α} (e : j = (i : Int)) (h : xs[i]? = some a) : atI xs j = some a := by
  subst e
  unfold atI
  refine Option.bind_eq_some_iff.mpr ⟨i, ?_, h⟩
  have hl := (List.getElem?_eq_some_iff.mp h).1
  unfold ixN
  simp [hl]
theorem q_lcf {acc : List D} (h : Q (.lst acc) O) : LcF Q acc O := h
theorem q_tupl {xs : List D} (h : Q (.tup xs) O) : TupQ [.lst xs] O Q := h
theorem q_tupt {xs : List D} (h : Q (.tup xs) O) : TupQ [.tup xs] O Q := h
theorem q_lstl {xs : List D} (h : Q (.lst xs) O) : LstQ [.lst xs] O Q := h
theorem q_lstt {xs : List D} (h : Q (.lst xs) O) : LstQ [.tup xs] O Q := h
theorem q_inl {x : D} {xs : List D} (h1 : flatD x = true) (h2 : xs.all flatD = true) (h : Q (.bl (inD x xs)) O) : CmpQ .In x (.lst xs) O Q := ⟨h1, h2, h⟩
theorem q_int {x : D} {xs : List D} (h1 : flatD x = true) (h2 : xs.all flatD = true) (h : Q (.bl (inD x xs)) O) : CmpQ .In x (.tup xs) O Q := ⟨h1, h2, h⟩
theorem q_fmti {i : Int} (h1 : i.natAbs.log2 < 1920) (h : Q (.str (Str.ofString (toString i))) O) : (∃ z : Str, D.int i = .str z ∧ z.length ≤ sizeLine ∧ Q (.str z) O) ∨ ∃ j : Int, D.int i = .int j ∧ j.natAbs.log2 < 1920 ∧ Q (.str (Str.ofString (toString j))) O := .inr ⟨i, rfl, h1, h⟩
theorem q_stri {i : Int} (h1 : i.natAbs.log2 < 1920) (h : Q (.str (Str.ofString (toString i))) O) : StrQ [.int i] O Q := ⟨h1, h⟩
theorem q_sls {z : Str} {lo hi : Option Int} (hz : z.length ≤ sizeLine) (h : Q (.str (cutS z lo hi)) O) : SlQ (.str z) lo hi O Q := ⟨hz, h⟩
theorem q_slt {xs : List D} {lo hi : Option Int} (h : Q (.tup (cutD xs lo hi)) O) : SlQ (.tup xs) lo hi O Q := h
theorem q_sll {xs : List D} {lo hi : Option Int} (h : Q (.lst (cutD xs lo hi)) O) : SlQ (.lst xs) lo hi O Q := h
theorem q_subb {a b : Bool} (h : Q (.int (PyProof.Rows.b2i a - PyProof.Rows.b2i b)) O) : BinQ .Sub (.bl a) (.bl b) O Q := h
/-- both ways give v -/
theorem we_both {c : Bool} {e1 e2 : Expr} (v : D) (h1 : c = true → We Γ e1 ρ O fun d O1 => d = v ∧ O1 = O) (h2 : c = false → We Γ e2 ρ O fun d O1 => d = v ∧ O1 = O) (h : Q v O) : if c = true then We Γ e1 ρ O Q else We Γ e2 ρ O Q :=
  if2 (fun hc => (h1 hc).imp fun d O1 ⟨k1, k2⟩ => by subst k1 k2; exact h) fun hc => (h2 hc).imp fun d O1 ⟨k1, k2⟩ => by subst k1 k2; exact h
theorem q_ixo {a : Addr} {ds : List D} {i : Int} {d : D} (ho : O a = some (.lst ds)) (h1 : atI ds i = some d) (h : Q d O) : IxQ (.raw (.ref a)) (.int i) O Q := ⟨ds, d, ho, h1, h⟩
theorem q_lenr {xs : List D} (h : Q (.int xs.length) O) : LenQ [.rls xs] O Q := h
theorem q_ixr {xs : List D} {i : Int} {d : D} (h1 : atI xs i = some d) (h : Q d O) : IxQ (.rls xs) (.int i) O Q := ⟨d, h1, h⟩
theorem q_slr {xs : List D} {lo hi : Option Int} (h : Q (.lst (cutD xs lo hi)) O) : SlQ (.rls xs) lo hi O Q := h
theorem q_inti {i : Int} (h : Q (.int i) O) : IntQ [.int i] O Q := h
theorem q_intb {b : Bool} (h : Q (.int (if b then 1 else 0)) O) : IntQ [.bl b] O Q := h
theorem q_powi {i j : Int} (hc : CPow i j) (h : Q (.int (i ^ j.toNat)) O) : BinQ .Pow (.int i) (.int j) O Q := ⟨hc, h⟩
theorem q_isit {d : D} {a : Ty} {bs : List Ty} (h1 : tyD O d = some a) (h : Q (.bl (bs.any (isi a))) O) : IsiQ [d, .tup (bs.map tyd)] O Q := ⟨a, bs, h1, rfl, h⟩
theorem q_isb {a b : Bool} (h : Q (.bl (decide (a = b))) O) : CmpQ .Is (.bl a) (.bl b) O Q := h
theorem q_addl {a b : List D} (hz : a.length + b.length ≤ sizeLine) (h : Q (.lst (a ++ b)) O) : BinQ .Add (.lst a) (.lst b) O Q := ⟨hz, h⟩
theorem q_addt {a b : List D} (hz : a.length + b.length ≤ sizeLine) (h : Q (.tup (a ++ b)) O) : BinQ .Add (.tup a) (.tup b) O Q := ⟨hz, h⟩
theorem q_adds {a b : Str} (hz : a.length + b.length ≤ sizeLine) (h : Q (.str (a ++ b)) O) : BinQ .Add (.str a) (.str b) O Q := ⟨hz, h⟩
theorem q_bl2 {b : Bool} {P : Bool → Prop} (h : P b) : ∃ k, D.bl b = .bl k ∧ P k := ⟨b, rfl, h⟩
end
end DL

/-! DLL: == of data, told. -/
namespace DL
open PySem PySem.Spec PyProof.Rows L2
/-- layable, of depth at most n -/
def Lay (n : Nat) (d : D) : Prop := ∃ p, toPy d = some p ∧ p.canLay0 = true ∧ p.depth ≤ n
def LayS (n : Nat) (ds : List D) : Prop := ∃ ps, toPys ds = some ps ∧ PyData.canLayAll0 ps = true ∧ PyData.depthAll ps ≤ n
theorem layS_of {n : Nat} : ∀ {ds : List D}, (∀ d ∈ ds, Lay n d) → LayS n ds
  | [], _ => ⟨[], rfl, rfl, Nat.zero_le _⟩
  | d :: ds, h => by
    obtain ⟨p, h1, h2, h3⟩ := h d List.mem_cons_self
    obtain ⟨ps, g1, g2, g3⟩ := layS_of fun e he => h e (List.mem_cons_of_mem _ he)
    refine ⟨p :: ps, by rw [toPys, h1, g1]; rfl, ?_, ?_⟩
    · rw [PyData.canLayAll0, h2, g2]; rfl
    · rw [PyData.depthAll]; exact Nat.max_le.mpr ⟨h3, g3⟩
theorem lay_tup {n : Nat} {ds : List D} (h : ∀ d ∈ ds, Lay n d) : Lay (n + 1) (.tup ds) := by
  obtain ⟨ps, g1, g2, g3⟩ := layS_of h
  exact ⟨.tuple ps, by rw [toPy, g1]; rfl, by rw [PyData.canLay0]; exact g2, by rw [PyData.depth]; omega⟩
theorem lay_lst {n : Nat} {ds : List D} (h : ∀ d ∈ ds, Lay n d) : Lay (n + 1) (.lst ds) := by
  obtain ⟨ps, g1, g2, g3⟩ := layS_of h
  exact ⟨.list ps, by rw [toPy, g1]; rfl, by rw [PyData.canLay0]; exact g2, by rw [PyData.depth]; omega⟩
theorem lay_non {n : Nat} : Lay n .non := ⟨_, rfl, by rw [PyData.canLay0], by rw [PyData.depth]; exact Nat.zero_le _⟩
theorem lay_bl {n : Nat} {b : Bool} : Lay n (.bl b) := ⟨_, rfl, by rw [PyData.canLay0], by rw [PyData.depth]; exact Nat.zero_le _⟩
theorem lay_int {n : Nat} {i : Int} : Lay n (.int i) := ⟨_, rfl, by rw [PyData.canLay0], by rw [PyData.depth]; exact Nat.zero_le _⟩
theorem lay_str {n : Nat} {z : Str} (h : PyData.strOk z = true) : Lay n (.str z) := ⟨_, rfl, by rw [PyData.canLay0]; exact h, by rw [PyData.depth]; exact Nat.zero_le _⟩
theorem Lay.le {n m : Nat} {d : D} (h : Lay n d) (k : n ≤ m) : Lay m d := by
  obtain ⟨p, h1, h2, h3⟩ := h
  exact ⟨p, h1, h2, Nat.le_trans h3 k⟩
def eqD (x y : D) : Bool := match toPy x, toPy y with
  | some p, some q => PyData.eqv p q
  | _, _ => false
def eqDs (x y : List D) : Bool := match toPys x, toPys y with
  | some p, some q => PyData.eqvAll p q
  | _, _ => false
section
variable {O : Opens} {Q : DK} {x y : D}
theorem q_eqd (h1 : Lay 64 x) (h2 : Lay 64 y) (h : Q (.bl (eqD x y)) O) : CmpQ .Eq x y O Q := by
  obtain ⟨p, a1, a2, a3⟩ := h1
  obtain ⟨q, b1, b2, b3⟩ := h2
  show EqQ false x y O Q
  unfold eqD at h
  unfold EqQ
  split
  · cases a1; cases b1
    rw [toPy, toPy] at h
    simpa [PyData.eqv] using h
  · refine ⟨p, q, a1, b1, ?_, ?_, ?_⟩
    · unfold SeqAt.shaped; rw [a2, decide_eq_true a3]; rfl
    · unfold SeqAt.shaped; rw [b2, decide_eq_true b3]; rfl
    · rw [a1, b1] at h
      exact h
theorem q_ned (h1 : Lay 64 x) (h2 : Lay 64 y) (h : Q (.bl (!eqD x y)) O) : CmpQ .NotEq x y O Q := by
  obtain ⟨p, a1, a2, a3⟩ := h1
  obtain ⟨q, b1, b2, b3⟩ := h2
  show EqQ true x y O Q
  unfold eqD at h
  unfold EqQ
  split
  · cases a1; cases b1
    rw [toPy, toPy] at h
    simpa [PyData.eqv] using h
  · refine ⟨p, q, a1, b1, ?_, ?_, ?_⟩
    · unfold SeqAt.shaped; rw [a2, decide_eq_true a3]; rfl
    · unfold SeqAt.shaped; rw [b2, decide_eq_true b3]; rfl
    · rw [a1, b1] at h
      exact h
end
theorem eqDs_nil : eqDs [] [] = true := rfl
theorem eqDs_cons {x y : D} {xs ys : List D} {n : Nat} (h1 : Lay n x) (h2 : Lay n y) (h3 : LayS n xs) (h4 : LayS n ys) : eqDs (x :: xs) (y :: ys) = (eqD x y && eqDs xs ys) := by
  obtain ⟨p, a1, _, _⟩ := h1
  obtain ⟨q, b1, _, _⟩ := h2
  obtain ⟨ps, c1, _, _⟩ := h3
  obtain ⟨qs, d1, _, _⟩ := h4
  unfold eqDs eqD
  rw [toPys, toPys, a1, b1, c1, d1]
  rfl
theorem eqDs_nc {y : D} {ys : List D} : eqDs [] (y :: ys) = false := by
  unfold eqDs
  rw [toPys, toPys]
  cases toPy y with
  | none => rfl
  | some q =>
    cases toPys ys with
    | none => rfl
    | some qs => rfl
theorem eqDs_cn {y : D} {ys : List D} : eqDs (y :: ys) [] = false := by
  unfold eqDs
  rw [toPys, toPys]
  cases toPy y with
  | none => rfl
  | some q =>
    cases toPys ys with
    | none => rfl
    | some qs => rfl
theorem eqD_tup {xs ys : List D} : eqD (.tup xs) (.tup ys) = eqDs xs ys := by
  unfold eqD eqDs
  rw [toPy, toPy]
  cases toPys xs <;> cases toPys ys <;> rfl
theorem eqD_lst {xs ys : List D} : eqD (.lst xs) (.lst ys) = eqDs xs ys := by
  unfold eqD eqDs
  rw [toPy, toPy]
  cases toPys xs <;> cases toPys ys <;> rfl
theorem eqD_int {i j : Int} : eqD (.int i) (.int j) = (i == j) := rfl
theorem eqD_str {i j : Str} : eqD (.str i) (.str j) = (i == j) := rfl
theorem eqD_bl {i j : Bool} : eqD (.bl i) (.bl j) = (i == j) := rfl
theorem lays_ints {n : Nat} {ns : List Int} : ∀ d ∈ ns.map D.int, Lay n d := fun d hd => by
  obtain ⟨i, _, rfl⟩ := List.mem_map.mp hd
  exact lay_int
theorem lays_strs {n : Nat} {ns : List Str} (h : ∀ z ∈ ns, PyData.strOk z = true) : ∀ d ∈ ns.map D.str, Lay n d := fun d hd => by
  obtain ⟨i, hi, rfl⟩ := List.mem_map.mp hd
  exact lay_str (h i hi)
theorem lays_bls {n : Nat} {ns : List Bool} : ∀ d ∈ ns.map D.bl, Lay n d := fun d hd => by
  obtain ⟨i, hi, rfl⟩ := List.mem_map.mp hd
  exact lay_bl
theorem eqDs_ints : ∀ {ns ms : List Int}, eqDs (ns.map D.int) (ms.map D.int) = decide (ns = ms)
  | [], [] => rfl
  | [], m :: ms => by rw [List.map_cons, List.map_nil, eqDs_nc]; rfl
  | n :: ns, [] => by rw [List.map_cons, List.map_nil, eqDs_cn]; rfl
  | n :: ns, m :: ms => by
    rw [List.map_cons, List.map_cons, eqDs_cons (n := 0) lay_int lay_int (layS_of lays_ints) (layS_of lays_ints), eqDs_ints, eqD_int]
    by_cases h : n = m
    · subst h; simp
    · simp [h]
theorem eqDs_strs : ∀ {ns ms : List Str}, (∀ z ∈ ns, PyData.strOk z = true) → (∀ z ∈ ms, PyData.strOk z = true) → eqDs (ns.map D.str) (ms.map D.str) = decide (ns = ms)
  | [], [], _, _ => rfl
  | [], m :: ms, _, _ => by rw [List.map_cons, List.map_nil, eqDs_nc]; rfl
  | n :: ns, [], _, _ => by rw [List.map_cons, List.map_nil, eqDs_cn]; rfl
  | n :: ns, m :: ms, h1, h2 => by
    have k1 : ∀ z ∈ ns, PyData.strOk z = true := fun z h => h1 z (List.mem_cons_of_mem _ h)
    have k2 : ∀ z ∈ ms, PyData.strOk z = true := fun z h => h2 z (List.mem_cons_of_mem _ h)
    rw [List.map_cons, List.map_cons, eqDs_cons (n := 0) (lay_str (h1 n List.mem_cons_self)) (lay_str (h2 m List.mem_cons_self)) (layS_of (lays_strs k1)) (layS_of (lays_strs k2)), eqDs_strs k1 k2, eqD_str]
    by_cases h : n = m
    · subst h; simp
    · simp [h]
theorem eqDs_bls : ∀ {ns ms : List Bool}, eqDs (ns.map D.bl) (ms.map D.bl) = decide (ns = ms)
  | [], [] => rfl
  | [], m :: ms => by rw [List.map_cons, List.map_nil, eqDs_nc]; rfl
  | n :: ns, [] => by rw [List.map_cons, List.map_nil, eqDs_cn]; rfl
  | n :: ns, m :: ms => by
    rw [List.map_cons, List.map_cons, eqDs_cons (n := 0) lay_bl lay_bl (layS_of lays_bls) (layS_of lays_bls), eqDs_bls, eqD_bl]
    by_cases h : n = m
    · subst h; simp
    · simp [h]
end DL

/-! DLX5: the __init__ of an own exception. -/
namespace DL
open PySem PySem.Spec PyProof.Rows L2 DLX
/-- a def of a class by its body -/
theorem met_ok {M : Mo} {x qual : Str} {st : Stmt} {f : Addr} {fd : FuncData} {N ps : List Str} {k : Nat} {sp : SpD} (Fn : Fun M.K x qual st f fd) (S : FnScope N ps (defScope st)) (len : ∀ ds O Q E, sp ds O Q E → ds.length = ps.length)
    (body : ∀ (F : Fr) (ds : List D) (O : Opens) (Qd : DK) (Ed : XD → Opens → Prop), sp ds O Qd Ed → WSs (bodyG M N (defScope st) k F Ed) (defBody st) (startD N ds) O { nx := fun _ O' => Qd .non O', rt := Qd }) : FnOk M.P M.w M.K M.mg M.base (L2.CX M.P M.w) (k + 1) f fd ps (lift M.K sp) := by
  refine Fn.okX S (fun vs H Q E ⟨ds, F, O, Qd, Ed, r, _, q, _⟩ => by rw [← r.length]; exact len _ _ _ _ q) fun cdv A outer s H vs Q E hr ⟨ds, F, O, Qd, Ed, r, S', q, hQ, hE⟩ => ?_
  have hX := bodyG_has (M := M) (qual := qual) (st := st) (f := f) (cdv := cdv) (A := A) (outer := outer) (s := s) (H := H) (E := E) (Ed := Ed) (F0 := F) S.nd hr hE
  refine ⟨_, EvSs.pss hX (defBody st), ?_⟩
  refine (body F ds O Qd Ed q F (L2.start N vs) H (Ext.refl F) S' (start_env r)).mono (fun σ' H' ⟨ρ', F', O', e, s', r', q'⟩ => hQ .non .non F' O' H' e s' rep_non q') (fun v H' ⟨d, F', O', e, s', r', q'⟩ => hQ d v F' O' H' e s' r' q') (fun σ' H' ⟨ρ', F', O', e, s', r', q'⟩ => q'.elim) fun σ' H' ⟨ρ', F', O', e, s', r', q'⟩ => q'.elim
/-- the class x at E, whose __init__ is ValueError's -/
structure UpC (M : Mo) (x : Str) (E : Addr) : Prop where
  g : M.mg x = some (.ref E)
  rd : ∃ mc, ClX.CRead M.K E mc ∧ PySem.W.findCls M.K (.ref E) mc "__init__" = some (.val (.builtin "ValueError.__init__"))
section
variable {Γ : G} {ρ : Env'} {O : Opens} {Z : EndsD} {Q : DK} {x f : Str} {o e e2 : Expr} {p1 p2 p' pos : Pos} {E : Addr}
/-- E.__init__(self, e2) -/
theorem we_upI (hu : UpC Γ.M x E) (hg : GlN Γ x) (h : We Γ e ρ O fun s O1 => We Γ e2 ρ O1 fun _ O2 => ∃ a C, s = .raw (.ref a) ∧ OexC Γ.M.K C ∧ O2 a = some (.exo a C none) ∧ Q .non O2) (hd : (x == ("__debug__" : Str)) = false := by decide)
    (hc : ∀ env, ∃ pl, eval (.Call (.Attribute (.Name x p1) "__init__" p2) [e, e2] [] pos) env = (do
      let ov ← eval (.Name x p1) env
      standAt p2.atName
      let (g, first) ← holding [ov] (getMethod ov "__init__" pl)
      callWith pos g first (backTo pos (starEach [e, e2] env)) (backToKw pos (keywordEach [] env))) := by intro _; exact ⟨_, rfl⟩)
    (h1 : ∀ env, starEach [e, e2] env = (false, eval e env) :: starEach [e2] env := by intro _; rfl) (h2 : ∀ env, starEach [e2] env = (false, eval e2 env) :: starEach [] env := by intro _; rfl) (hpl : ∀ env, (backTo pos (starEach [e2] env)).any (·.1) = false := by intro _; rfl) :
    We Γ (.Call (.Attribute (.Name x p1) "__init__" p2) [e, e2] [] pos) ρ O Q := fun F σ H e0 s r X hX pins st I => by
  obtain ⟨mc, r1, r2⟩ := hu.rd
  obtain ⟨pl, hc⟩ := hc X.env
  refine (pe_upI (pl := pl) (hX.gl hg) (by rw [← hX.mg]; exact hu.g) (hX.K ▸ r1) (hX.K ▸ r2) (pa_cons (Ev.pe hX e) (pa_cons (Ev.pe hX e2) pa_nil (h2 X.env)) (h1 X.env)) hd hc (h1 X.env) (hpl X.env)).run pins st σ H _ I ?_
  refine (h F σ H e0 s r).mono fun v H1 ⟨dv, F1, O1, e1, s1, rv, q1⟩ => (q1 F1 σ H1 (e0.trans e1) s1 (r.mono e1)).mono fun w H2 ⟨dw, F2, O2, x2, s2, rw', a, C, hs, T, ho, q⟩ => ?_
  subst hs
  cases rv
  obtain ⟨_, u, hu2, ru⟩ := s2.opn a _ ho
  have ru : u = exo a C none := ru
  subst ru
  exact ⟨a, C, [w], rfl, by show 1 ≤ 1000; decide, hX.K ▸ T, hu2, .non, F2, O2, e1.trans x2, s2, rep_non, q⟩
/-- self.f = e, the first field -/
theorem ws_ost (h : We Γ e ρ O fun d O1 => We Γ o ρ O1 fun s O2 => ∃ a C, s = .raw (.ref a) ∧ OexC Γ.M.K C ∧ PySem.W.findIn Γ.M.K (.ref C) f = some none ∧ O2 a = some (.exo a C none) ∧ ∀ dx, O2 dx = none → dx ≠ a → Z.nx ρ ((O2.up dx (.exd dx [f] [d])).up a (.exo a C (some dx))))
    (hs : ∀ env, env.scope = Γ.sc → swapsWith e (some (.Attribute o f p')) pos.line env = pure false := by intro _ _; rfl) : WS Γ (.Assign [.Attribute o f p'] e pos) ρ O Z := fun F σ H e0 s r X hX pins st I => by
  refine (ps_ost (Ev.pe hX o) (Ev.pe hX e) (hs X.env hX.sc)).run pins st σ H _ I ?_
  refine (h F σ H e0 s r).mono fun v H1 ⟨dv, F1, O1, e1, s1, rv, q1⟩ => (q1 F1 σ H1 (e0.trans e1) s1 (r.mono e1)).mono fun w H2 ⟨dw, F2, O2, x2, s2, rw', a, C, hd, T, no, ho, q⟩ => ?_
  subst hd
  cases rw'
  obtain ⟨_, u, hu2, ru⟩ := s2.opn a _ ho
  have ru : u = exo a C none := ru
  subst ru
  refine ⟨a, C, rfl, hX.K ▸ T, hX.K ▸ no, .inl ⟨hu2, fun dx n ne => ?_⟩⟩
  have S3 := s2.open_ (u := .exd dx [f] [dv]) n ⟨[v], rfl, rfl, Reps.cons (rv.mono x2) Reps.nil⟩
  have S4 := S3.change (p := a) (w := .exo a C none) (u := .exo a C (some dx)) (o := exo a C (some dx)) (by rw [Opens.up_ne (Ne.symm ne)]; exact ho) rfl
  exact ks (e1.trans x2) S4 (r.mono (e1.trans x2)) (q dx (s2.closed n) ne)
end
end DL

/-! DLM: dicts that are open: written, stored in, asked. -/
namespace DL
open PySem PySem.Spec PyProof.Rows L2
def putKs (ks : List Key) (k : Key) : List Key := if (ks.any fun x => decide (x = k)) = true then ks else ks ++ [k]
def putVs {α : Type} (ks : List Key) (vs : List α) (k : Key) (v : α) : List α := if (ks.any fun x => decide (x = k)) = true then List.zipWith (fun x y => if x = k then v else y) ks vs else vs ++ [v]
theorem any_zip {ks : List Key} {vs : List V} {k : Key} : ks.length = vs.length → (ks.zip vs).any (fun kv => decide (kv.1 = k)) = ks.any fun x => decide (x = k) := by
  induction ks generalizing vs with
  | nil => intro _; rfl
  | cons a ks ih =>
    intro h
    match vs, h with
    | v :: vs, h =>
      rw [List.zip_cons_cons, List.any_cons, List.any_cons, ih (by simpa using h)]
theorem map_zip {ks : List Key} {vs : List V} {k : Key} {v : V} : ks.length = vs.length → (ks.zip vs).map (fun kv => if kv.1 = k then (kv.1, v) else kv) = ks.zip (List.zipWith (fun x y => if x = k then v else y) ks vs) := by
  induction ks generalizing vs with
  | nil => intro _; rfl
  | cons a ks ih =>
    intro h
    match vs, h with
    | u :: vs, h =>
      rw [List.zip_cons_cons, List.map_cons, ih (by simpa using h), List.zipWith_cons_cons, List.zip_cons_cons]
      by_cases e : a = k
      · rw [if_pos e, if_pos e]
      · rw [if_neg e, if_neg e]
theorem put_zip {ks : List Key} {vs : List V} {k : Key} {v : V} (h : ks.length = vs.length) : putK (ks.zip vs) k v = (putKs ks k).zip (putVs ks vs k v) := by
  unfold putK putKs putVs
  rw [any_zip h]
  split
  · rw [map_zip h]
  · rw [List.zip_append h]; rfl
theorem put_len {α : Type} {ks : List Key} {vs : List α} {k : Key} {v : α} (h : ks.length = vs.length) : (putKs ks k).length = (putVs ks vs k v).length := by
  unfold putKs putVs
  split
  · rw [List.length_zipWith, h, Nat.min_self]
  · rw [List.length_append, List.length_append, h]; rfl
theorem reps_zip {K : PySem.W.Frag} {F : Fr} {d : D} {v : V} {k : Key} (r : Rep K F d v) : ∀ {ks : List Key} {ds : List D} {vs : List V}, Reps K F ds vs → Reps K F (List.zipWith (fun x y => if x = k then d else y) ks ds) (List.zipWith (fun x y => if x = k then v else y) ks vs)
  | [], _, _, _ => rfl
  | _ :: _, [], vs, h => by cases (show vs = [] from h); rfl
  | a :: ks, e :: ds, vs, h => by
    obtain ⟨u, t, rfl, h1, h2⟩ := h
    rw [List.zipWith_cons_cons, List.zipWith_cons_cons]
    refine Reps.cons ?_ (reps_zip r h2)
    by_cases c : a = k
    · rw [if_pos c, if_pos c]; exact r
    · rw [if_neg c, if_neg c]; exact h1
theorem reps_put {K : PySem.W.Frag} {F : Fr} {d : D} {v : V} {k : Key} {ks : List Key} {ds : List D} {vs : List V} (r : Rep K F d v) (h : Reps K F ds vs) : Reps K F (putVs ks ds k d) (putVs ks vs k v) := by
  unfold putVs
  split
  · exact reps_zip r h
  · exact h.append (Reps.cons r Reps.nil)
theorem put_has {ks : List Key} {k : Key} : ((putKs ks k).any fun x => decide (x = k)) = true := by
  unfold putKs
  split
  · rename_i h; exact h
  · rw [List.any_append, List.any_cons, decide_eq_true rfl, Bool.true_or, Bool.or_true]
theorem put_le {ks : List Key} {k : Key} : (putKs ks k).length ≤ ks.length + 1 := by
  unfold putKs
  split
  · omega
  · rw [List.length_append]; exact Nat.le_refl _
section
variable {Γ : G} {ρ : Env'} {O : Opens} {Z : EndsD} {Q : DK} {x : Str} {o e i a b : Expr} {pos p : Pos}
theorem Stt.dict {K : PySem.W.Frag} {F : Fr} {H : Hp} (S : Stt K F O H) {q : Addr} {ks : List Key} {ds : List D} (h : O q = some (.dic ks ds)) : ∃ vs, H q = some (.dK (ks.zip vs)) ∧ ks.length = ds.length ∧ Reps K F ds vs := by
  obtain ⟨_, ho, h2, vs, rfl, h3, h4⟩ := S.opn q _ h
  exact ⟨vs, h2, h3, h4⟩
/-- {k: e}, k a text; left open -/
theorem we_dic1 (h : ∀ q, O q = none → We Γ i ρ (O.up q (.dic [] [])) fun dk O1 => We Γ e ρ O1 fun dv O2 => ∃ z, dk = .str z ∧ O2 q = some (.dic [] []) ∧ Q (.raw (.ref q)) (O2.up q (.dic [.inr z] [dv]))) : We Γ (.Dict [some i] [e] pos) ρ O Q := fun F σ H e0 s r X hX pins st I => by
  refine (pe_disp (pps_cons (Ev.pe hX i) (Ev.pe hX e) pps_nil) rfl rfl (fun z => nomatch z) (by show 1 ≤ 15; decide)).run pins st σ H _ I fun q hq => ?_
  have S1 := s.open_ (u := .dic [] []) hq ⟨[], rfl, rfl, rfl⟩
  refine (h q (s.closed hq) F σ _ e0 S1 r).mono fun v H1 ⟨dk, F1, O1, e1, s1, r1, q1⟩ => (q1 F1 σ H1 (e0.trans e1) s1 (r.mono e1)).mono fun w H2 ⟨dv, F2, O2, e2, s2, r2, z, hk, ho, q2⟩ => ?_
  subst hk
  cases r1
  obtain ⟨vs, g1, g2, g3⟩ := s2.dict ho
  cases (show vs = [] from g3)
  refine ⟨g1, [(.inr z, w)], rfl, by show 1 ≤ 15; decide, ?_⟩
  exact ⟨.raw (.ref q), F2, O2.up q (.dic [.inr z] [dv]), e1.trans e2, s2.change ho ⟨[w], rfl, rfl, Reps.cons r2 Reps.nil⟩, rep_raw, q2⟩
/-- d[k] = v, the dict open, k a text -/
theorem wg_subD {d : D} {Q : Env' → Opens → Prop} (h : We Γ o ρ O fun y O1 => We Γ i ρ O1 fun k O2 => ∃ q ks ds z, y = .raw (.ref q) ∧ k = .str z ∧ O2 q = some (.dic ks ds) ∧ ks.length < sizeLine ∧ Q ρ (O2.up q (.dic (putKs ks (.inr z)) (putVs ks ds (.inr z) d))))
    (ha : ∀ env v, assign (.Subscript o i pos) env v = (do let ov ← holding [v] (eval o env); let iv ← holding [v, ov] (eval i env); standAt pos; holding [v, ov, iv] (setItem ov iv v); release [v, ov, iv] []) := by intro _ _; rfl) : WG Γ (.Subscript o i pos) d ρ O Q := fun F σ H v e0 s r rv X hX pins st u I ru => by
  refine (pg_sub (Ev.pe hX o) (Ev.pe hX i) (set_dict (by have := hX.units; omega)) (ha X.env)).run pins st σ H v u _ I ru ((h F σ H e0 s r).mono fun y H1 ⟨dy, F1, O1, e1, s1, ry, q1⟩ => ?_)
  refine (q1 F1 σ H1 (e0.trans e1) s1 (r.mono e1)).mono fun k H2 ⟨dk, F2, O2, e2, s2, rk, q, ks, ds, z, hy, hk, ho, hz, q2⟩ => ?_
  subst hy hk
  cases ry; cases rk
  obtain ⟨vs, g1, g2, g3⟩ := s2.dict ho
  have e := e1.trans e2
  have hl : ks.length = vs.length := by rw [g2, g3.length]
  refine ⟨q, _, rfl, DPut.k (k := .inr z) g1 (by rw [List.length_zip, ← hl, Nat.min_self]; exact hz), ks_ e ?_ (r.mono e) q2⟩
  rw [put_zip hl]
  exact s2.change ho ⟨_, rfl, put_len g2, reps_put (rv.mono e) g3⟩
where ks_ {F F' : Fr} {ρ' : Env'} {O' : Opens} {σ : L2.St} {H : Hp} {Q : Env' → Opens → Prop} (e : Ext F F') (s : Stt Γ.M.K F' O' H) (r : EnvR Γ.M.K F' ρ' σ) (q : Q ρ' O') : KS Γ F Q σ H := ⟨ρ', F', O', e, s, r, q⟩
theorem val_zip {ks : List Key} {vs : List V} {k : Key} : ks.length = vs.length → (valV (ks.zip vs) k).isSome = ks.any fun x => decide (x = k) := by
  induction ks generalizing vs with
  | nil => intro _; rfl
  | cons a ks ih =>
    intro h
    match vs, h with
    | u :: vs, h =>
      rw [List.zip_cons_cons, List.any_cons]
      by_cases e : a = k
      · rw [valV_pos (p := (a, u)) e, decide_eq_true e]; rfl
      · have e2 : valV ((a, u) :: ks.zip vs) k = valV (ks.zip vs) k := by
          unfold valV
          rw [List.find?_cons, decide_eq_false e]
        rw [e2, ih (by simpa using h), decide_eq_false e, Bool.false_or]
/-- z in d, the dict open -/
theorem we_inD (h : We Γ a ρ O fun y O1 => We Γ b ρ O1 fun y2 O2 => ∃ q ks ds z, y2 = .raw (.ref q) ∧ y = .str z ∧ O2 q = some (.dic ks ds) ∧ Q (.bl (ks.any fun x => decide (x = .inr z))) O2) (hm : behindInMarks .In b = false := by first | exact nomark _ | rfl | with_unfolding_all rfl) : We Γ (.Compare a [.In] [b] pos) ρ O Q := fun F σ H e0 s r X hX pins st I => by
  refine (pe_cmp (pc_din (by have := hX.units; omega) (Ev.pe hX a) (Ev.pe hX b)) hm).run pins st σ H _ I ((h F σ H e0 s r).mono fun y H1 ⟨dy, F1, O1, e1, s1, ry, q1⟩ => ?_)
  refine (q1 F1 σ H1 (e0.trans e1) s1 (r.mono e1)).mono fun k H2 ⟨dk, F2, O2, e2, s2, rk, q, ks, ds, z, hy, hk, ho, q2⟩ => ?_
  subst hy hk
  cases ry; cases rk
  obtain ⟨vs, g1, g2, g3⟩ := s2.dict ho
  refine ⟨q, valV (ks.zip vs) (.inr z), rfl, DGet.k (k := .inr z) g1, kv1 (e1.trans e2) s2 rep_bl ?_⟩
  rw [val_zip (by rw [g2, g3.length])]
  exact q2
/-- len of an open dict -/
def LenDQ : DC := fun ds O Q => ∃ q ks es, ds = [.raw (.ref q)] ∧ O q = some (.dic ks es) ∧ Q (.int ks.length) O
theorem lend_ok {X : Cx} : CallD Γ X (.builtin "len") LenDQ := by
  intro F O ds Q pins s σ H vs us I rv e0 S rd ⟨q, ks, es, e, ho, q2⟩
  subst e
  obtain ⟨v, rfl, r⟩ := reps1 rd
  cases r
  obtain ⟨ws, g1, g2, g3⟩ := S.dict ho
  refine call_lenD pins s σ H _ _ _ I rv ⟨q, ks.zip ws, rfl, g1, kv S rep_int ?_⟩
  rw [List.length_zip, g2, ← g3.length, Nat.min_self, ← g2]
  exact q2
theorem we_lenD (B : Blt Γ.M) (hg : GlN Γ "len") (h : We Γ e ρ O fun d O1 => LenDQ [d] O1 Q) (h1 : ∀ env, starEach [e] env = (false, eval e env) :: starEach [] env := by intro _; rfl) : We Γ (.Call (.Name "len" p) [e] [] pos) ρ O Q :=
  we_blt (fun X hX => lend_ok) hg B.len PySem.boot_len (one_arg h h1) (he := h1)
end
end DL

/-! DLN: calls of a function that was taken from a list. -/
namespace DL
open PySem PySem.Spec PyProof.Rows L2
section
variable {Γ : G} {ρ : Env'} {O : Opens} {Q : DK}
/-- a value that is a def -/
def IsDef (Γ : G) (d : D) (sp : SpD) : Prop := ∃ (x : Str) (st : Stmt) (ps : List Str) (k : Nat) (f : Addr), d = .raw (.ref f) ∧ Γ.M.mg x = some (.ref f) ∧ DefD Γ.M x st ps k sp ∧ k ≤ Γ.k
theorem we_callS {o i e : Expr} {es : List Expr} {p1 pos : Pos} (hh : Γ.hot = false) (h : We Γ (.Subscript o i p1) ρ O fun d O1 => ∃ sp, IsDef Γ d sp ∧ WA Γ (e :: es) ρ O1 fun ds O2 => sp ds O2 Q fun x O3 => Γ.E x ρ O3)
    (h2 : ∀ env, starEach (e :: es) env = (false, eval e env) :: starEach es env := by intro _; rfl) (h3 : ∀ env, (backTo pos (starEach es env)).any (·.1) = false := by intro _; rfl) : We Γ (.Call (.Subscript o i p1) (e :: es) [] pos) ρ O Q := fun F σ H e0 s r X hX pins sh I => by
  have arm : eval (.Call (.Subscript o i p1) (e :: es) [] pos) X.env = (do callWith pos (← eval (.Subscript o i p1) X.env) [] (backTo pos (starEach (e :: es) X.env)) (backToKw pos (keywordEach [] X.env))) := rfl
  rw [arm]
  refine wpAny_bind ?_
  refine thn (h F σ H e0 s r X hX pins sh I) fun v s1 ⟨w, H1, I1, rv, d, F1, O1, e1, t1, r1, sp, ⟨x, st, ps, k, f, ed, hm, hd, hk⟩, wa⟩ => ?_
  subst ed
  obtain ⟨f', fd, g1, g2, g3⟩ := hX.def_ hd
  have ef : f' = f := by rw [← hX.mg, hm] at g1; cases g1; rfl
  subst ef
  have ew : w = .ref f' := r1
  subst ew
  have ev : v = .ref f' := rv
  subst ev
  refine PySem.W.callWith_K (first := []) (h₀ := X.base) I1.ok.mod.kin g2.kp (thn ((EvA.pa hX _).run pos pins s1 σ H1 _ I1 (wa F1 σ H1 (e0.trans e1) t1 (r.mono e1))) fun us s2 ⟨vs, H2, I2, ru, ds, F2, O2, e2, t2, r2, q⟩ => ⟨I2.kIn, ?_⟩) (h2 X.env) (h3 X.env)
  exact run_fnS (E := L2.WE Γ.W) g3 ((hX.room hh).mono hk) (g2.binds hd.bd) (passAt hX.takes σ) I2 ru (lift_call hX e0 (e1.trans e2) t2 r r2 q)
end
end DL

/-! DLR: more methods of open lists, sorted of ints. -/
namespace DL
open PySem PySem.Spec PyProof.Rows L2
section
variable {Γ : G} {ρ : Env'} {O : Opens} {Q : DK}
theorem Reps.erase {K : PySem.W.Frag} {F : Fr} : ∀ {ds : List D} {vs : List V} (i : Nat), Reps K F ds vs → Reps K F (ds.eraseIdx i) (vs.eraseIdx i)
  | [], vs, _, h => by cases (show vs = [] from h); exact rfl
  | d :: ds, vs, 0, h => by
    obtain ⟨v, r, rfl, h2, h3⟩ := h
    exact h3
  | d :: ds, vs, i + 1, h => by
    obtain ⟨v, r, rfl, h2, h3⟩ := h
    exact ⟨_, _, rfl, h2, Reps.erase i h3⟩
/-- xs.pop(e), the list open -/
theorem we_popAt {o e : Expr} {apos pos : Pos} (h : We Γ o ρ O fun x O1 => ∃ a ds, x = .raw (.ref a) ∧ O1 a = some (.lst ds) ∧ We Γ e ρ O1 fun y O2 => ∃ (ds : List D) (k : Nat) (d : D), O2 a = some (.lst ds) ∧ y = .int (k : Int) ∧ ds.length ≤ sizeLine ∧ ds[k]? = some d ∧ Q d (O2.up a (.lst (ds.eraseIdx k))))
    (hs : ∀ env, starEach [e] env = (false, eval e env) :: starEach [] env := by intro _; rfl) (hbase : ∀ env, attributeBase o "pop" env (eval o env) = eval o env := by intro _; rfl) (hline : (apos.endLine == pos.line) = true := by rfl)
    (hfew : ∀ env, ((backTo pos (starEach [e] env)).all (fun x => !x.1) && (backToKw pos (keywordEach [] env)).all (fun x => x.1.isSome) && decide ([e].length + ([] : List Keyword).length + (if ([] : List Keyword).isEmpty then 0 else 1) < 30)) = true := by intro _; rfl) :
    We Γ (.Call (.Attribute o "pop" apos) [e] [] pos) ρ O Q := fun F σ H e0 s rr X hX pins st I => by
  refine (pe_bm PySem.F.plainAttrs_list PySem.F.slot_list_pop PySem.F.type_list_pop mt_popAt (Ev.pe hX o) (pa_cons (Ev.pe hX e) pa_nil (hs X.env)) (hbase X.env) (hfew X.env) hline (hs X.env)).run pins st σ H _ I ((h F σ H e0 s rr).mono fun v H1 ⟨d, F1, O1, e1, s1, r1, a, ds, hd, ho, q1⟩ => ?_)
  subst hd
  cases r1
  obtain ⟨vs, g1, g2⟩ := s1.list ho
  refine ⟨.inl ⟨rfl, vs, SqL.of g1⟩, (q1 F1 σ H1 (e0.trans e1) s1 (rr.mono e1)).mono fun w H2 ⟨d2, F2, O2, e2, s2, r2, ds2, k, y, ho2, hk, hz, hy, q2⟩ => ?_⟩
  subst hk
  cases r2
  obtain ⟨vs2, k1, k2⟩ := s2.list ho2
  obtain ⟨yv, hv, ry⟩ := k2.get hy
  have hkl : k < vs2.length := (List.getElem?_eq_some_iff.mp hv).1
  have hz2 : vs2.length ≤ sizeLine := by rw [← k2.length]; exact hz
  have hsz : sizeLine = 16777216 := rfl
  refine ⟨a, vs2, _, k, yv, rfl, rfl, k1, by omega, by omega, ?_, hv, kv1 (e1.trans e2) (s2.change ho2 (u := .lst (ds2.eraseIdx k)) ⟨_, rfl, k2.erase k⟩) ry q2⟩
  unfold seqIndex?
  have hneg : ¬ ((k : Int) < 0) := by omega
  simp [hkl, hneg]
/-- xs.extend(e), the list open, e a list -/
theorem we_extend {o e : Expr} {apos pos : Pos} (h : We Γ o ρ O fun x O1 => ∃ a ds, x = .raw (.ref a) ∧ O1 a = some (.lst ds) ∧ We Γ e ρ O1 fun y O2 => ∃ ds es, O2 a = some (.lst ds) ∧ y = .lst es ∧ ds.length + es.length ≤ sizeLine ∧ Q .non (O2.up a (.lst (ds ++ es))))
    (hs : ∀ env, starEach [e] env = (false, eval e env) :: starEach [] env := by intro _; rfl) (hbase : ∀ env, attributeBase o "extend" env (eval o env) = eval o env := by intro _; rfl) (hline : (apos.endLine == pos.line) = true := by rfl)
    (hfew : ∀ env, ((backTo pos (starEach [e] env)).all (fun x => !x.1) && (backToKw pos (keywordEach [] env)).all (fun x => x.1.isSome) && decide ([e].length + ([] : List Keyword).length + (if ([] : List Keyword).isEmpty then 0 else 1) < 30)) = true := by intro _; rfl) :
    We Γ (.Call (.Attribute o "extend" apos) [e] [] pos) ρ O Q := fun F σ H e0 s rr X hX pins st I => by
  refine (pe_bm PySem.F.plainAttrs_list PySem.F.slot_list_extend PySem.F.type_list_extend mt_extend (Ev.pe hX o) (pa_cons (Ev.pe hX e) pa_nil (hs X.env)) (hbase X.env) (hfew X.env) hline (hs X.env)).run pins st σ H _ I ((h F σ H e0 s rr).mono fun v H1 ⟨d, F1, O1, e1, s1, r1, a, ds, hd, ho, q1⟩ => ?_)
  subst hd
  cases r1
  obtain ⟨vs, g1, g2⟩ := s1.list ho
  refine ⟨.inl ⟨rfl, vs, SqL.of g1⟩, (q1 F1 σ H1 (e0.trans e1) s1 (rr.mono e1)).mono fun w H2 ⟨d2, F2, O2, e2, s2, r2, ds2, es2, ho2, hd2, hz, q2⟩ => ?_⟩
  subst hd2
  obtain ⟨b, ws, rfl, b1, b2⟩ := r2
  obtain ⟨vs2, k1, k2⟩ := s2.list ho2
  exact ⟨a, b, vs2, ws, rfl, rfl, k1, s2.ext _ _ b1, by rw [← k2.length, ← b2.length]; exact hz, kv1 (e1.trans e2) (s2.change ho2 (u := .lst (ds2 ++ es2)) ⟨_, rfl, k2.append b2⟩) rep_non q2⟩
/-- xs.insert(i, e), the list open -/
theorem we_insert {o i e : Expr} {apos pos : Pos} (h : We Γ o ρ O fun x O1 => ∃ a ds, x = .raw (.ref a) ∧ O1 a = some (.lst ds) ∧ We Γ i ρ O1 fun z O2 => ∃ k : Nat, z = .int (k : Int) ∧ k < 2 ^ 63 ∧ We Γ e ρ O2 fun y O3 => ∃ ds, O3 a = some (.lst ds) ∧ ds.length < sizeLine ∧ Q .non (O3.up a (.lst (ds.take k ++ [y] ++ ds.drop k))))
    (hs : ∀ env, starEach [i, e] env = (false, eval i env) :: starEach [e] env := by intro _; rfl) (hs2 : ∀ env, starEach [e] env = (false, eval e env) :: starEach [] env := by intro _; rfl) (hbase : ∀ env, attributeBase o "insert" env (eval o env) = eval o env := by intro _; rfl) (hline : (apos.endLine == pos.line) = true := by rfl)
    (hfew : ∀ env, ((backTo pos (starEach [i, e] env)).all (fun x => !x.1) && (backToKw pos (keywordEach [] env)).all (fun x => x.1.isSome) && decide ([i, e].length + ([] : List Keyword).length + (if ([] : List Keyword).isEmpty then 0 else 1) < 30)) = true := by intro _; rfl) (hpl : ∀ env, (backTo pos (starEach [e] env)).any (·.1) = false := by intro _; rfl) :
    We Γ (.Call (.Attribute o "insert" apos) [i, e] [] pos) ρ O Q := fun F σ H e0 s rr X hX pins st I => by
  refine (pe_bm PySem.F.plainAttrs_list PySem.F.slot_list_insert PySem.F.type_list_insert mt_insert (Ev.pe hX o) (pa_cons (Ev.pe hX i) (pa_cons (Ev.pe hX e) pa_nil (hs2 X.env)) (hs X.env)) (hbase X.env) (hfew X.env) hline (hs X.env) (hpl X.env)).run pins st σ H _ I ((h F σ H e0 s rr).mono fun v H1 ⟨d, F1, O1, e1, s1, r1, a, ds, hd, ho, q1⟩ => ?_)
  subst hd
  cases r1
  obtain ⟨vs, g1, g2⟩ := s1.list ho
  refine ⟨.inl ⟨rfl, vs, SqL.of g1⟩, (q1 F1 σ H1 (e0.trans e1) s1 (rr.mono e1)).mono fun w H2 ⟨d2, F2, O2, e2, s2, r2, k, hk, hk2, q2⟩ => ?_⟩
  subst hk
  cases r2
  refine (q2 F2 σ H2 (e0.trans (e1.trans e2)) s2 (rr.mono (e1.trans e2))).mono fun u H3 ⟨d3, F3, O3, e3, s3, r3, ds3, ho3, hz, q3⟩ => ?_
  obtain ⟨vs3, k1, k2⟩ := s3.list ho3
  refine ⟨a, vs3, _, u, rfl, rfl, k1, by rw [← k2.length]; exact hz, by omega, by omega, kv1 ((e1.trans e2).trans e3) (s3.change ho3 (u := .lst (ds3.take k ++ [d3] ++ ds3.drop k)) ⟨_, rfl, ?_⟩) rep_non q3⟩
  exact ((k2.take _).append (Reps.cons r3 Reps.nil)).append (k2.drop _)
/-- sorted(e), a list of ints -/
theorem we_sortI {e : Expr} {p pos : Pos} (B : Blt Γ.M) (hg : GlN Γ "sorted") (h : We Γ e ρ O fun d O1 => ∃ ns : List Int, d = .lst (ns.map D.int) ∧ ∀ ms : List Int, ms.Perm ns → ms.Pairwise (· ≤ ·) → Q (.lst (ms.map D.int)) O1)
    (h1 : ∀ env, starEach [e] env = (false, eval e env) :: starEach [] env := by intro _; rfl) : We Γ (.Call (.Name "sorted" p) [e] [] pos) ρ O Q := fun F σ H e0 s r X hX pins st I => by
  refine (pe_callB cr_sortedI (hX.gl hg) (by rw [← hX.mg]; exact B.sorted) PyProof.Rows.boot_sorted (pa_cons (Ev.pe hX e) pa_nil (h1 X.env)) (he := h1 X.env)).run pins st σ H _ I ?_
  refine (h F σ H e0 s r).mono fun v H1 ⟨d, F1, O1, e1, s1, r1, ns, hd, q⟩ => ?_
  subst hd
  obtain ⟨a, ys, rfl, h1, h2⟩ := r1
  have := reps_int h2
  subst this
  exact ⟨a, ns, rfl, SqL.of (s1.ext _ _ h1), fun ms p k1 k2 hp => KV'.at e1 (kv_lst s1 hp Reps.ints (q ms k1 k2))⟩
end
end DL

/-! DLS: own plain classes: instances made, their fields set and read, isinstance of them. -/
namespace DL
open PySem PySem.Spec PyProof.Rows L2 DLX
theorem putF_new {f : Str} {v : V} : ∀ {ns : List Str} {vs : List V}, ns.length = vs.length → f ∉ ns → putF f v (ns.zip vs) = (ns ++ [f]).zip (vs ++ [v])
  | [], [], _, _ => rfl
  | n :: ns, w :: vs, hl, hn => by
    have h1 : ¬ n = f := fun e => hn (by rw [e]; exact List.mem_cons_self)
    have ih := putF_new (v := v) (ns := ns) (vs := vs) (by simpa using hl) (fun h => hn (List.mem_cons_of_mem _ h))
    show (if n = f then _ else (n, w) :: putF f v (ns.zip vs)) = _
    rw [if_neg h1, ih]; rfl
  | [], _ :: _, hl, _ => by cases hl
  | _ :: _, [], hl, _ => by cases hl
section
variable {Γ : G} {ρ : Env'} {O : Opens} {Z : EndsD} {Q : DK} {x f : Str} {e o : Expr} {es : List Expr} {p pos pos' : Pos} {C : Addr} {k : Nat} {ps : List Str} {sp : SpD}
/-- d.f, d an instance that stands as it is -/
theorem we_fld (h : We Γ o ρ O fun d O1 => ∃ C ns ds y, d = .obj C ns ds ∧ Cls Γ.M.K C ∧ NoAttr Γ.M.K C f ∧ (ns.zip ds).lookup f = some y ∧ Q y O1) (hb : ∀ env, attributeBase o f env (eval o env) = eval o env := by intro _; rfl) : We Γ (.Attribute o f pos) ρ O Q := fun F σ H e0 s r X hX pins st I => by
  refine (pe_fld (Ev.pe hX o) (hb X.env)).run pins st σ H _ I ((h F σ H e0 s r).mono fun v H1 ⟨d, F1, O1, e1, s1, r1, C, ns, ds, y, hd, c, n, hl, q⟩ => ?_)
  subst hd
  obtain ⟨a, dx, vs, rfl, h1, h2, h3⟩ := r1
  obtain ⟨w, g1, g2⟩ := zip_lookup hl h3
  exact ⟨a, C, dx, ns.zip vs, w, rfl, s1.ext _ _ h1, hX.K ▸ c, hX.K ▸ n, g1, kv1 e1 s1 g2 q⟩
/-- a.f, the instance open -/
theorem we_fldO (h : We Γ o ρ O fun d O1 => ∃ a C ns ds y, d = .raw (.ref a) ∧ O1 a = some (.ins C ns ds) ∧ Cls Γ.M.K C ∧ NoAttr Γ.M.K C f ∧ (ns.zip ds).lookup f = some y ∧ Q y O1) (hb : ∀ env, attributeBase o f env (eval o env) = eval o env := by intro _; rfl) : We Γ (.Attribute o f pos) ρ O Q := fun F σ H e0 s r X hX pins st I => by
  refine (pe_fld (Ev.pe hX o) (hb X.env)).run pins st σ H _ I ((h F σ H e0 s r).mono fun v H1 ⟨d, F1, O1, e1, s1, r1, a, C, ns, ds, y, hd, ho, c, n, hl, q⟩ => ?_)
  subst hd
  cases r1
  obtain ⟨_, u, hu, dx, vs, ru, h2, h3⟩ := s1.opn a _ ho
  subst ru
  obtain ⟨w, g1, g2⟩ := zip_lookup hl h3
  exact ⟨a, C, dx, ns.zip vs, w, rfl, hu, hX.K ▸ c, hX.K ▸ n, g1, kv1 e1 s1 g2 q⟩
/-- a.f = e, the instance open, f new -/
theorem ws_fld (h : We Γ e ρ O fun y O1 => We Γ o ρ O1 fun d O2 => ∃ a C ns ds, d = .raw (.ref a) ∧ O2 a = some (.ins C ns ds) ∧ Cls Γ.M.K C ∧ NoAttr Γ.M.K C f ∧ f ∉ ns ∧ ns.length < 1000 ∧ Z.nx ρ (O2.up a (.ins C (ns ++ [f]) (ds ++ [y]))))
    (hs : ∀ env, env.scope = Γ.sc → swapsWith e (some (.Attribute o f pos')) pos.line env = pure false := by intro _ _; rfl) : WS Γ (.Assign [.Attribute o f pos'] e pos) ρ O Z := fun F σ H e0 s r X hX pins st I => by
  refine (ps_fld (Ev.pe hX o) (Ev.pe hX e) (hs X.env hX.sc)).run pins st σ H _ I ((h F σ H e0 s r).mono fun v H1 ⟨y, F1, O1, e1, s1, r1, q1⟩ => (q1 F1 σ H1 (e0.trans e1) s1 (r.mono e1)).mono fun w H2 ⟨d, F2, O2, e2, s2, r2, a, C, ns, ds, hd, ho, c, n, hf, hl, q⟩ => ?_)
  subst hd
  cases r2
  obtain ⟨_, u, hu, dx, vs, ru, h2, h3⟩ := s2.opn a _ ho
  subst ru
  have hv : ns.length = vs.length := h2.trans h3.length
  refine ⟨a, C, dx, ns.zip vs, rfl, hu, hX.K ▸ c, hX.K ▸ n, by rw [List.length_zip]; omega, ?_⟩
  rw [putF_new hv hf]
  exact ks (e1.trans e2) (s2.change ho (u := .ins C (ns ++ [f]) (ds ++ [y])) ⟨dx, vs ++ [v], rfl, by rw [List.length_append, List.length_append, h2]; rfl, h3.append (Reps.cons (r1.mono e2) Reps.nil)⟩) (r.mono (e1.trans e2)) q
/-- the class x at C: an instance is made, then its __init__ runs -/
structure PCls (M : Mo) (x : Str) (C : Addr) (ps : List Str) (k : Nat) (sp : SpD) : Prop where
  g : M.mg x = some (.ref C)
  ini : ∃ (fI : Addr) (fd : FuncData), Mk M.K C fI ∧ FnOk M.P M.w M.K M.mg M.base (L2.CX M.P M.w) k fI fd ("self" :: ps) (lift M.K sp) ∧
    ∀ us : List Value, us.length = (("self" : Str) :: ps).length → bindArgs fd ⟨us, []⟩ = pure ((("self" : Str) :: ps).zip us)
theorem PCls.at {X : Cx} (hX : Γ.Has X) (hc : PCls Γ.M x C ps k sp) : PCls ⟨X.prog, X.w, X.K, X.mg, X.base⟩ x C ps k sp := hX.M ▸ hc
/-- an instance is made, what its __init__ raises goes where σ tells -/
theorem run_mkS {X : Cx} {fI : Addr} {fd : FuncData} {spv : Sp} {E : XK} {pins : List (Addr × Obj)} {σ : L2.St} {H : Hp} {s : Shared} {Qv : VK} {us : List Value} {vs : List V} (M : Mk X.K C fI) (F : FnOk X.prog X.w X.K X.mg X.base (L2.CX X.prog X.w) k fI fd ps spv) (hr : Room (k + 1) X.A) (hb : Binds X.K fd ps [])
    (hx : PassesAt (L2.CX X.prog X.w) X σ E) (I : Inv X pins σ H s) (r : Vals vs us)
    (h : ∀ x dx, H x = none → H dx = none → dx ≠ x → spv (.ref x :: vs) (upd (upd H dx (.own x)) x (.ins C dx [])) (fun v H2 => v = .non ∧ Qv (.ref x) H2) E) :
    wpAny (model X.prog X.w) X.A (call (.ref C) us) (EP X pins σ Qv) X.xe s := by
  have hq := h (s.heap.objs.size + 1) s.heap.objs.size (I.hok.fresh (Nat.le_succ _)) (I.hok.fresh (Nat.le_refl _)) (Nat.ne_of_lt (Nat.lt_succ_self _))
  have J := Inv.made (C := C) I
  have rr : Vals (V.ref (s.heap.objs.size + 1) :: vs) (Value.ref (s.heap.objs.size + 1) :: us) := .cons rfl r
  have hl : (Value.ref (s.heap.objs.size + 1) :: us).length = ps.length := rr.length.symm.trans (F.len _ _ _ _ hq)
  have bb := hb _ (Value.ref (s.heap.objs.size + 1) :: us) J.kIn (by rw [List.append_nil]; exact hl)
  rw [List.append_nil] at bb
  have run := F.run _ X.stack _ _ ⟨Value.ref (s.heap.objs.size + 1) :: us, []⟩ _ _ _ E (hr.make C us []) (J.env0.make C us []) bb rr hq
  refine wpAny_call (make_map (f := fI) I.kIn M.makes M.init (beq_iff_eq.mp M.fn) (codeAny_mono run fun r s' hq' => ?_))
  match r, hq' with
  | .error e, hq' => exact hx pins _ _ e s' J hq'
  | .ok (.ret u), hq' =>
    obtain ⟨v, H', K3, rv, ev, q3⟩ := J.after hq'
    subst ev
    exact ⟨rv, ⟨V.ref (s.heap.objs.size + 1), H', K3, rfl, q3⟩⟩
/-- C(e, ..): open -/
theorem we_mkO (hc : PCls Γ.M x C ps k sp) (hk : k + 1 ≤ Γ.k) (hg : GlN Γ x) (hh : Γ.hot = false) (h : WA Γ (e :: es) ρ O fun ds O1 => ∀ a, O1 a = none → sp (.raw (.ref a) :: ds) (O1.up a (.ins C [] [])) (fun r O2 => r = .non ∧ Q (.raw (.ref a)) O2) fun x O2 => Γ.E x ρ O2)
    (h1 : (x == ("__debug__" : Str)) = false := by decide) (h2 : ∀ env, starEach (e :: es) env = (false, eval e env) :: starEach es env := by intro _; rfl) (h3 : ∀ env, (backTo pos (starEach es env)).any (·.1) = false := by intro _; rfl) : We Γ (.Call (.Name x p) (e :: es) [] pos) ρ O Q := fun F σ H e0 s r X hX pins st I => by
  have hc' := hc.at hX
  obtain ⟨fI, fd, mk, fn, bd⟩ := hc'.ini
  refine wpAny_Call_Name_kw (ld_glob I (hX.gl hg) hc'.g ?_ h1)
  refine PySem.W.callWith_K (h₀ := X.base) I.ok.mod.kin mk.kp (thn ((EvA.pa hX _).run pos pins st σ H _ I (h F σ H e0 s r)) fun us s1' ⟨vs, H1, I1, ru, ds, F1, O1, e1, s1, r1, q⟩ => ⟨I1.kIn, ?_⟩) (h2 X.env) (h3 X.env)
  refine run_mkS (E := WE Γ.W σ) mk fn ((hX.room hh).mono hk) (.all bd) (passAt hX.takes σ) I1 ru ?_
  intro a dx ha hd hne
  have hz : (upd H1 dx (.own a)) a = none := by rw [upd_ne (Ne.symm hne)]; exact ha
  have S1 : Stt Γ.M.K F1 O1 (upd H1 dx (.own a)) := s1.grow fun b w q => by rw [upd_ne (ne_of_none q hd)]; exact q
  have S2 : Stt Γ.M.K F1 (O1.up a (.ins C [] [])) (upd (upd H1 dx (.own a)) a (.ins C dx [])) := S1.open_ hz ⟨dx, [], rfl, rfl, Reps.nil⟩
  refine ⟨.raw (.ref a) :: ds, F1, O1.up a (.ins C [] []), fun r O2 => r = .non ∧ Q (.raw (.ref a)) O2, fun x O2 => Γ.E x ρ O2, hX.K ▸ Reps.cons rep_raw r1, hX.K ▸ S2, q a (s1.closed ha), fun d v F' O' H' ee S' r' ⟨hd, q'⟩ => ?_, fun xd cls da F' O' H' ee S' rx q' => ?_⟩
  · subst hd
    cases r'
    exact ⟨rfl, .raw (.ref a), F', O', e1.trans ee, hX.K ▸ S', rep_raw, q'⟩
  · exact ⟨xd, ρ, F', O', e0.trans (e1.trans ee), hX.K ▸ S', r.mono (e1.trans ee), hX.K ▸ rx, q'⟩
/-- an open instance is shut -/
theorem we_shutI (h : We Γ e ρ O fun d O1 => ∃ a C ns ds, d = .raw (.ref a) ∧ O1 a = some (.ins C ns ds) ∧ Q (.obj C ns ds) (O1.drop a)) : We Γ e ρ O Q := fun F σ H e0 s r => (h F σ H e0 s r).mono fun v H1 ⟨d, F1, O1, e1, s1, r1, a, C, ns, ds, hd, ho, q⟩ => by
  subst hd
  cases r1
  obtain ⟨h1, u, h2, dx, vs, ru, h3, h4⟩ := s1.opn a _ ho
  subst ru
  exact ⟨.obj C ns ds, F1.add a (.ins C dx (ns.zip vs)), O1.drop a, e1.trans (ext_add h1), s1.shut ho h2, ⟨a, dx, vs, rfl, upd_same, h3, h4.mono (ext_add h1)⟩, q⟩
/-! ### isinstance of an own class -/
/-- an own class: what isinstance asks of it -/
structure IsC (K : PySem.W.Frag) (C : Addr) : Prop where
  is : (PySem.W.clsIn K C).isSome = true
  ty : PySem.W.typeIn K (.ref C) = some (.type "type")
theorem kit_low {K : PySem.W.Frag} {C : Addr} (c : IsC K C) (a : Ty) : PySem.W.kitOne K (.type a.name) (.ref C) = some false := by
  unfold PySem.W.kitOne
  rw [show (Value.type a.name == Value.ref C) = false from beq_false_of_ne (fun e => by cases e), if_neg (by decide)]
  show (if ((PySem.W.clsIn K C).isSome && PySem.W.typeIn K (.ref C) == some (.type "type")) = true then PySem.W.subIn K (.type a.name) (.ref C) else none) = _
  rw [c.is, c.ty, if_pos (by decide +kernel)]
  show (fastBuiltinMro a.name).map (·.contains (Value.ref C)) = some false
  have key : ∀ l : List Value, (l.all fun v => match v with | .type _ => true | _ => false) = true → l.contains (Value.ref C) = false := fun l h => by
    rw [Bool.eq_false_iff]
    intro z
    have m : Value.ref C ∈ l := by simpa using z
    have := List.all_eq_true.mp h _ m
    cases this
  have mro : ∃ l, fastBuiltinMro a.name = some l ∧ (l.all fun v => match v with | .type _ => true | _ => false) = true := by
    cases a
    · exact ⟨[.type "NoneType", .type "object"], by decide +kernel, by decide +kernel⟩
    · exact ⟨[.type "bool", .type "int", .type "object"], by decide +kernel, by decide +kernel⟩
    · exact ⟨[.type "int", .type "object"], by decide +kernel, by decide +kernel⟩
    · exact ⟨[.type "str", .type "object"], by decide +kernel, by decide +kernel⟩
    · exact ⟨[.type "tuple", .type "object"], by decide +kernel, by decide +kernel⟩
    · exact ⟨[.type "list", .type "object"], by decide +kernel, by decide +kernel⟩
    · exact ⟨[.type "dict", .type "object"], by decide +kernel, by decide +kernel⟩
  obtain ⟨l, e, hl⟩ := mro
  rw [e]
  exact congrArg some (key l hl)
/-- a class whose instances are asked -/
structure InsC (K : PySem.W.Frag) (C : Addr) : Prop where
  cl : Cls K C
  ha : PySem.W.findIn K (.ref C) "__class__" = some (some (.builtin "object.__class__"))
  hn : PySem.W.specialIn K (.builtin "object.__class__") "__get__" = some (some (.builtin "getset_descriptor.__get__"))
  ht : PySem.W.takesIn K (.builtin "object.__class__") = some true
  hm : PySem.W.mroIn K C (.type "object") = some true
/-- isinstance(d, C), d of a built-in type or an instance -/
def IscQ (K : PySem.W.Frag) : DC := fun ds O Q => match ds with
  | [d, .raw (.ref C)] => IsC K C ∧ ((∃ a, tyD O d = some a ∧ Q (.bl false) O) ∨ (∃ C' ns es b, d = .obj C' ns es ∧ InsC K C' ∧ PySem.W.kitOne K (.ref C') (.ref C) = some b ∧ Q (.bl b) O))
  | _ => False
theorem isc_ok {X : Cx} (hX : Γ.Has X) : CallD Γ X (.builtin "isinstance") (IscQ Γ.M.K) := by
  intro F O ds Q pins s σ H vs us I rv e0 S rd h
  have hK := hX.K
  unfold IscQ at h
  split at h
  · obtain ⟨v, w, rfl, r1, r2⟩ := reps2 rd
    cases r2
    obtain ⟨c, ⟨a, h1, q⟩ | ⟨C', ns, es, b, rfl, ⟨k1, k2, k3, k4, k5⟩, hb, q⟩⟩ := h
    · exact call_isi pins s σ H _ _ _ I rv ⟨v, _, _, _, _, rfl, .own _, ty_ok hX S r1 h1, kit_low (hK ▸ c) a, kv S rep_bl q⟩
    · obtain ⟨p, dx, ws, rfl, g1, g2, g3⟩ := r1
      exact call_isi pins s σ H _ _ _ I rv ⟨_, _, _, _, _, rfl, .own _, .base (.ins (S.ext _ _ g1) (hK ▸ k1) (hK ▸ k2) (hK ▸ k3) (hK ▸ k4) (hK ▸ k5)), hK ▸ hb, kv S rep_bl q⟩
  · exact h.elim
theorem we_isc {a : Expr} (B : Blt Γ.M) (hg : GlN Γ "isinstance") (h : We Γ e ρ O fun d O1 => We Γ a ρ O1 fun c O2 => IscQ Γ.M.K [d, c] O2 Q)
    (h1 : ∀ env, starEach [e, a] env = (false, eval e env) :: starEach [a] env := by intro _; rfl) (h2 : ∀ env, starEach [a] env = (false, eval a env) :: starEach [] env := by intro _; rfl) (hpl : ∀ env, (backTo pos (starEach [a] env)).any (·.1) = false := by intro _; rfl) : We Γ (.Call (.Name "isinstance" p) [e, a] [] pos) ρ O Q :=
  we_blt (fun X hX => isc_ok hX) hg B.isinstance PyProof.Rows.boot_isinstance (wa_cons (h.imp fun _ _ q => wa_cons (q.imp fun _ _ q => wa_nil q) h2) h1) (he := h1) (hpl := hpl)
end
end DL

/-! DLT: tuples of ints compared; dicts read; the keys of a dict walked; sorted of pairs. -/
namespace DL
open PySem PySem.Spec PyProof.Rows L2
section
variable {Γ : G} {ρ : Env'} {O : Opens} {Q : DK}
/-- t < u, tuples of ints -/
theorem we_ltT {a b : Expr} {pos : Pos} (h : We Γ a ρ O fun x O1 => We Γ b ρ O1 fun y O2 => ∃ ns ms : List Int, x = .tup (ns.map D.int) ∧ y = .tup (ms.map D.int) ∧ Q (.bl (HT.lexLt ns ms)) O2) (hm : behindInMarks .Lt b = false := by first | exact rfl | rfl) : We Γ (.Compare a [.Lt] [b] pos) ρ O Q := fun F σ H e0 s r X hX pins st I => by
  have hu : X.A.units < cLine := by have := hX.units; omega
  refine (pe_cmpR (op_ltT hu) (Ev.pe hX a) (Ev.pe hX b) hm).run pins st σ H _ I ((h F σ H e0 s r).mono fun v H1 ⟨d, F1, O1, e1, s1, r1, q1⟩ => (q1 F1 σ H1 (e0.trans e1) s1 (r.mono e1)).mono fun w H2 ⟨d2, F2, O2, e2, s2, r2, ns, ms, h1, h2, q⟩ => ?_)
  subst h1 h2
  obtain ⟨p, ys, rfl, g1, g2⟩ := r1.mono e2
  obtain ⟨p2, zs, rfl, g3, g4⟩ := r2
  have k1 := reps_int g2
  have k2 := reps_int g4
  subst k1 k2
  exact ⟨p, p2, ns, ms, rfl, rfl, s2.ext.seqT (hX.K ▸ g1), s2.ext.seqT (hX.K ▸ g3), kv1 (e1.trans e2) s2 rep_bl q⟩
def lookD (ks : List Key) (ds : List D) (k : Key) : Option D := ((ks.zip ds).find? fun kv => decide (kv.1 = k)).map (·.2)
theorem val_find {K : PySem.W.Frag} {F : Fr} {k : Key} {d : D} : ∀ {ks : List Key} {vs : List V} {ds : List D}, ks.length = ds.length → Reps K F ds vs → lookD ks ds k = some d → ∃ v, valV (ks.zip vs) k = some v ∧ Rep K F d v
  | [], _, _, _, _, h => by cases h
  | m :: ks, _, [], hl, _, _ => by cases hl
  | m :: ks, vs, x :: ds, hl, r, h => by
    obtain ⟨v, t, rfl, h1, h2⟩ := r
    unfold lookD at h
    unfold valV
    rw [List.zip_cons_cons, List.find?_cons] at h ⊢
    by_cases e : m = k
    · have e2 : decide (m = k) = true := decide_eq_true e
      simp only [e2] at h ⊢
      cases h
      exact ⟨v, rfl, h1⟩
    · have e2 : decide (m = k) = false := decide_eq_false e
      simp only [e2] at h ⊢
      exact val_find (by simpa using hl) h2 h
/-- an open dict's value -/
theorem we_dget {o i : Expr} {pos : Pos} (h : We Γ o ρ O fun y O1 => We Γ i ρ O1 fun k O2 => ∃ q ks ds z d, y = .raw (.ref q) ∧ k = .str z ∧ O2 q = some (.dic ks ds) ∧ lookD ks ds (.inr z) = some d ∧ Q d O2) (hs : NoSl i := by first | trivial | exact trivial | decide) : We Γ (.Subscript o i pos) ρ O Q := fun F σ H e0 s r X hX pins st I => by
  have hu : X.A.units + 1 < cLine := by have := hX.units; omega
  refine (pe_dget hu (Ev.pe hX o) (Ev.pe hX i) hs).run pins st σ H _ I ((h F σ H e0 s r).mono fun v H1 ⟨d, F1, O1, e1, s1, r1, q1⟩ => (q1 F1 σ H1 (e0.trans e1) s1 (r.mono e1)).mono fun w H2 ⟨d2, F2, O2, e2, s2, r2, q, ks, ds, z, y, h1, h2, ho, hf, qq⟩ => ?_)
  subst h1 h2
  cases r1
  cases r2
  obtain ⟨vs, g1, g2, g3⟩ := s2.dict ho
  obtain ⟨yv, k1, k2⟩ := val_find g2 g3 hf
  exact ⟨q, yv, rfl, by rw [← k1]; exact DGet.k (k := .inr z) g1, kv1 (e1.trans e2) s2 k2 qq⟩
end
end DL

/-! DLU: min of a list of tuples of ints. -/
namespace DL
open PySem PySem.Spec PyProof.Rows L2
section
variable {prog : Program} {w : World} {A : Around} {R : Result → Shared → Prop} {I S : Addr} {fp wr : List Addr} {n : Nat} {P : Nat → Value → Prop} {St : Nat → Heap → Prop} {bt : Nat → Nat → Bool} {G : Heap → Prop}
/-- v < u is told where G holds of the heap -/
def LtG (prog : Program) (w : World) (A : Around) (G : Heap → Prop) (P : Nat → Value → Prop) (bt : Nat → Nat → Bool) : Prop :=
  ∀ (s : Shared) (Q E : Value → Shared → Prop) i j u v, G s.heap → P i u → P j v → Q (.bool (bt i j)) s → wpAny (model prog w) A (richCompare .Lt u v) Q E s
theorem minL_name : (toString "min" ++ toString ".loop" : String) = "min.loop" := by decide
/-- the loop of min, behind its j-th item -/
theorem minG_loop (W : Walks prog w A.in1 I fp wr n P St) (lt : LtG prog w A.in1 G P bt) (hSf : S ∉ fp) (hG : ∀ h h', G h → (∀ b o, b ∉ wr → b ≠ S → h.get? b = some o → h'.get? b = some o) → G h') :
    ∀ (k j : Nat) (s : Shared) (u : Value) (c : Nat), j + 1 + k = n → G s.heap → St (j + 1) s.heap → P (argBest bt j) u → s.heap.get? S = some { cls := .type "list", dict := none, data := .seq #[u, u] c, slots := #[] } →
    (∀ v h' tk, P (argBest bt (n - 1)) v → (∀ b o, b ∉ wr → b ≠ S → s.heap.get? b = some o → h'.get? b = some o) → R (.ok (.ret v)) { s with heap := h', toks := tk }) → codeAny (model prog w) A (.builtin "min.loop" ⟨[.ref I, .none, .ref S], []⟩) R s
  | 0, j, s, u, c, hk, g, st, p, hS, r => by
    have hSw : S ∉ wr := fun z => hSf (W.sub _ z)
    refine codeAny_builtin F.entry_min_loop ((Around.under_plainId F.plain_min_loop _).symm ▸ (show wpAny _ A.in1 (seqItems? (.ref S) >>= _) _ _ s from ?_))
    refine wpAny_bind (wpAny_seqItems hS rfl (show wpAny _ A.in1 (tryCatch (pyNext (.ref I)) _ >>= _) _ _ s from wpAny_bind (wpAny_tryCatch ?_)))
    have en : j + 1 = n := by omega
    refine W.done s _ _ (en ▸ st) fun h1 tk k1 => (show wpAny _ A.in1 (updateSeq S (fun _ => #[]) >>= _) _ _ _ from wpAny_bind (wpAny_updateSeq (k1 S _ hSw hS) rfl (wpAny_bind (wpAny_letGo (wpAny_pure ?_)))))
    refine r u _ tk (by rw [← en]; exact p) fun b o n1 n2 e => ?_
    exact (Heap.get?_update_other _ _ fun z => n2 z.symm).trans (k1 b o n1 e)
  | k + 1, j, s, u, c, hk, g, st, p, hS, r => by
    have hSw : S ∉ wr := fun z => hSf (W.sub _ z)
    refine codeAny_builtin F.entry_min_loop ((Around.under_plainId F.plain_min_loop _).symm ▸ (show wpAny _ A.in1 (seqItems? (.ref S) >>= _) _ _ s from ?_))
    refine wpAny_bind (wpAny_seqItems hS rfl (show wpAny _ A.in1 (tryCatch (pyNext (.ref I)) _ >>= _) _ _ s from wpAny_bind (wpAny_tryCatch ?_)))
    refine W.item (j + 1) s _ _ (by omega) st fun v h1 tk p1 st1 k1 => ?_
    have hS1 := k1 S _ hSw hS
    have g1 : G h1 := hG _ _ g fun b o n1 _ e => k1 b o n1 e
    refine (show wpAny _ A.in1 (tryCatch (holding [v, v] (richCompare .Lt v u >>= _)) _ >>= _) _ _ _ from wpAny_bind (wpAny_tryCatch (wpAny_holding (wpAny_bind (lt _ _ _ (j + 1) (argBest bt j) v u g1 p1 p ?_)))))
    refine wpAny_bind (wpAny_holding (wpAny_truthy_bool (wpAny_bind (wpAny_letGo (wpAny_pure ?_)))))
    by_cases hb : bt (j + 1) (argBest bt j) = true
    · rw [hb]
      simp only [if_true]
      refine wpAny_bind (wpAny_updateSeq hS1 rfl (wpAny_bind (wpAny_letGo ?_)))
      rw [minL_name]
      refine wpAny_pure ⟨plainId_quiet F.plain_min_loop _, minG_loop W lt hSf hG k (j + 1) _ v _ (by omega) (hG _ _ g1 fun b o _ n2 e => (Heap.get?_update_other _ _ fun z => n2 z.symm).trans e) (W.frame _ _ _ st1 fun b hf o e => (Heap.get?_update_other _ _ fun z => hSf (by rw [z]; exact hf)).trans e) (by unfold argBest; rw [if_pos hb]; exact p1) (Heap.get?_update_self _ hS1 rfl) fun v2 h2 tk2 p2 kk => r v2 h2 tk2 p2 fun b o n1 n2 e => kk b o n1 n2 ?_⟩
      exact (Heap.get?_update_other _ _ fun z => n2 z.symm).trans (k1 b o n1 e)
    · have hb : bt (j + 1) (argBest bt j) = false := by simpa using hb
      rw [hb]
      simp only [Bool.false_eq_true, if_false]
      refine wpAny_bind (wpAny_letGo ?_)
      rw [minL_name]
      exact wpAny_pure ⟨plainId_quiet F.plain_min_loop _, minG_loop W lt hSf hG k (j + 1) _ u c (by omega) g1 st1 (by unfold argBest; rw [hb, if_neg Bool.false_ne_true]; exact p) hS1 fun v2 h2 tk2 p2 kk => r v2 h2 tk2 p2 fun b o n1 n2 e => kk b o n1 n2 (k1 b o n1 e)⟩
/-- min(x), x walked -/
theorem minG_call {E : Value → Shared → Prop} {s : Shared} {x : Value} {Q : Value → Shared → Prop}
    (h : wpAny (model prog w) A.in1 (pyIter x) (fun it s2 => ∃ I fp wr n P St bt G, it = .ref I ∧ Walks prog w A.in1 I fp wr n P St ∧ St 0 s2.heap ∧ (∀ b ∈ fp, b < s2.heap.objs.size) ∧ 0 < n ∧ LtG prog w A.in1 G P bt ∧ G s2.heap ∧ (∀ h h', G h → (∀ b o, b ∉ wr → b ≠ s2.heap.objs.size → h.get? b = some o → h'.get? b = some o) → G h') ∧
      ∀ v h' tk, P (argBest bt (n - 1)) v → (∀ b o, b ∉ wr → s2.heap.get? b = some o → h'.get? b = some o) → Q v { s2 with heap := h', toks := tk }) E s) : wpAny (model prog w) A (call (.builtin "min") [x]) Q E s := by
  refine call_function_tree F.kind_min F.plain_min F.entry_min (F.args_min1 _) (show wpAny _ A.in1 (Builtin.Builtins.bindParams "min" ["key", "default"] 0 ⟨[], []⟩ >>= _) _ _ s from ?_)
  refine wpAny_bind (wpAny_of_eq (show Builtin.Builtins.bindParams "min" ["key", "default"] 0 ⟨[], []⟩ = pure [none, none] from rfl) (wpAny_bind (wpAny_pure (wpAny_bind (wpAny_mono h (fun it s2 h2 => ?_) fun _ _ e => e)))))
  obtain ⟨I, fp, wr, n, P, St, bt, G, rfl, W, st, hfp, hn, lt, g, hG, q⟩ := h2
  refine wpAny_bind (wpAny_newObj_type ?_)
  rw [minL_name]
  have hSf : s2.heap.objs.size ∉ fp := fun m => absurd (hfp _ m) (Nat.lt_irrefl _)
  have hSw : s2.heap.objs.size ∉ wr := fun z => hSf (W.sub _ z)
  refine wpAny_pure ⟨plainId_quiet F.plain_min_loop _, codeAny_builtin F.entry_min_loop ((Around.under_plainId F.plain_min_loop _).symm ▸ (show wpAny _ A.in1 (seqItems? (.ref s2.heap.objs.size) >>= _) _ _ _ from ?_))⟩
  refine wpAny_bind (wpAny_seqItems (Heap.get?_push_size _ rfl) rfl (show wpAny _ A.in1 (tryCatch (pyNext (.ref I)) _ >>= _) _ _ _ from wpAny_bind (wpAny_tryCatch ?_)))
  refine W.item 0 _ _ _ hn (W.frame _ _ _ st fun b _ o e => Heap.get?_push_of_some _ e) fun v h1 tk p1 st1 k1 => ?_
  have hS1 := k1 _ _ hSw (Heap.get?_push_size _ rfl)
  have old : ∀ b o, b ∉ wr → s2.heap.get? b = some o → h1.get? b = some o := fun b o n1 e => k1 b o n1 (Heap.get?_push_of_some _ e)
  refine (show wpAny _ A.in1 (updateSeq s2.heap.objs.size (fun _ => #[v, v]) >>= _) _ _ _ from wpAny_bind (wpAny_updateSeq hS1 rfl ?_))
  rw [minL_name]
  refine wpAny_pure ⟨plainId_quiet F.plain_min_loop _, minG_loop W lt hSf hG (n - 1) 0 _ v _ (by omega) (hG _ _ g fun b o n1 n2 e => (Heap.get?_update_other _ _ fun z => n2 z.symm).trans (old b o n1 e)) (W.frame _ _ _ st1 fun b hf o e => (Heap.get?_update_other _ _ fun z => hSf (by rw [z]; exact hf)).trans e) p1 (Heap.get?_update_self _ hS1 rfl) fun v2 h2 tk2 p2 kk => q v2 h2 tk2 p2 fun b o n1 e => ?_⟩
  have ne : b ≠ s2.heap.objs.size := Nat.ne_of_lt (Heap.lt_size e)
  exact kk b o n1 ne ((Heap.get?_update_other _ _ fun z => ne z.symm).trans (old b o n1 e))
end
/-! ### the least of tuples of ints -/
theorem lex_irr : ∀ xs : List Int, HT.lexLt xs xs = false
  | [] => rfl
  | x :: xs => by rw [HT.lexLt_cons, if_pos rfl]; exact lex_irr xs
theorem argBest_lex (f : Nat → List Int) : ∀ k, argBest (fun i j => HT.lexLt (f i) (f j)) k ≤ k ∧ ∀ j, j ≤ k → HT.lexLt (f j) (f (argBest (fun i j => HT.lexLt (f i) (f j)) k)) = false
  | 0 => ⟨Nat.le_refl _, fun j hj => by
    have : j = 0 := by omega
    subst this
    exact lex_irr _⟩
  | k + 1 => by
    obtain ⟨h1, h2⟩ := argBest_lex f k
    unfold argBest
    by_cases hb : HT.lexLt (f (k + 1)) (f (argBest (fun i j => HT.lexLt (f i) (f j)) k)) = true
    · rw [if_pos hb]
      refine ⟨Nat.le_refl _, fun j hj => ?_⟩
      by_cases hk : j = k + 1
      · subst hk; exact lex_irr _
      · exact NtL.lex_tr _ _ _ (NtL.lex_asym _ _ hb) (h2 j (by omega))
    · rw [if_neg hb]
      refine ⟨by omega, fun j hj => ?_⟩
      by_cases hk : j = k + 1
      · subst hk; simpa using hb
      · exact h2 j (by omega)
def rMinT (K : PySem.W.Frag) : List V → Hp → VK → Prop := fun vs H Q => ∃ (a : Addr) (xs : List V) (f : Nat → List Int), vs = [V.ref a] ∧ SqL K H a xs ∧ (∀ i, i < xs.length → ∃ t, xs[i]? = some (.ref t) ∧ SqT K H t ((f i).map V.int)) ∧ 0 < xs.length ∧ ∀ i v, xs[i]? = some v → (∀ j, j < xs.length → HT.lexLt (f j) (f i) = false) → Q v H
theorem cr_minT {X : Cx} (hc : X.calm = true) (hu : X.A.units + 1 < cLine) : CallR X (.builtin "min") (rMinT X.K) := by
  intro pins s σ H vs us Q I r h
  obtain ⟨a, xs, f, rfl, hs, hx, hn, q⟩ := h
  obtain ⟨its, rv, hl, _⟩ := I.list hs
  rw [Vals.ref1 r]
  have hlen : xs.length = its.length := rv.length
  have la := hl.lt
  refine minG_call (wpAny_pyIter_list hl.isList ?_)
  refine ⟨s.heap.objs.size, [s.heap.objs.size, a], [s.heap.objs.size], its.toArray.size, _, _, fun i j => HT.lexLt (f i) (f j), fun h' => ∀ b o, s.heap.get? b = some o → h'.get? b = some o, rfl, Walks.list (A := X.A.in1) (I.ok.hd hc) _ a (Nat.ne_of_lt la) its.toArray, (show _ ∧ _ from ⟨⟨_, Heap.get?_push_size _ rfl, rfl, rfl⟩, hl.isList.push _⟩), fun b hb => ?_, by rw [List.size_toArray, ← hlen]; exact hn, ?_, fun b o e => Heap.get?_push_of_some _ e, fun h1 h2 g k b o e => ?_, fun v h' tk hv k => ?_⟩
  · show b < (s.heap.push _).objs.size
    rw [Heap.size_push]
    rcases List.mem_cons.mp hb with rfl | hb
    · exact Nat.lt_succ_self _
    · rw [List.mem_singleton.mp hb]; exact Nat.lt_succ_of_lt la
  · intro s' Q' E' i j u v g hi hj hQ
    have hi : its[i]? = some u := by simpa using hi
    have hj : its[j]? = some v := by simpa using hj
    have li := (List.getElem?_eq_some_iff.mp hi).1
    have lj := (List.getElem?_eq_some_iff.mp hj).1
    obtain ⟨t1, x1, y1⟩ := hx i (by omega)
    obtain ⟨t2, x2, y2⟩ := hx j (by omega)
    obtain ⟨u1, z1, w1⟩ := rv.get x1
    obtain ⟨u2, z2, w2⟩ := rv.get x2
    rw [hi] at z1; cases z1
    rw [hj] at z2; cases z2
    cases w1; cases w2
    obtain ⟨ia, r1, p1, _⟩ := I.tuple y1
    obtain ⟨ib, r2, p2, _⟩ := I.tuple y2
    exact HT.lt_tupInts (A := X.A.in1) (p1.keeps g) (p2.keeps g) (intsAre_of r1) (intsAre_of r2) hu hQ
  · refine k b o (fun m => ?_) (fun z => ?_) (g b o e)
    · have h1 := Heap.lt_size e
      rw [List.mem_singleton.mp m] at h1
      exact Nat.lt_irrefl _ h1
    · have h1 := Heap.lt_size e
      have z2 : b = (s.heap.push _).objs.size := z
      rw [Heap.size_push] at z2
      exact Nat.lt_irrefl _ (Nat.lt_of_le_of_lt (Nat.le_succ _) (z2 ▸ h1))
  · have hv : its[argBest (fun i j => HT.lexLt (f i) (f j)) (its.toArray.size - 1)]? = some v := by simpa using hv
    obtain ⟨g1, g2⟩ := argBest_lex f (its.toArray.size - 1)
    rw [List.size_toArray, ← hlen] at g1 g2 hv
    have lt : argBest (fun i j => HT.lexLt (f i) (f j)) (xs.length - 1) < xs.length := by omega
    obtain ⟨u, z, w⟩ := rv.get (List.getElem?_eq_getElem lt)
    rw [hv] at z; cases z
    exact ⟨_, H, I.kept fun b o e => k b o (fun m => by have h1 := Heap.lt_size e; rw [List.mem_singleton.mp m] at h1; exact Nat.lt_irrefl _ h1) (Heap.get?_push_of_some _ e), w, q _ _ (List.getElem?_eq_getElem lt) fun j hj => g2 j (by omega)⟩
end DL

/-! DLV: comprehensions with two fors; min of a list of tuples of ints. -/
namespace DL
open PySem PySem.Spec PyProof.Rows L2
section
variable {Γ : G} {ρ : Env'} {O : Opens} {Q : DK} {σ : L2.St} {H : Hp} {F : Fr} {scope : Scope} {tg elt tg1 iter iter1 : Expr} {ifs ifs1 : List Expr}
theorem wipe_wipe (vs : List Nat) (τ : L2.St) : wipe (wipe τ vs) vs = wipe τ vs := by
  have gen : ∀ (us : List Nat), (∀ j ∈ us, j ∈ vs) → ∀ τ : L2.St, wipe (wipe τ us) vs = wipe τ vs := by
    intro us
    induction us with
    | nil => intro _ τ; rfl
    | cons a us ih =>
      intro hm τ
      show wipe ((wipe τ us).set a none) vs = wipe τ vs
      rw [wipe_set _ _ (hm a List.mem_cons_self)]
      exact ih (fun j hj => hm j (List.mem_cons_of_mem _ hj)) τ
  exact gen vs (fun j hj => hj) τ
/-- one turn of the block, by its wish alone -/
theorem lc_turnG {own : List Nat} {n : Nat} {it : Nat → Option D} {W : Nat → List D → Opens → Prop} {P : Addr} {i : Nat} {x : D} {v : V} {F1 F2 : Fr} {O2 : Opens} {acc : List D} {vs : List V} {H2 : Hp} {ρ0 : Env'}
    (T : ∀ (F0 : Fr) i x acc O', i < n → it i = some x → W i acc O' → WGo (blkG Γ scope F0) own tg x (wipeD ρ0 own) O' fun ρ2 O2 => WI (blkG Γ scope F0) ifs ρ2 O2 fun b O3 => if b = true then We (blkG Γ scope F0) elt ρ2 O3 fun y O4 => acc.length < sizeLine ∧ W (i + 1) (acc ++ [y]) O4 else W (i + 1) acc O3) (hi : i < n) (hx : it i = some x) (r : EnvR Γ.M.K F1 ρ0 σ) (e2 : Ext F1 F2) (s2 : Stt Γ.M.K ⟨F2.z, upd F1.r P (.lst vs)⟩ O2 H2) (ra : Reps Γ.M.K F2 acc vs) (w2 : W i acc O2) (rv : Rep Γ.M.K F2 x v) :
    BG Γ scope tg v (wipe σ own) H2 fun σ3 H3 => wipe σ3 own = wipe σ own ∧ BI Γ scope ifs σ3 H3 fun b H4 =>
      if b = true then BE Γ scope elt σ3 H4 fun y H5 => ∃ ac, H5 P = some (.lst ac) ∧ ac.length < sizeLine ∧ LcS Γ.M.K F1 P (W (i + 1)) (upd H5 P (.lst (ac ++ [y]))) else LcS Γ.M.K F1 P (W (i + 1)) H4 := by
  refine ⟨⟨F2.z, upd F1.r P (.lst vs)⟩, ?_⟩
  have hr : EnvR Γ.M.K ⟨F2.z, upd F1.r P (.lst vs)⟩ (wipeD ρ0 own) (wipe σ own) := env_z (F := F2) rfl (wipe_env (r.mono e2) _)
  refine (T ⟨F2.z, upd F1.r P (.lst vs)⟩ i x acc O2 hi hx w2 ⟨F2.z, upd F1.r P (.lst vs)⟩ _ H2 v (Ext.refl _) s2 hr (rep_z (F := F2) rfl rv)).mono fun σ3 H3 ⟨wq, ρ3, F3, O3, e3, s3, r3, q3⟩ => ⟨wq.trans (wipe_wipe _ _), ⟨F2.z, upd F1.r P (.lst vs)⟩, ?_⟩
  refine (q3.run e3 s3 r3).mono fun b H4 ⟨F4, O4, e4, s4, q4⟩ => ?_
  have e34 := e3.trans e4
  have fin : ∀ {F5 : Fr} {O5 : Opens} {H5 : Hp} {ac : List D} {us : List V}, Ext ⟨F2.z, upd F1.r P (.lst vs)⟩ F5 → Stt Γ.M.K ⟨F5.z, upd F1.r P (.lst us)⟩ O5 H5 → Reps Γ.M.K F5 ac us → W (i + 1) ac O5 → LcS Γ.M.K F1 P (W (i + 1)) H5 := fun {F5 O5 H5 ac us} e5 s5 r5 q5 =>
    ⟨⟨F5.z, F1.r⟩, O5, ac, us, ⟨fun a o q => e5.1 a o (e2.1 a o q), rfl⟩, s5, reps_z (F := F5) rfl r5, q5⟩
  cases b with
  | true =>
    have q4 := (show We (blkG Γ scope ⟨F2.z, upd F1.r P (.lst vs)⟩) elt ρ3 O4 _ by simpa using q4) F4 σ3 H4 e34 s4 (r3.mono e4)
    show BE Γ scope elt σ3 H4 _
    refine ⟨⟨F2.z, upd F1.r P (.lst vs)⟩, q4.mono fun y H5 ⟨d, F5, O5, e5, s5, r5, hz, q5⟩ => ?_⟩
    have e := e34.trans e5
    have hr5 : F5.r = upd F1.r P (.lst vs) := e.2
    have s5' : Stt Γ.M.K ⟨F5.z, upd F1.r P (.lst vs)⟩ O5 H5 := by
      have : (⟨F5.z, upd F1.r P (.lst vs)⟩ : Fr) = F5 := by rw [← hr5]
      rw [this]; exact s5
    have rv5 : Reps Γ.M.K F5 acc vs := Reps.mono e _ _ (reps_z (F := F2) rfl ra)
    obtain ⟨g1, g2, g3⟩ := s5'.rst P _ upd_same
    exact ⟨vs, g3, by rw [← rv5.length]; exact hz, fin e s5'.app (rv5.append (Reps.cons r5 Reps.nil)) q5⟩
  | false =>
    have q4 : W (i + 1) acc O4 := by simpa using q4
    have hr4 : F4.r = upd F1.r P (.lst vs) := e34.2
    have s4' : Stt Γ.M.K ⟨F4.z, upd F1.r P (.lst vs)⟩ O4 H4 := by
      have : (⟨F4.z, upd F1.r P (.lst vs)⟩ : Fr) = F4 := by rw [← hr4]
      rw [this]; exact s4
    exact fin e34 s4' (Reps.mono e34 _ _ (reps_z (F := F2) rfl ra)) q4
def EvP (Γ : G) (tg iter : Expr) : TI := fun σ H Rv => ∀ X, Γ.Has X → ∃ wi : TI, PI X tg iter wi ∧ wi σ H Rv
def BW (Γ : G) (scope : Scope) (tg iter : Expr) : TI := fun σ H Rv => ∃ F0, EvP (blkG Γ scope F0) tg iter σ H Rv
theorem bw_pi {X : Cx} (hX : Γ.Has X) {s : Shared} {H : Hp} {C : Addr} {cl : List (Str × Addr)} {fp : List Addr} (tg iter : Expr) : PI (X.blk s H scope (compEnvC scope cl C X.env) fp) tg iter (BW Γ scope tg iter) :=
  ⟨fun pins s σ H R I ⟨F0, q⟩ => by
    obtain ⟨wi, h1, h2⟩ := q _ (blkG_has hX)
    exact h1.run pins s σ H R I h2⟩
/-- the inner for of a turn: from acc on, till E -/
def In2 (Γ : G) (scope : Scope) (own1 : List Nat) (tg1 iter1 : Expr) (ifs1 : List Expr) (elt : Expr) (F0 : Fr) (ρ2 : Env') (O : Opens) (acc : List D) (E : List D → Opens → Prop) : Prop :=
  PiD (blkG Γ scope F0) tg1 iter1 ρ2 O fun n it O1 => ∃ W1 : Nat → List D → Opens → Prop, W1 0 acc O1 ∧ (∀ (F1 : Fr) j y a O5, j < n → it j = some y → W1 j a O5 → WGo (blkG Γ scope F1) own1 tg1 y (wipeD ρ2 own1) O5 fun ρ3 O6 => WI (blkG Γ scope F1) ifs1 ρ3 O6 fun b O7 => if b = true then We (blkG Γ scope F1) elt ρ3 O7 fun z O8 => a.length < sizeLine ∧ W1 (j + 1) (a ++ [z]) O8 else W1 (j + 1) a O7) ∧ ∀ a O5, W1 n a O5 → E a O5
structure Lc2Q (Γ : G) (scope : Scope) (own own1 : List Nat) (tg : Expr) (ifs : List Expr) (tg1 iter1 : Expr) (ifs1 : List Expr) (elt : Expr) (n : Nat) (it : Nat → Option D) (ρ : Env') (O : Opens) (Q : List D → Opens → Prop) (W : Nat → List D → Opens → Prop) : Prop where
  start : W 0 [] O
  turn : ∀ (F0 : Fr) i x acc O', i < n → it i = some x → W i acc O' → WGo (blkG Γ scope F0) own tg x (wipeD ρ own) O' fun ρ2 O2 =>
    WI (blkG Γ scope F0) ifs ρ2 O2 fun b O3 => if b = true then In2 Γ scope own1 tg1 iter1 ifs1 elt F0 ρ2 O3 acc (W (i + 1)) else W (i + 1) acc O3
  stop : ∀ acc O', W n acc O' → Q acc O'
theorem LcS.sub {K : PySem.W.Frag} {F F1 : Fr} {P : Addr} {W W' : List D → Opens → Prop} {H : Hp} (h : LcS K ⟨F1.z, F.r⟩ P W H) (e : Ext F ⟨F1.z, F.r⟩) (m : ∀ a O', W a O' → W' a O') : LcS K F P W' H := by
  obtain ⟨F', O', acc, vs, e2, s, r, w⟩ := h
  exact ⟨F', O', acc, vs, ⟨fun a o q => e2.1 a o (e.1 a o q), e2.2⟩, s, r, m _ _ w⟩
theorem lc2_turn {own own1 : List Nat} {n : Nat} {it : Nat → Option D} {Ql : List D → Opens → Prop} {W : Nat → List D → Opens → Prop} {P : Addr} {i : Nat} {x : D} {v : V} {F1 F2 : Fr} {O2 O0 : Opens} {acc : List D} {vs : List V} {H2 : Hp} {ρ0 : Env'}
    (T : Lc2Q Γ scope own own1 tg ifs tg1 iter1 ifs1 elt n it ρ0 O0 Ql W) (hi : i < n) (hx : it i = some x) (r : EnvR Γ.M.K F1 ρ0 σ) (e2 : Ext F1 F2) (s2 : Stt Γ.M.K ⟨F2.z, upd F1.r P (.lst vs)⟩ O2 H2) (ra : Reps Γ.M.K F2 acc vs) (w2 : W i acc O2) (rv : Rep Γ.M.K F2 x v) :
    BG Γ scope tg v (wipe σ own) H2 fun σ3 H3 => wipe σ3 own = wipe σ own ∧ BI Γ scope ifs σ3 H3 fun b H4 =>
      if b = true then BW Γ scope tg1 iter1 σ3 H4 fun J1 H5 => ∃ W1 : Nat → Nat → Hp → Prop, (∃ m, W1 0 m H5) ∧ ∀ j k H, W1 j k H →
        (J1.stop j H ∧ LcS Γ.M.K F1 P (W (i + 1)) H) ∨ (J1.go j H ∧ ∃ Nx1 : Hp → Prop, (∀ H', Nx1 H' → ∃ k', k' < k ∧ W1 (j + 1) k' H') ∧ ∀ x H', J1.yld j H x H' → BG Γ scope tg1 x (wipe σ3 own1) H' fun σ4 H6 => wipe σ4 own1 = wipe σ3 own1 ∧ BI Γ scope ifs1 σ4 H6 fun b H7 =>
          if b = true then BE Γ scope elt σ4 H7 fun y H8 => ∃ ac, H8 P = some (.lst ac) ∧ ac.length < sizeLine ∧ Nx1 (upd H8 P (.lst (ac ++ [y]))) else Nx1 H7)
      else LcS Γ.M.K F1 P (W (i + 1)) H4 := by
  refine ⟨⟨F2.z, upd F1.r P (.lst vs)⟩, ?_⟩
  have hr : EnvR Γ.M.K ⟨F2.z, upd F1.r P (.lst vs)⟩ (wipeD ρ0 own) (wipe σ own) := env_z (F := F2) rfl (wipe_env (r.mono e2) _)
  refine (T.turn ⟨F2.z, upd F1.r P (.lst vs)⟩ i x acc O2 hi hx w2 ⟨F2.z, upd F1.r P (.lst vs)⟩ _ H2 v (Ext.refl _) s2 hr (rep_z (F := F2) rfl rv)).mono fun σ3 H3 ⟨wq, ρ3, F3, O3, e3, s3, r3, q3⟩ => ⟨wq.trans (wipe_wipe _ _), ⟨F2.z, upd F1.r P (.lst vs)⟩, ?_⟩
  refine (q3.run e3 s3 r3).mono fun b H4 ⟨F4, O4, e4, s4, q4⟩ => ?_
  have e34 := e3.trans e4
  cases b with
  | false =>
    have q4 : W (i + 1) acc O4 := by simpa using q4
    have hr4 : F4.r = upd F1.r P (.lst vs) := e34.2
    have s4' : Stt Γ.M.K ⟨F4.z, upd F1.r P (.lst vs)⟩ O4 H4 := by
      have : (⟨F4.z, upd F1.r P (.lst vs)⟩ : Fr) = F4 := by rw [← hr4]
      rw [this]; exact s4
    exact ⟨⟨F4.z, F1.r⟩, O4, acc, vs, ⟨fun a o q => e34.1 a o (e2.1 a o q), rfl⟩, s4', reps_z (F := F4) rfl (Reps.mono e34 _ _ (reps_z (F := F2) rfl ra)), q4⟩
  | true =>
    have q4 : In2 Γ scope own1 tg1 iter1 ifs1 elt ⟨F2.z, upd F1.r P (.lst vs)⟩ ρ3 O4 acc (W (i + 1)) := by simpa using q4
    show BW Γ scope tg1 iter1 σ3 H4 _
    refine ⟨⟨F2.z, upd F1.r P (.lst vs)⟩, fun X hX => ?_⟩
    obtain ⟨wi, p1, p2⟩ := q4 X hX
    refine ⟨wi, p1, p2 F4 σ3 H4 _ e34 s4 (r3.mono e4) fun F6 O6 H6 J1 n1 it1 e6 s6 ⟨G1, Y1, wk, g1, g2⟩ ⟨W1, w0, tn, st⟩ => ?_⟩
    have e26 : Ext ⟨F2.z, upd F1.r P (.lst vs)⟩ F6 := e34.trans e6
    have hr6 : F6.r = upd F1.r P (.lst vs) := e26.2
    have e16 : Ext F1 ⟨F6.z, F1.r⟩ := ⟨fun a o q => e26.1 a o (e2.1 a o q), rfl⟩
    have s6' : Stt Γ.M.K ⟨F6.z, upd F1.r P (.lst vs)⟩ O6 H6 := by
      have : (⟨F6.z, upd F1.r P (.lst vs)⟩ : Fr) = F6 := by rw [← hr6]
      rw [this]; exact s6
    have r6 : EnvR Γ.M.K ⟨F6.z, F1.r⟩ ρ3 σ3 := env_z (F := F6) rfl ((r3.mono e4).mono e6)
    refine ⟨fun j k H => k = n1 - j ∧ j ≤ n1 ∧ LcS Γ.M.K ⟨F6.z, F1.r⟩ P (W1 j) H, ⟨n1, by simp, Nat.zero_le _, ⟨F6.z, F1.r⟩, O6, acc, vs, Ext.refl _, s6', reps_z (F := F6) rfl (Reps.mono e26 _ _ (reps_z (F := F2) rfl ra)), w0⟩, ?_⟩
    rintro j k H ⟨rfl, hj, L⟩
    have gH : G1 H := by
      obtain ⟨F7, O7, a7, us7, e7, s7, _⟩ := L
      exact g1 ⟨F7.z, upd F1.r P (.lst us7)⟩ O7 H e7.1 s7
    by_cases hlt : j < n1
    · refine .inr ⟨wk.goes j H hlt gH, LcS Γ.M.K ⟨F6.z, F1.r⟩ P (W1 (j + 1)), fun H' L' => ⟨n1 - (j + 1), by omega, rfl, hlt, L'⟩, fun y H' yy => ?_⟩
      obtain ⟨F7, O7, a7, us7, e7, s7, ra7, w7⟩ := L
      obtain ⟨F8, d, e8, s8, hd, rd⟩ := g2 ⟨F7.z, upd F1.r P (.lst us7)⟩ O7 H j y H' e7.1 s7 hlt (wk.yields j H y H' hlt gH yy)
      have er : F8.r = upd F1.r P (.lst us7) := e8.2
      have s8' : Stt Γ.M.K ⟨F8.z, upd F1.r P (.lst us7)⟩ O7 H' := by
        have : (⟨F8.z, upd F1.r P (.lst us7)⟩ : Fr) = F8 := by rw [← er]
        rw [this]; exact s8
      exact lc_turnG (F1 := ⟨F6.z, F1.r⟩) (F2 := ⟨F8.z, F1.r⟩) (W := W1) (own := own1) tn hlt hd r6 ⟨fun a o q => e8.1 a o (e7.1 a o q), rfl⟩ s8' (Reps.monoZ (F := F7) (F' := ⟨F8.z, F1.r⟩) e8.1 _ _ ra7) w7 (rep_z (F := F8) rfl rd)
    · have e : j = n1 := by omega
      subst e
      exact .inl ⟨wk.stops H gH, L.sub e16 st⟩
theorem lc2_runI {X : Cx} (hX : Γ.Has X) {wi : TI} {own : List (Str × Nat)} {own1 : List Nat} {Qv : VK} {Ql : List D → Opens → Prop} (e0 : Ext Γ.F0 F) (s : Stt Γ.M.K F O H) (r : EnvR Γ.M.K F ρ σ)
    (hw : ∀ (Rv : It → Hp → Prop), (∀ F1 O1 H1 J n it, Ext F F1 → Stt Γ.M.K F1 O1 H1 → ItOk Γ.M.K F1 J n it → (∃ W, Lc2Q Γ scope (own.map (·.2)) own1 tg ifs tg1 iter1 ifs1 elt n it ρ O1 Ql W) → Rv J H1) → wi σ H Rv)
    (hq : ∀ P H2, LcEnd Γ.M.K F Ql P H2 → Qv (.ref P) H2) : tLc2 wi (BG Γ scope tg) (BI Γ scope ifs) (BW Γ scope tg1 iter1) (BG Γ scope tg1) (BI Γ scope ifs1) (BE Γ scope elt) (own.map (·.2)) own1 σ H Qv := by
  refine hw _ fun F1 O1 H1 J n it e1 s1 ⟨G, Y, w, g1, g2⟩ ⟨W, T⟩ => fun P hP => ?_
  refine ⟨fun i m H => m = n - i ∧ i ≤ n ∧ LcS Γ.M.K F1 P (W i) H, ⟨n, by simp, Nat.zero_le _, lc_start s1 hP T.start⟩, ?_⟩
  rintro i m H ⟨rfl, hi, L⟩
  have gH : G H := by
    obtain ⟨F7, O7, a7, us7, e7, s7, _⟩ := L
    exact g1 ⟨F7.z, upd F1.r P (.lst us7)⟩ O7 H e7.1 s7
  by_cases hlt : i < n
  · refine .inr ⟨w.goes i H hlt gH, LcS Γ.M.K F1 P (W (i + 1)), fun H' L' => ⟨n - (i + 1), by omega, rfl, hlt, L'⟩, fun y H' yy => ?_⟩
    obtain ⟨F7, O7, a7, us7, e7, s7, ra7, w7⟩ := L
    obtain ⟨F8, d, e8, s8, hd, rd⟩ := g2 ⟨F7.z, upd F1.r P (.lst us7)⟩ O7 H i y H' e7.1 s7 hlt (w.yields i H y H' hlt gH yy)
    have er : F8.r = upd F1.r P (.lst us7) := e8.2
    have s8' : Stt Γ.M.K ⟨F8.z, upd F1.r P (.lst us7)⟩ O7 H' := by
      have : (⟨F8.z, upd F1.r P (.lst us7)⟩ : Fr) = F8 := by rw [← er]
      rw [this]; exact s8
    exact lc2_turn (F1 := F1) (F2 := ⟨F8.z, F1.r⟩) T hlt hd (r.mono e1) ⟨fun a o q => e8.1 a o (e7.1 a o q), rfl⟩ s8' (Reps.monoZ (F := F7) (F' := ⟨F8.z, F1.r⟩) e8.1 _ _ ra7) w7 (rep_z (F := F8) rfl rd)
  · have e : i = n := by omega
    subst e
    refine .inl ⟨w.stops H gH, hq P H ?_⟩
    obtain ⟨F', O', acc, vs, k1, k2, k3, k4, k5, k6, k7, k8⟩ := LcEnd.of s1 hP L T.stop
    exact ⟨F', O', acc, vs, e1.trans k1, k2, k3, k4, k5, k6, k7, k8⟩
theorem we_lc2I {own : List (Str × Nat)} {own1 : List Nat} {pos : Pos} {Ql : List D → Opens → Prop} (hh : Γ.hot = false) (ok : blkC Γ.N Γ.sc scope own = true) (hv : ∀ i ∈ own1, i ∈ own.map (·.2)) (h : PiD Γ tg iter ρ O fun n it O1 => ∃ W, Lc2Q Γ scope (own.map (·.2)) own1 tg ifs tg1 iter1 ifs1 elt n it ρ O1 Ql W) (hq : ∀ F P H2, LcEnd Γ.M.K F Ql P H2 → KV' Γ F Q (.ref P) H2)
    (hs : ∀ env x, foldedSetIterable iter env x = pure x := by intro _ _; rfl) (hs1 : ∀ env x, foldedSetIterable iter1 env x = pure x := by intro _ _; rfl) : We Γ (.ListComp elt [⟨tg, iter, ifs, 0⟩, ⟨tg1, iter1, ifs1, 0⟩] scope pos) ρ O Q := fun F σ H e0 s r X hX pins sh I => by
  obtain ⟨wi, h1, h2⟩ := h X hX
  exact (pe_lc2 (own := own) (vs1 := own1) (hX.calm hh) (by rw [hX.N]; exact hX.nd) h1 (by rw [hX.N, hX.sc]; exact blkOk_by ok) hv (fun s H C cl fp => bg_pg hX tg) (fun s H C cl fp => bi_pt hX ifs) (fun s H C cl fp => bw_pi hX tg1 iter1) (fun s H C cl fp => bg_pg hX tg1) (fun s H C cl fp => bi_pt hX ifs1) (fun s H C cl fp => be_pe hX elt) (hs X.env) hs1).run pins sh σ H _ I
    (lc2_runI hX e0 s r (fun Rv k => h2 F σ H Rv e0 s r k) fun P H2 le => hq F P H2 le)
theorem ws_lc2I {Z : EndsD} {y : Str} {py pos spos : Pos} {own : List (Str × Nat)} {own1 : List Nat} {Ql : List D → Opens → Prop} (hh : Γ.hot = false) (hk : Γ.sc.kind = .function) (hN : Γ.N[slot Γ.N y]? = some y) (hy : Γ.sc.names.lookup y = some .local) (hl : (py.line == pos.line) = true) (ha : (scope.names.any fun (n, k) => n == y && (k == .local || k == .cell)) = false)
    (ok : blkC Γ.N Γ.sc scope own = true) (hv : ∀ i ∈ own1, i ∈ own.map (·.2)) (h : PiD Γ tg iter ρ O fun n it O1 => ∃ W, Lc2Q Γ scope (own.map (·.2)) own1 tg ifs tg1 iter1 ifs1 elt n it ρ O1 Ql W) (hq : ∀ F P H2, LcEnd Γ.M.K F Ql P H2 → KV' Γ F (fun d O' => Z.nx (ρ.set (slot Γ.N y) (some d)) O') (.ref P) H2)
    (hs : ∀ env x, foldedSetIterable iter env x = pure x := by intro _ _; rfl) (hs1 : ∀ env x, foldedSetIterable iter1 env x = pure x := by intro _ _; rfl) : WS Γ (.Assign [.Name y py] (.ListComp elt [⟨tg, iter, ifs, 0⟩, ⟨tg1, iter1, ifs1, 0⟩] scope pos) spos) ρ O Z := fun F σ H e0 s r X hX pins sh I => by
  obtain ⟨wi, h1, h2⟩ := h X hX
  have hy' : X.env.scope.names.lookup y = some .local := by rw [hX.sc]; exact hy
  refine (ps_setLc2 (i := slot Γ.N y) (own := own) (vs1 := own1) (hX.calm hh) (by rw [hX.N]; exact hX.nd) (by rw [hX.N]; exact hN) hy' (sw_true (by rw [hX.sc]; exact hk) hy' hl ha) h1 (by rw [hX.N, hX.sc]; exact blkOk_by ok) hv (fun s H C cl fp => bg_pg hX tg) (fun s H C cl fp => bi_pt hX ifs) (fun s H C cl fp => bw_pi hX tg1 iter1) (fun s H C cl fp => bg_pg hX tg1) (fun s H C cl fp => bi_pt hX ifs1) (fun s H C cl fp => be_pe hX elt) (hs X.env) hs1).run pins sh σ H _ I ?_
  refine lc2_runI hX e0 s r (fun Rv k => h2 F σ H Rv e0 s r k) fun P H2 le => ?_
  obtain ⟨d, F', O', e1, s1, r1, q⟩ := hq F P H2 le
  exact ks e1 s1 ((r.mono e1).set _ r1) q
def tgNames : Expr → List Str
  | .Name x _ => [x]
  | .Tuple es _ _ => es.flatMap fun e => match e with
    | .Name x _ => [x]
    | _ => []
  | _ => []
def ownT (N : List Str) (tg : Expr) : List Nat := (tgNames tg).map (slot N)
theorem we_lc2 {pos : Pos} (hh : Γ.hot = false) (ok : (blkC Γ.N Γ.sc scope (ownS Γ.N scope) && (ownT Γ.N tg1).all fun i => (ownN Γ.N scope).contains i) = true) (h : PiD Γ tg iter ρ O fun n it O1 => ∃ W, Lc2Q Γ scope (ownN Γ.N scope) (ownT Γ.N tg1) tg ifs tg1 iter1 ifs1 elt n it ρ O1 (LcF Q) W)
    (hs : ∀ env x, foldedSetIterable iter env x = pure x := by intro _ _; rfl) (hs1 : ∀ env x, foldedSetIterable iter1 env x = pure x := by intro _ _; rfl) : We Γ (.ListComp elt [⟨tg, iter, ifs, 0⟩, ⟨tg1, iter1, ifs1, 0⟩] scope pos) ρ O Q := by
  obtain ⟨k1, k2⟩ := (Bool.and_eq_true _ _).mp ok
  exact we_lc2I hh k1 (fun i hi => by simpa using List.all_eq_true.mp k2 i hi) h (fun F P H2 le => le.frozen fun _ _ q => q) hs hs1
theorem ws_lc2 {Z : EndsD} {y : Str} {py pos spos : Pos} (hh : Γ.hot = false) (hk : Γ.sc.kind = .function) (hN : Γ.N[slot Γ.N y]? = some y) (hy : Γ.sc.names.lookup y = some .local) (hl : (py.line == pos.line) = true) (ha : (scope.names.any fun (n, k) => n == y && (k == .local || k == .cell)) = false)
    (ok : (blkC Γ.N Γ.sc scope (ownS Γ.N scope) && (ownT Γ.N tg1).all fun i => (ownN Γ.N scope).contains i) = true) (h : PiD Γ tg iter ρ O fun n it O1 => ∃ W, Lc2Q Γ scope (ownN Γ.N scope) (ownT Γ.N tg1) tg ifs tg1 iter1 ifs1 elt n it ρ O1 (LcF fun d O' => Z.nx (ρ.set (slot Γ.N y) (some d)) O') W)
    (hs : ∀ env x, foldedSetIterable iter env x = pure x := by intro _ _; rfl) (hs1 : ∀ env x, foldedSetIterable iter1 env x = pure x := by intro _ _; rfl) : WS Γ (.Assign [.Name y py] (.ListComp elt [⟨tg, iter, ifs, 0⟩, ⟨tg1, iter1, ifs1, 0⟩] scope pos) spos) ρ O Z := by
  obtain ⟨k1, k2⟩ := (Bool.and_eq_true _ _).mp ok
  exact ws_lc2I hh hk hN hy hl ha k1 (fun i hi => by simpa using List.all_eq_true.mp k2 i hi) h (fun F P H2 le => le.frozen fun _ _ q => q) hs hs1
/-- [f x y for x in xs for y in ys x if p x y], nothing open changed -/
theorem lc2_fil {α β : Type} {own own1 : List Nat} {c : Expr} (xs : List α) (g : α → D) (ys : α → List β) (g1 : β → D) (p : α → β → Bool) (f : α → β → D) {Ql : List D → Opens → Prop} {N : Nat} (hN : (xs.flatMap ys).length ≤ N) (hz : N < sizeLine)
    (ht : ∀ (F0 : Fr) (x : α), x ∈ xs → WGo (blkG Γ scope F0) own tg (g x) (wipeD ρ own) O fun ρ2 O2 => O2 = O ∧ PiD (blkG Γ scope F0) tg1 iter1 ρ2 O fun n it O1 => O1 = O ∧ n = ((ys x).map g1).length ∧ (it = fun i => ((ys x).map g1)[i]?) ∧ ∀ (F1 : Fr) (y : β), y ∈ ys x → WGo (blkG Γ scope F1) own1 tg1 (g1 y) (wipeD ρ2 own1) O fun ρ3 O3 => WT (blkG Γ scope F1) c ρ3 O3 fun b O4 => b = p x y ∧ O4 = O ∧ (p x y = true → We (blkG Γ scope F1) elt ρ3 O fun z O5 => z = f x y ∧ O5 = O))
    (h : Ql (xs.flatMap fun x => ((ys x).filter (p x)).map (f x)) O) : ∃ W, Lc2Q Γ scope own own1 tg [] tg1 iter1 [c] elt (xs.map g).length (fun i => (xs.map g)[i]?) ρ O Ql W := by
  refine ⟨fun i acc O' => acc = (xs.take i).flatMap (fun x => ((ys x).filter (p x)).map (f x)) ∧ O' = O, ⟨rfl, rfl⟩, fun F0 i d acc O' hi hd w => ?_, fun acc O' w => ?_⟩
  · obtain ⟨w1, w2⟩ := w
    subst w2
    rw [List.length_map] at hi
    rw [List.getElem?_map] at hd
    obtain ⟨x, hx, rfl⟩ := Option.map_eq_some_iff.mp hd
    have tk : xs.take (i + 1) = xs.take i ++ [x] := by rw [List.take_add_one, hx]; rfl
    intro F σ H v e0 s r rv
    refine (ht F0 x (List.mem_of_getElem? hx) F σ H v e0 s r rv).mono fun σ' H' ⟨w3, k⟩ => ⟨w3, KS.mono (Ext.refl F) (fun ρ2 O2 q => ?_) k⟩
    obtain ⟨q1, q2⟩ := q
    subst q1
    refine wi_nil (ift rfl ?_)
    refine PiD.imp q2 fun n it O1 ⟨e1, e2, e3, q3⟩ => ?_
    subst e1 e2 e3
    have bnd : ∀ j, (acc ++ (((ys x).take j).filter (p x)).map (f x)).length ≤ N := fun j => by
      refine Nat.le_trans ?_ hN
      have a1 : ∀ l : List α, (l.flatMap fun x => ((ys x).filter (p x)).map (f x)).length ≤ (l.flatMap ys).length := by
        intro l
        induction l with
        | nil => exact Nat.le_refl _
        | cons a l ih =>
          rw [List.flatMap_cons, List.flatMap_cons, List.length_append, List.length_append, List.length_map]
          have := List.length_filter_le (p a) (ys a)
          omega
      have a2 : (xs.flatMap ys).length = ((xs.take i).flatMap ys).length + (ys x).length + ((xs.drop (i + 1)).flatMap ys).length := by
        conv => lhs; rw [← List.take_append_drop (i + 1) xs, tk]
        simp [List.flatMap_append, Nat.add_assoc]
      have a3 := List.length_filter_le (p x) ((ys x).take j)
      have a4 := a1 (xs.take i)
      rw [List.length_append, List.length_map, w1]
      rw [List.length_take] at a3
      omega
    refine ⟨fun j a O' => a = acc ++ (((ys x).take j).filter (p x)).map (f x) ∧ O' = O1, ⟨by simp, rfl⟩, fun F1 j y a O5 hj hy w => ?_, fun a O5 w => ?_⟩
    · obtain ⟨w4, w5⟩ := w
      subst w5
      have hy : ((ys x).map g1)[j]? = some y := hy
      rw [List.getElem?_map] at hy
      obtain ⟨b, hb, rfl⟩ := Option.map_eq_some_iff.mp hy
      have tk1 : (ys x).take (j + 1) = (ys x).take j ++ [b] := by rw [List.take_add_one, hb]; rfl
      intro F σ H v e0 s r rv
      refine (q3 F1 b (List.mem_of_getElem? hb) F σ H v e0 s r rv).mono fun σ' H' ⟨w6, k⟩ => ⟨w6, KS.mono (Ext.refl F) (fun ρ3 O3 q => ?_) k⟩
      refine WT.imp (show WT _ c ρ3 O3 _ from q) fun bb O6 ⟨hb1, hO, hw⟩ => ?_
      subst hO
      have small : a.length < sizeLine := by rw [w4]; exact Nat.lt_of_le_of_lt (bnd j) hz
      cases bb with
      | true =>
        rw [if_pos rfl]
        refine (hw hb1.symm).imp fun z O7 u => ⟨small, ?_, u.2⟩
        rw [tk1, List.filter_append, List.map_append, ← List.append_assoc, ← w4, List.filter_cons, if_pos hb1.symm, u.1]; rfl
      | false =>
        rw [if_neg Bool.false_ne_true]
        refine ⟨?_, rfl⟩
        rw [tk1, List.filter_append, List.map_append, ← List.append_assoc, ← w4, List.filter_cons, if_neg (by rw [← hb1]; decide)]; simp
    · obtain ⟨w4, w5⟩ := w
      subst w5
      rw [List.length_map, List.take_length] at w4
      refine ⟨?_, rfl⟩
      rw [tk, List.flatMap_append, ← w1, w4]; simp
  · obtain ⟨w1, w2⟩ := w
    subst w2
    rw [List.length_map, List.take_length] at w1
    rw [w1]; exact h
end
section
variable {Γ : G} {ρ : Env'} {O : Opens} {Q : DK} {e : Expr} {p pos : Pos}
/-- min(e), a list of tuples of ints -/
theorem we_minT (B : Blt Γ.M) (hg : GlN Γ "min") (hh : Γ.hot = false) (h : We Γ e ρ O fun d O1 => ∃ ls : List (List Int), d = .lst (ls.map fun l => .tup (l.map D.int)) ∧ ls ≠ [] ∧ ∀ m ∈ ls, (∀ k ∈ ls, HT.lexLt k m = false) → Q (.tup (m.map D.int)) O1)
    (h1 : ∀ env, starEach [e] env = (false, eval e env) :: starEach [] env := by intro _; rfl) : We Γ (.Call (.Name "min" p) [e] [] pos) ρ O Q := fun F σ H e0 s r X hX pins st I => by
  have hu : X.A.units + 1 < cLine := by have := hX.units; omega
  refine (pe_callB (cr_minT (hX.calm hh) hu) (hX.gl hg) (by rw [← hX.mg]; exact B.min) (by decide +kernel) (pa_cons (Ev.pe hX e) pa_nil (h1 X.env)) (he := h1 X.env)).run pins st σ H _ I ?_
  refine (h F σ H e0 s r).mono fun v H1 ⟨d, F1, O1, e1, s1, r1, ls, hd, hne, q⟩ => ?_
  subst hd
  obtain ⟨a, ys, rfl, g1, g2⟩ := r1
  have hl : ls.length = ys.length := by rw [← g2.length, List.length_map]
  have at_ : ∀ i, i < ys.length → ∃ t, ys[i]? = some (.ref t) ∧ SqT X.K H1 t (((ls[i]?).getD []).map V.int) ∧ Rep Γ.M.K F1 (.tup (((ls[i]?).getD []).map D.int)) (.ref t) := fun i hi => by
    have hi' : i < ls.length := by omega
    have e : (ls.map fun l => D.tup (l.map D.int))[i]? = some (.tup (((ls[i]?).getD []).map D.int)) := by rw [List.getElem?_map, List.getElem?_eq_getElem hi']; rfl
    obtain ⟨v, k1, k2⟩ := g2.get e
    obtain ⟨t, zs, rfl, k3, k4⟩ := id k2
    have := reps_int k4
    subst this
    exact ⟨t, k1, s1.ext.seqT (hX.K ▸ k3), k2⟩
  refine ⟨a, ys, fun i => (ls[i]?).getD [], rfl, SqL.of (s1.ext _ _ g1), fun i hi => ?_, ?_, fun i v hv hm => ?_⟩
  · obtain ⟨t, k1, k2, _⟩ := at_ i hi
    exact ⟨t, k1, k2⟩
  · cases ls with
    | nil => exact absurd rfl hne
    | cons _ _ => rw [← hl, List.length_cons]; exact Nat.succ_pos _
  · have hi := (List.getElem?_eq_some_iff.mp hv).1
    obtain ⟨t, k1, k2, k3⟩ := at_ i hi
    rw [hv] at k1
    cases k1
    have hi' : i < ls.length := by omega
    have ei : (ls[i]?).getD [] = ls[i] := by rw [List.getElem?_eq_getElem hi']; rfl
    have hm : ∀ j, j < ys.length → HT.lexLt ((ls[j]?).getD []) ((ls[i]?).getD []) = false := hm
    rw [ei] at k3
    simp only [ei] at hm
    refine KV'.at e1 (kv s1 k3 (q _ (List.getElem_mem hi') fun k hk => ?_))
    obtain ⟨j, hj, rfl⟩ := List.getElem_of_mem hk
    have := hm j (by omega)
    rw [List.getElem?_eq_getElem hj] at this
    exact this
end
end DL

/-! DLW: stars in displays and calls. -/
namespace DL
open PySem PySem.Spec PyProof.Rows L2
section
variable {Γ : G} {ρ : Env'} {O : Opens} {e : Expr} {es : List Expr} {p : Pos}
/-- *e, .. -/
theorem wa_star {Q : List D → Opens → Prop} (h : We Γ e ρ O fun d O1 => ∃ xs, (d = .tup xs ∨ d = .lst xs) ∧ WA Γ es ρ O1 fun ds O2 => Q (xs ++ ds) O2)
    (hs : ∀ env, starEach (.Starred e p :: es) env = (true, eval e env) :: starEach es env := by intro _; rfl) : WA Γ (.Starred e p :: es) ρ O Q := fun F σ H e0 s r X hX pos pins st I => by
  refine (StX.pa_star (Ev.pe hX e) (EvA.pa hX es) (hs X.env)).run pos pins st σ H _ I ((h F σ H e0 s r).mono fun v H1 ⟨d, F1, O1, e1, s1, r1, xs, hd, q1⟩ => ?_)
  have key : ∃ a vs, v = V.ref a ∧ (SqT X.K H1 a vs ∨ SqL X.K H1 a vs) ∧ Reps Γ.M.K F1 xs vs := by
    rcases hd with rfl | rfl
    · obtain ⟨a, vs, rfl, g1, g2⟩ := r1
      exact ⟨a, vs, rfl, .inl (s1.ext.seqT (hX.K ▸ g1)), g2⟩
    · obtain ⟨a, vs, rfl, g1, g2⟩ := r1
      exact ⟨a, vs, rfl, .inr (SqL.of (s1.ext _ _ g1)), g2⟩
  obtain ⟨a, vs, rfl, g1, g2⟩ := key
  refine ⟨a, vs, rfl, g1, (q1 F1 σ H1 (e0.trans e1) s1 (r.mono e1)).mono fun ws H2 ⟨ds, F2, O2, e2, s2, r2, q2⟩ => ?_⟩
  exact ⟨xs ++ ds, F2, O2, e1.trans e2, s2, (Reps.mono e2 _ _ g2).append r2, q2⟩
theorem we_any {Q : DK} {p pos : Pos} (ha : Γ.M.mg "any" = none) (hg : GlN Γ "any") (hh : Γ.hot = false) (h : We Γ e ρ O fun d O1 => AnyQ [d] O1 Q) (h1 : ∀ env, starEach [e] env = (false, eval e env) :: starEach [] env := by intro _; rfl) : We Γ (.Call (.Name "any" p) [e] [] pos) ρ O Q :=
  we_blt (fun X hX => any_ok hX hh) hg ha (by decide +kernel) (one_arg h h1) (he := h1)
/-- the module's own tuple of ints -/
def GTup (M : Mo) (x : Str) (ns : List Int) : Prop := ∃ (a : Addr) (o : Obj) (its : Array Value) (n : Nat), M.mg x = some (.ref a) ∧ M.K.lookup a = some o ∧ o.cls = .type "tuple" ∧ o.data = .seq its n ∧ its.size ≤ sizeLine ∧ Vals (ns.map V.int) its.toList
theorem we_gtup {Q : DK} {x : Str} {pos : Pos} {ns : List Int} (hk : GTup Γ.M x ns) (hg : GlN Γ x) (h : Q (.tup (ns.map D.int)) O) (h1 : (x == ("__debug__" : Str)) = false := by decide) : We Γ (.Name x pos) ρ O Q := by
  obtain ⟨a, o, its, n, h2, h3⟩ := hk
  exact we_glob (v := .ref a) (d := .tup (ns.map D.int)) hg h2 rfl (fun F => ⟨a, ns.map V.int, rfl, .inr ⟨o, its, n, h3⟩, Reps.ints⟩) h h1
/-- x, y = xs, a list -/
theorem wg_unl {k : Nat} {pos : Pos} {ds : List D} {Q : Env' → Opens → Prop} {n : Nat} (hh : Γ.hot = false) (hl : ds.length = n) (h : WGs Γ es ds ρ O Q) (hn : ∀ env, (assignEach es env).length = n := by intro _; rfl) (hst : ∀ env, (assignEach es env).findIdx? (·.1) = none := by intro _; rfl) : WG Γ (.Tuple es k pos) (.lst ds) ρ O Q := fun F σ H v e0 s r rv X hX pins st u I ru => by
  obtain ⟨a, vs, rfl, h1, h2⟩ := rv
  exact (pg_unl (hX.calm hh) (EvGs.pgs hX es) (hn X.env) (hst X.env)).run pins st σ H _ u _ I ru ⟨a, vs, rfl, SqL.of (s.ext _ _ h1), by rw [← h2.length]; exact hl, h F σ H vs e0 s r h2⟩
end
end DL

/-! DLY: dicts that are walked (locked meanwhile), open lists that are walked, what is open forgotten. -/
namespace DL
open PySem PySem.Spec PyProof.Rows L2
def keyD : Key → D
  | .inl i => .int i
  | .inr z => .str z
theorem rep_key {K : PySem.W.Frag} {F : Fr} : ∀ {k : Key}, Rep K F (keyD k) (kV k)
  | .inl _ => rfl
  | .inr _ => rfl
/-- a dict as it is seen: frozen, open, locked -/
def DicO (O : Opens) (d : D) (kz : List Key) (ds : List D) : Prop := d = .dic kz ds ∨ ∃ q, d = .raw (.ref q) ∧ (O q = some (.dic kz ds) ∨ ∃ od kvs, O q = some (.lkd od kvs kz ds))
theorem dic_rd {K : PySem.W.Frag} {F : Fr} {H : Hp} {O : Opens} {d : D} {v : V} {kz : List Key} {ds : List D} (S : Stt K F O H) (r : Rep K F d v) (h : DicO O d kz ds) : ∃ a vs, v = .ref a ∧ Rd H a (.dK (kz.zip vs)) ∧ kz.length = ds.length ∧ Reps K F ds vs := by
  rcases h with rfl | ⟨q, rfl, ho | ⟨od, kvs, ho⟩⟩
  · obtain ⟨a, vs, rfl, h1, h2, h3⟩ := r
    exact ⟨a, vs, rfl, .inl (S.ext _ _ h1), h2, h3⟩
  · cases r
    obtain ⟨_, u, hu, vs, ru, h2, h3⟩ := S.opn q _ ho
    subst ru
    exact ⟨q, vs, rfl, .inl hu, h2, h3⟩
  · cases r
    obtain ⟨_, u, hu, ru, vs, rk, h2, h3⟩ := S.opn q _ ho
    subst ru
    subst rk
    exact ⟨q, vs, rfl, .inr ⟨od, hu⟩, h2, h3⟩
/-- what stands at a key -/
def valD (kz : List Key) (ds : List D) (k : Key) : Option D := ((kz.zip ds).find? fun p => decide (p.1 = k)).map (·.2)
theorem val_rep {K : PySem.W.Frag} {F : Fr} {k : Key} {d : D} : ∀ {kz : List Key} {ds : List D} {vs : List V}, valD kz ds k = some d → Reps K F ds vs → ∃ v, valV (kz.zip vs) k = some v ∧ Rep K F d v
  | [], _, _, h, _ => by cases h
  | _ :: _, [], _, h, _ => by cases h
  | a :: kz, e :: ds, vs, h, r => by
    obtain ⟨v, t, rfl, h1, h2⟩ := r
    unfold valD at h
    rw [List.zip_cons_cons, List.find?_cons] at h
    by_cases c : a = k
    · rw [show (decide ((a, e).1 = k)) = true from decide_eq_true c] at h
      cases h
      refine ⟨v, ?_, h1⟩
      unfold valV
      rw [List.zip_cons_cons, List.find?_cons, show (decide ((a, v).1 = k)) = true from decide_eq_true c]; rfl
    · rw [show (decide ((a, e).1 = k)) = false from decide_eq_false c] at h
      obtain ⟨w, g1, g2⟩ := val_rep (kz := kz) (ds := ds) (k := k) h h2
      refine ⟨w, ?_, g2⟩
      unfold valV
      rw [List.zip_cons_cons, List.find?_cons, show (decide ((a, v).1 = k)) = false from decide_eq_false c]
      exact g1
section
variable {Γ : G} {ρ : Env'} {O : Opens} {Z : EndsD} {Q : DK} {x : Str} {o e i a b : Expr} {pos p : Pos} {q : Addr} {kz : List Key} {ds : List D} {st : Stmt} {tg iter elt : Expr} {ifs : List Expr} {scope : Scope} {body : List Stmt}
/-- o[i], o a dict -/
theorem we_getK (h : We Γ o ρ O fun x O1 => We Γ i ρ O1 fun y O2 => ∃ kz ds k d, DicO O2 x kz ds ∧ y = keyD k ∧ valD kz ds k = some d ∧ Q d O2) (hs : NoSl i := by exact fun _ _ => rfl) : We Γ (.Subscript o i pos) ρ O Q := fun F σ H e0 s r X hX pins st I => by
  refine (pe_dget (by have := hX.units; omega) (Ev.pe hX o) (Ev.pe hX i) hs).run pins st σ H _ I ((h F σ H e0 s r).mono fun y H1 ⟨dy, F1, O1, e1, s1, ry, q1⟩ => ?_)
  refine (q1 F1 σ H1 (e0.trans e1) s1 (r.mono e1)).mono fun k H2 ⟨dk, F2, O2, e2, s2, rk, kz, ds, k', d, hd, hk, hv, q2⟩ => ?_
  subst hk
  obtain ⟨a, vs, rfl, g1, g2, g3⟩ := dic_rd s2 (ry.mono e2) hd
  obtain ⟨v, c1, c2⟩ := val_rep hv g3
  have ek : k = kV k' := by cases k' <;> exact rk
  subst ek
  exact ⟨a, v, rfl, .inl ⟨_, k', g1, rfl, c1.symm⟩, kv1 (e1.trans e2) s2 c2 q2⟩
/-- a in b, b a dict -/
theorem we_inK (h : We Γ a ρ O fun y O1 => We Γ b ρ O1 fun x O2 => ∃ kz ds k, DicO O2 x kz ds ∧ y = keyD k ∧ Q (.bl (kz.any fun c => decide (c = k))) O2) (hm : behindInMarks .In b = false := by first | exact nomark _ | rfl | with_unfolding_all rfl) : We Γ (.Compare a [.In] [b] pos) ρ O Q := fun F σ H e0 s r X hX pins st I => by
  refine (pe_cmp (pc_din (by have := hX.units; omega) (Ev.pe hX a) (Ev.pe hX b)) hm).run pins st σ H _ I ((h F σ H e0 s r).mono fun y H1 ⟨dy, F1, O1, e1, s1, ry, q1⟩ => ?_)
  refine (q1 F1 σ H1 (e0.trans e1) s1 (r.mono e1)).mono fun w H2 ⟨dw, F2, O2, e2, s2, rw', kz, ds, k', hd, hk, q2⟩ => ?_
  subst hk
  obtain ⟨a', vs, rfl, g1, g2, g3⟩ := dic_rd s2 rw' hd
  have ek : y = kV k' := by cases k' <;> exact ry
  subst ek
  refine ⟨a', valV (kz.zip vs) k', rfl, .inl ⟨_, k', g1, rfl, rfl⟩, kv1 (e1.trans e2) s2 rep_bl ?_⟩
  rw [val_zip (by rw [g2, g3.length])]
  exact q2
theorem we_ninK (h : We Γ a ρ O fun y O1 => We Γ b ρ O1 fun x O2 => ∃ kz ds k, DicO O2 x kz ds ∧ y = keyD k ∧ Q (.bl (!kz.any fun c => decide (c = k))) O2) (hm : behindInMarks .NotIn b = false := by first | exact nomark _ | rfl | with_unfolding_all rfl) : We Γ (.Compare a [.NotIn] [b] pos) ρ O Q := fun F σ H e0 s r X hX pins st I => by
  refine (pe_cmp (pc_dnotin (by have := hX.units; omega) (Ev.pe hX a) (Ev.pe hX b)) hm).run pins st σ H _ I ((h F σ H e0 s r).mono fun y H1 ⟨dy, F1, O1, e1, s1, ry, q1⟩ => ?_)
  refine (q1 F1 σ H1 (e0.trans e1) s1 (r.mono e1)).mono fun w H2 ⟨dw, F2, O2, e2, s2, rw', kz, ds, k', hd, hk, q2⟩ => ?_
  subst hk
  obtain ⟨a', vs, rfl, g1, g2, g3⟩ := dic_rd s2 rw' hd
  have ek : y = kV k' := by cases k' <;> exact ry
  subst ek
  refine ⟨a', valV (kz.zip vs) k', rfl, .inl ⟨_, k', g1, rfl, rfl⟩, kv1 (e1.trans e2) s2 rep_bl ?_⟩
  rw [val_zip (by rw [g2, g3.length])]
  exact q2
/-- len of what it is asked of: also of a dict -/
def LenAQ : DC := fun ds O Q => LenQ ds O Q ∨ ∃ d kz es, ds = [d] ∧ (d = .dic kz es ∨ ∃ q, d = .raw (.ref q) ∧ O q = some (.dic kz es)) ∧ Q (.int kz.length) O
theorem lena_ok {X : Cx} (hX : Γ.Has X) : CallD Γ X (.builtin "len") LenAQ := by
  intro F O ds Q pins s σ H vs us I rv e0 S rd h
  rcases h with h | ⟨d, kz, es, e, hd, q2⟩
  · exact len_ok hX F O ds Q pins s σ H vs us I rv e0 S rd h
  · subst e
    obtain ⟨v, rfl, r⟩ := reps1 rd
    have key : ∃ a ws, v = .ref a ∧ H a = some (.dK (kz.zip ws)) ∧ kz.length = es.length ∧ Reps Γ.M.K F es ws := by
      rcases hd with rfl | ⟨q, rfl, ho⟩
      · obtain ⟨a, vs, rfl, h1, h2, h3⟩ := r
        exact ⟨a, vs, rfl, S.ext _ _ h1, h2, h3⟩
      · cases r
        obtain ⟨ws, g1, g2, g3⟩ := S.dict ho
        exact ⟨q, ws, rfl, g1, g2, g3⟩
    obtain ⟨a, ws, rfl, g1, g2, g3⟩ := key
    refine call_lenD pins s σ H _ _ _ I rv ⟨a, kz.zip ws, rfl, g1, kv S rep_int ?_⟩
    rw [List.length_zip, g2, ← g3.length, Nat.min_self, ← g2]
    exact q2
theorem we_lenA (B : Blt Γ.M) (hg : GlN Γ "len") (h : We Γ e ρ O fun d O1 => LenAQ [d] O1 Q) (h1 : ∀ env, starEach [e] env = (false, eval e env) :: starEach [] env := by intro _; rfl) : We Γ (.Call (.Name "len" p) [e] [] pos) ρ O Q :=
  we_blt (fun X hX => lena_ok hX) hg B.len PySem.boot_len (one_arg h h1) (he := h1)
/-! ### a dict is locked -/
def LkQ (q : Addr) (od : Obj) (kvs : List (Key × V)) (kz : List Key) (ds : List D) (P : Opens → Prop) (O' : Opens) : Prop := O' q = some (.lkd od kvs kz ds) ∧ P (O'.up q (.dic kz ds))
theorem unlock {F1 : Fr} {O1 : Opens} {H1 : Hp} {od : Obj} {kvs : List (Key × V)} (s : Stt Γ.M.K F1 O1 H1) (h : O1 q = some (.lkd od kvs kz ds)) : H1 q = some (.frz od (.dK kvs)) ∧ Stt Γ.M.K F1 (O1.up q (.dic kz ds)) (upd H1 q (.dK kvs)) := by
  obtain ⟨_, u, hu, ru, vs, rk, h2, h3⟩ := s.opn q _ h
  subst ru
  exact ⟨hu, s.change h ⟨vs, by rw [rk], h2, h3⟩⟩
theorem we_lock (ho : O q = some (.dic kz ds)) (h : ∀ od kvs, We Γ e ρ (O.up q (.lkd od kvs kz ds)) fun d O' => LkQ q od kvs kz ds (Q d) O') : We Γ e ρ O Q := fun F σ H e0 s r X hX pins st I => by
  obtain ⟨vs, g1, g2, g3⟩ := s.dict ho
  refine (pe_lock (Ev.pe hX e)).run pins st σ H _ I ⟨q, _, g1, True.intro, fun od => ?_⟩
  refine (h od (kz.zip vs) F σ _ e0 (s.change ho (u := .lkd od (kz.zip vs) kz ds) ⟨rfl, vs, rfl, g2, g3⟩) r).mono fun v H1 ⟨d, F1, O1, e1, s1, r1, k1, k2⟩ => ?_
  obtain ⟨c1, c2⟩ := unlock s1 k1
  exact ⟨c1, d, F1, _, e1, c2, r1, k2⟩
def lkZ (Z : EndsD) (q : Addr) (od : Obj) (kvs : List (Key × V)) (kz : List Key) (ds : List D) : EndsD := ⟨fun ρ' => LkQ q od kvs kz ds (Z.nx ρ'), fun d => LkQ q od kvs kz ds (Z.rt d), fun ρ' => LkQ q od kvs kz ds (Z.bk ρ'), fun ρ' => LkQ q od kvs kz ds (Z.ct ρ')⟩
theorem ws_lock (ho : O q = some (.dic kz ds)) (h : ∀ od kvs, WS Γ st ρ (O.up q (.lkd od kvs kz ds)) (lkZ Z q od kvs kz ds)) : WS Γ st ρ O Z := fun F σ H e0 s r X hX pins sh I => by
  obtain ⟨vs, g1, g2, g3⟩ := s.dict ho
  refine (ps_lock (EvS.ps hX st)).run pins sh σ H _ I ⟨q, _, g1, True.intro, fun od => ?_⟩
  have nx : ∀ {P : Env' → Opens → Prop} {σ' : L2.St} {H' : Hp}, KS Γ F (fun ρ' => LkQ q od (kz.zip vs) kz ds (P ρ')) σ' H' → H' q = some (.frz od (.dK (kz.zip vs))) ∧ KS Γ F P σ' (upd H' q (.dK (kz.zip vs))) := fun {P σ' H'} ⟨ρ', F1, O1, e1, s1, r1, k1, k2⟩ => by
    obtain ⟨c1, c2⟩ := unlock s1 k1
    exact ⟨c1, ρ', F1, _, e1, c2, r1, k2⟩
  refine (h od (kz.zip vs) F σ _ e0 (s.change ho (u := .lkd od (kz.zip vs) kz ds) ⟨rfl, vs, rfl, g2, g3⟩) r).mono (fun σ' H' k => nx k) (fun v H1 k => ?_) (fun σ' H' k => nx k) fun σ' H' k => nx k
  obtain ⟨d, F1, O1, e1, s1, r1, k1, k2⟩ := k
  obtain ⟨c1, c2⟩ := unlock s1 k1
  exact ⟨c1, d, F1, _, e1, c2, r1, k2⟩
/-! ### walks that lean on what is open -/
/-- J gives n items, the i-th being it i, while what is frozen in F1 stands and L is true of what is open -/
def ItL (K : PySem.W.Frag) (F1 : Fr) (L : Opens → Prop) (J : It) (n : Nat) (it : Nat → Option D) : Prop := ∃ (G : Hp → Prop) (Y : Nat → Hp → V → Hp → Prop), Walk J n G Y ∧ (∀ F2 O2 H2, (∀ a o, F1.z a = some o → F2.z a = some o) → Stt K F2 O2 H2 → L O2 → G H2) ∧
  ∀ F2 O2 H2 i x H', (∀ a o, F1.z a = some o → F2.z a = some o) → Stt K F2 O2 H2 → L O2 → i < n → Y i H2 x H' → ∃ F3 d, Ext F2 F3 ∧ Stt K F3 O2 H' ∧ it i = some d ∧ Rep K F3 d x
def PiL (Γ : G) (tg iter : Expr) (ρ : Env') (O : Opens) (L : Opens → Prop) (R : Nat → (Nat → Option D) → Opens → Prop) : Prop := ∀ X, Γ.Has X → ∃ wi : TI, PI X tg iter wi ∧ ∀ F σ H (Rv : It → Hp → Prop), Ext Γ.F0 F → Stt Γ.M.K F O H → EnvR Γ.M.K F ρ σ →
  (∀ F1 O1 H1 J n it, Ext F F1 → Stt Γ.M.K F1 O1 H1 → ItL Γ.M.K F1 L J n it → R n it O1 → Rv J H1) → wi σ H Rv
/-- an open list -/
theorem pi_lo {R : Nat → (Nat → Option D) → Opens → Prop} (h : We Γ iter ρ O fun d O1 => d = .raw (.ref q) ∧ O1 q = some (.lst ds) ∧ R ds.length (fun i => ds[i]?) O1) : PiL Γ tg iter ρ O (fun O' => O' q = some (.lst ds)) R := fun X hX => by
  refine ⟨_, pi_list (Ev.pe hX iter), fun F σ H Rv e0 s r k => (h F σ H e0 s r).mono fun v H1 ⟨d, F1, O1, e1, s1, r1, hd, ho, hq⟩ => ?_⟩
  subst hd
  cases r1
  obtain ⟨vs, g1, g2⟩ := s1.list ho
  refine ⟨q, rfl, ⟨vs, SqL.of g1⟩, k F1 O1 H1 _ _ _ e1 s1 ⟨fun H => ∃ ws, H q = some (.lst ws) ∧ ws.length = ds.length, fun i H x H' => H' = H ∧ ∃ ws, H q = some (.lst ws) ∧ ws[i]? = some x, ⟨fun i H hi ⟨ws, c1, c2⟩ => ?_, fun H ⟨ws, c1, c2⟩ => ⟨ws, SqL.of c1, Nat.le_of_eq c2⟩, fun i H x H' hi ⟨ws, c1, c2⟩ ⟨y1, y2⟩ => ⟨y1, ws, c1, y2 ws (SqL.of c1)⟩⟩, fun F2 O2 H2 _ s2 l => ?_, fun F2 O2 H2 i x H' _ s2 l hi ⟨y1, ws, c1, c2⟩ => ?_⟩ hq⟩
  · exact ⟨ws, _, SqL.of c1, List.getElem?_eq_getElem (by rw [c2]; exact hi)⟩
  · obtain ⟨ws, c1, c2⟩ := s2.list l
    exact ⟨ws, c1, c2.length.symm⟩
  · obtain ⟨us, b1, b2⟩ := s2.list l
    rw [c1] at b1
    cases b1
    obtain ⟨d, g1, g2⟩ := b2.back c2
    subst y1
    exact ⟨F2, d, Ext.refl F2, s2, g1, g2⟩
/-- the keys of a locked dict -/
theorem pi_lk {od : Obj} {kvs : List (Key × V)} {R : Nat → (Nat → Option D) → Opens → Prop} (h : We Γ iter ρ O fun d O1 => d = .raw (.ref q) ∧ O1 q = some (.lkd od kvs kz ds) ∧ R (kz.map keyD).length (fun i => (kz.map keyD)[i]?) O1) : PiL Γ tg iter ρ O (fun O' => O' q = some (.lkd od kvs kz ds)) R := fun X hX => by
  refine ⟨_, pi_keys (Ev.pe hX iter), fun F σ H Rv e0 s r k => (h F σ H e0 s r).mono fun v H1 ⟨d, F1, O1, e1, s1, r1, hd, ho, hq⟩ => ?_⟩
  subst hd
  cases r1
  obtain ⟨_, u, hu, ru, vs, rk, h2, h3⟩ := s1.opn q _ ho
  subst ru
  have hl : kvs.length = (kz.map keyD).length := by rw [rk, List.length_map, List.length_zip, h2, ← h3.length, Nat.min_self]
  refine ⟨q, od, rfl, .inl ⟨kvs, hu, k F1 O1 H1 _ _ _ e1 s1 ⟨_, _, hl ▸ walk_keys, fun F2 O2 H2 _ s2 l => ?_, fun F2 O2 H2 i x H' _ s2 l hi ⟨y1, k, w, y2, y3⟩ => ?_⟩ hq⟩⟩
  · obtain ⟨_, u, hu, ru, _⟩ := s2.opn q _ l
    rw [hu, ru]
  · subst y1 y3
    refine ⟨F2, keyD k, Ext.refl F2, s2, ?_, rep_key⟩
    rw [rk] at y2
    rw [List.getElem?_map, (List.getElem?_zip_eq_some.mp y2).1]; rfl
theorem ws_forL {L : Opens → Prop} (hh : Γ.hot = false) (h : PiL Γ tg iter ρ O L fun n it O1 => ∃ W, ForQ Γ tg body Z n it ρ O1 W ∧ ∀ i ρ' O', W i ρ' O' → L O') (hs : ∀ env x, foldedSetIterable iter env x = pure x := by intro _ _; rfl) : WS Γ (.For tg iter body [] pos) ρ O Z := fun F σ H e0 s r X hX pins st I => by
  obtain ⟨wi, h1, h2⟩ := h X hX
  refine (ps_for hX.passes (hX.calm hh) h1 (EvG.pg hX tg) (EvSs.pss hX body) (hs X.env)).run pins st σ H _ I (h2 F σ H _ e0 s r fun F1 O1 H1 J n it e1 s1 ⟨G, Y, w, g1, g2⟩ ⟨W, T, hW⟩ => ?_)
  refine for_it w (D := KE' Γ F Z) (fun i σ' H' => KS Γ F1 (W i) σ' H') (ks (Ext.refl F1) s1 (r.mono e1) T.start) (fun i σ' H' _ ⟨ρ', F', O', e2, s2, r2, w2⟩ => g1 F' O' H' e2.1 s2 (hW _ _ _ w2)) (fun i v σ' H' H2 hi ⟨ρ', F', O', e2, s2, r2, w2⟩ y => ?_) (fun σ' H' ⟨ρ', F', O', e2, s2, r2, w2⟩ => ks (e1.trans e2) s2 r2 (T.stop _ _ w2))
  obtain ⟨F3, d, e3, s3, hd, rd⟩ := g2 F' O' H' i v H2 e2.1 s2 (hW _ _ _ w2) hi y
  exact (for_turn T (F := F1) (e0.trans e1) hi hd (e2.trans e3) s3 (r2.mono e3) w2 rd).mono fun σ3 H3 q => q.mono (fun _ _ q => q) (fun _ _ q => KV'.mono e1 (fun _ _ q => q) q) (fun _ _ q => KS.mono e1 (fun _ _ q => q) q) (fun _ _ q => q)
theorem we_lcLo {L : Opens → Prop} (hh : Γ.hot = false) (ok : blkC Γ.N Γ.sc scope (ownS Γ.N scope) = true) (h : PiL Γ tg iter ρ O L fun n it O1 => ∃ W, LcQ Γ scope (ownN Γ.N scope) tg ifs elt n it ρ O1 (LcF Q) W ∧ ∀ i acc O', W i acc O' → L O') (hs : ∀ env x, foldedSetIterable iter env x = pure x := by intro _ _; rfl) : We Γ (.ListComp elt [⟨tg, iter, ifs, 0⟩] scope pos) ρ O Q := fun F σ H e0 s r X hX pins sh I => by
  obtain ⟨wi, h1, h2⟩ := h X hX
  refine (pe_lc (own := ownS Γ.N scope) (hX.calm hh) (by rw [hX.N]; exact hX.nd) h1 (by rw [hX.N, hX.sc]; exact blkOk_by ok) (fun s H C cl fp => bg_pg hX tg) (fun s H C cl fp => bi_pt hX ifs) (fun s H C cl fp => be_pe hX elt) (hs X.env)).run pins sh σ H _ I
    (h2 F σ H _ e0 s r fun F1 O1 H1 J n it e1 s1 ⟨G, Y, w, g1, g2⟩ ⟨W, T, hW⟩ => fun P hP => ?_)
  refine lc_it w (D := P) (fun i H' => LcS Γ.M.K F1 P (W i) H') (lc_start s1 hP T.start) (fun i H' _ ⟨F', O', acc, us, e2, s2, _, w2⟩ => g1 ⟨F'.z, upd F1.r P (.lst us)⟩ O' H' e2.1 s2 (hW _ _ _ w2)) (fun i v H' H2 hi ⟨F', O', acc, us, e2, s2, ra, w2⟩ y => ?_) (fun H' w => ?_)
  · obtain ⟨F3, d, e3, s3, hd, rd⟩ := g2 ⟨F'.z, upd F1.r P (.lst us)⟩ O' H' i v H2 e2.1 s2 (hW _ _ _ w2) hi y
    have er : F3.r = upd F1.r P (.lst us) := e3.2
    have s3' : Stt Γ.M.K ⟨F3.z, upd F1.r P (.lst us)⟩ O' H2 := by
      have : (⟨F3.z, upd F1.r P (.lst us)⟩ : Fr) = F3 := by rw [← er]
      rw [this]; exact s3
    have e13 : Ext F1 ⟨F3.z, F1.r⟩ := ⟨fun a o q => e3.1 a o (e2.1 a o q), rfl⟩
    exact lc_turn (F1 := F1) (F2 := ⟨F3.z, F1.r⟩) T hi hd (r.mono e1) e13 s3' (Reps.monoZ (F := F') (F' := ⟨F3.z, F1.r⟩) e3.1 _ _ ra) w2 (rep_z (F := F3) rfl rd)
  · have le := LcEnd.of s1 hP w T.stop
    exact KV'.at e1 (le.frozen fun _ _ q => q)
/-! ### what is open is forgotten; an open dict is shut -/
theorem Stt.less {K : PySem.W.Frag} {F : Fr} {O O₁ : Opens} {H : Hp} (S : Stt K F O H) (h : ∀ a o, O₁ a = some o → O a = some o) : Stt K F O₁ H :=
  ⟨S.ext, fun a o e => S.opn a o (h a o e), fun a o e => by
    obtain ⟨g1, g2, g3⟩ := S.rst a o e
    refine ⟨g1, ?_, g3⟩
    cases w : O₁ a with
    | none => rfl
    | some u => rw [h a u w] at g2; cases g2⟩
theorem we_less (h : We Γ e ρ O fun d O1 => ∃ O2 : Opens, (∀ a o, O2 a = some o → O1 a = some o) ∧ Q d O2) : We Γ e ρ O Q := fun F σ H e0 s r => (h F σ H e0 s r).mono fun v H1 ⟨d, F1, O1, e1, s1, r1, O2, l, q⟩ => ⟨d, F1, O2, e1, s1.less l, r1, q⟩
theorem wss_less {st : List Stmt} {O₁ : Opens} (l : ∀ a o, O₁ a = some o → O a = some o) (h : WSs Γ st ρ O₁ Z) : WSs Γ st ρ O Z := fun F σ H e0 s r => h F σ H e0 (s.less l) r
theorem we_shutD (h : We Γ e ρ O fun d O1 => ∃ p kz ds, d = .raw (.ref p) ∧ O1 p = some (.dic kz ds) ∧ Q (.dic kz ds) (O1.drop p)) : We Γ e ρ O Q := fun F σ H e0 s r => (h F σ H e0 s r).mono fun v H1 ⟨d, F1, O1, e1, s1, r1, p, kz, ds, hd, ho, q⟩ => by
  subst hd
  cases r1
  obtain ⟨h1, w, h2, vs, rfl, h3, h4⟩ := s1.opn p _ ho
  exact ⟨.dic kz ds, F1.add p (.dK (kz.zip vs)), O1.drop p, e1.trans (ext_add h1), s1.shut ho h2, ⟨p, vs, rfl, upd_same, h3, h4.mono (ext_add h1)⟩, q⟩
end
end DL

/-! DLZ: open lists asked and put together. -/
namespace DL
open PySem PySem.Spec PyProof.Rows L2
section
variable {Γ : G} {ρ : Env'} {O : Opens} {Z : EndsD} {Q : DK} {o e a b : Expr} {pos p : Pos}
/-- xs != [], the list open -/
theorem we_neE (h : We Γ a ρ O fun x O1 => We Γ b ρ O1 fun y O2 => ∃ q ds, x = .raw (.ref q) ∧ O2 q = some (.lst ds) ∧ (∀ d ∈ ds, Lay 60 d) ∧ y = .lst [] ∧ Q (.bl (!ds.isEmpty)) O2) (hm : behindInMarks .NotEq b = false := by first | exact nomark _ | rfl | with_unfolding_all rfl) : We Γ (.Compare a [.NotEq] [b] pos) ρ O Q := fun F σ H e0 s r X hX pins st I => by
  have hu : X.A.units + 64 < cLine := by have := hX.units; omega
  refine (pe_cmpR (op_neD hu) (Ev.pe hX a) (Ev.pe hX b) hm).run pins st σ H _ I ((h F σ H e0 s r).mono fun v H1 ⟨d, F1, O1, e1, s1, r1, q1⟩ => (q1 F1 σ H1 (e0.trans e1) s1 (r.mono e1)).mono fun w H2 ⟨d2, F2, O2, e2, s2, r2, q, ds, hd, ho, hl, hy, q3⟩ => ?_)
  subst hd hy
  cases r1
  obtain ⟨vs, g1, g2⟩ := s2.list ho
  obtain ⟨ps, c1, c2, c3⟩ := layS_of hl
  have rr := r2
  obtain ⟨b, ws, rfl, b1, b2⟩ := rr
  refine ⟨.list ps, .list [], .lst (SqL.of g1) (dps_of s2.ext ds vs ps c1 (hX.K ▸ g2)), dp_of s2.ext (.lst []) _ _ rfl (hX.K ▸ r2), ?_, rfl, kv1 (e1.trans e2) s2 rep_bl ?_⟩
  · show SeqAt.shaped (.list ps) = true
    unfold SeqAt.shaped
    have k1 : (PyData.list ps).canLay0 = true := by rw [PyData.canLay0]; exact c2
    have k2 : (PyData.list ps).depth ≤ 64 := by rw [PyData.depth]; omega
    rw [k1, decide_eq_true k2]; rfl
  · have key : PyData.eqv (.list ps) (.list []) = ds.isEmpty := by
      cases ds with
      | nil => cases c1; rfl
      | cons d ds =>
        have hp : ps ≠ [] := fun z => by
          subst z
          rw [toPys] at c1
          obtain ⟨p, _, c1⟩ := Option.bind_eq_some_iff.mp c1
          obtain ⟨q, _, c1⟩ := Option.map_eq_some_iff.mp c1
          cases c1
        cases ps with
        | nil => exact absurd rfl hp
        | cons p ps => rfl
    rw [key]
    exact q3
/-- xs + ys, xs open; what comes is open -/
theorem we_addO (h : We Γ a ρ O fun x O1 => We Γ b ρ O1 fun y O2 => ∃ q ds es, x = .raw (.ref q) ∧ O2 q = some (.lst ds) ∧ y = .lst es ∧ ds.length + es.length ≤ sizeLine ∧ ∀ p, O2 p = none → Q (.raw (.ref p)) (O2.up p (.lst (ds ++ es)))) : We Γ (.BinOp a .Add b pos) ρ O Q := fun F σ H e0 s r X hX pins st I => by
  refine (pe_op op_cat (Ev.pe hX a) (Ev.pe hX b)).run pins st σ H _ I ((h F σ H e0 s r).mono fun v H1 ⟨d, F1, O1, e1, s1, r1, q1⟩ => (q1 F1 σ H1 (e0.trans e1) s1 (r.mono e1)).mono fun w H2 ⟨d2, F2, O2, e2, s2, r2, q, ds, es, hd, ho, hy, hz, q3⟩ => ?_)
  subst hd hy
  cases r1
  obtain ⟨vs, g1, g2⟩ := s2.list ho
  obtain ⟨b, ws, rfl, b1, b2⟩ := r2
  exact ⟨q, b, vs, ws, rfl, rfl, g1, s2.ext _ _ b1, by rw [← g2.length, ← b2.length]; exact hz, fun l hl => KV'.at (e1.trans e2) (kv_opn s2 hl (g2.append b2) q3)⟩
/-- {} -/
theorem we_dic0 (h : ∀ q, O q = none → Q (.raw (.ref q)) (O.up q (.dic [] []))) : We Γ (.Dict [] [] pos) ρ O Q := fun F σ H e0 s r X hX pins st I => by
  refine pe_dnewK.run pins st σ H _ I fun q hq => ?_
  exact ⟨.raw (.ref q), F, O.up q (.dic [] []), Ext.refl F, s.open_ (u := .dic [] []) hq ⟨[], rfl, rfl, rfl⟩, rep_raw, h q (s.closed hq)⟩
end
section
variable {Γ : G} {ρ : Env'} {O : Opens} {scope : Scope} {own : List Nat} {tg elt c : Expr} {α : Type} {L : Opens → Prop}
theorem lc_mapL (xs : List α) (g : α → D) (f : α → D) {Ql : List D → Opens → Prop} (hl : xs.length ≤ sizeLine) (ht : ∀ (F0 : Fr) (x : α), x ∈ xs → WGo (blkG Γ scope F0) own tg (g x) (wipeD ρ own) O fun ρ2 O2 => We (blkG Γ scope F0) elt ρ2 O2 fun y O3 => y = f x ∧ O3 = O)
    (hL : L O) (h : Ql (xs.map f) O) : ∃ W, LcQ Γ scope own tg [] elt (xs.map g).length (fun i => (xs.map g)[i]?) ρ O Ql W ∧ ∀ i acc O', W i acc O' → L O' := by
  refine ⟨fun i acc O' => acc = (xs.take i).map f ∧ O' = O, ⟨⟨rfl, rfl⟩, fun F0 i d acc O' hi hd w => ?_, fun acc O' w => ?_⟩, fun i acc O' w => w.2 ▸ hL⟩
  · obtain ⟨w1, w2⟩ := w
    subst w2
    rw [List.length_map] at hi
    rw [List.getElem?_map] at hd
    obtain ⟨x, hx, rfl⟩ := Option.map_eq_some_iff.mp hd
    have hm := ht F0 x (List.mem_of_getElem? hx)
    have small : acc.length < sizeLine := by
      rw [w1, List.length_map, List.length_take]
      omega
    intro F σ H v e0 s r rv
    refine (hm F σ H v e0 s r rv).mono fun σ' H' ⟨w3, k⟩ => ⟨w3, KS.mono (Ext.refl F) (fun ρ2 O2 q => wi_nil (ift rfl (q.imp fun y O4 z => ⟨small, ?_, z.2⟩))) k⟩
    rw [z.1, w1, List.take_add_one, hx, List.map_append]; rfl
  · obtain ⟨w1, w2⟩ := w
    subst w2
    rw [List.length_map, List.take_length] at w1
    rw [w1]; exact h
theorem lc_filL (xs : List α) (g : α → D) (p : α → Bool) (f : α → D) {Ql : List D → Opens → Prop} (hl : xs.length ≤ sizeLine)
    (ht : ∀ (F0 : Fr) (x : α), x ∈ xs → WGo (blkG Γ scope F0) own tg (g x) (wipeD ρ own) O fun ρ2 O2 => WT (blkG Γ scope F0) c ρ2 O2 fun b O3 => b = p x ∧ O3 = O ∧ (p x = true → We (blkG Γ scope F0) elt ρ2 O fun y O4 => y = f x ∧ O4 = O))
    (hL : L O) (h : Ql ((xs.filter p).map f) O) : ∃ W, LcQ Γ scope own tg [c] elt (xs.map g).length (fun i => (xs.map g)[i]?) ρ O Ql W ∧ ∀ i acc O', W i acc O' → L O' := by
  refine ⟨fun i acc O' => acc = ((xs.take i).filter p).map f ∧ O' = O, ⟨⟨rfl, rfl⟩, fun F0 i d acc O' hi hd w => ?_, fun acc O' w => ?_⟩, fun i acc O' w => w.2 ▸ hL⟩
  · obtain ⟨w1, w2⟩ := w
    subst w2
    rw [List.length_map] at hi
    rw [List.getElem?_map] at hd
    obtain ⟨x, hx, rfl⟩ := Option.map_eq_some_iff.mp hd
    have hm := ht F0 x (List.mem_of_getElem? hx)
    have tk : xs.take (i + 1) = xs.take i ++ [x] := by rw [List.take_add_one, hx]; rfl
    have small : acc.length < sizeLine := by
      rw [w1, List.length_map]
      have a1 := List.length_filter_le p (xs.take i)
      rw [List.length_take] at a1
      omega
    intro F σ H v e0 s r rv
    refine (hm F σ H v e0 s r rv).mono fun σ' H' ⟨w3, k⟩ => ⟨w3, KS.mono (Ext.refl F) (fun ρ2 O2 q => wi_one (WT.imp (show WT _ c ρ2 O2 _ from q) fun b O3 ⟨hb, hO, hw⟩ => ?_)) k⟩
    subst hO
    cases b with
    | true =>
      rw [if_pos rfl]
      refine (hw hb.symm).imp fun y O4 z => ⟨small, ?_, z.2⟩
      rw [tk, List.filter_append, List.map_append, ← w1, List.filter_cons, if_pos hb.symm, z.1]; rfl
    | false =>
      rw [if_neg (by decide)]
      refine ⟨?_, rfl⟩
      rw [tk, List.filter_append, List.map_append, ← w1, List.filter_cons, if_neg (by rw [← hb]; decide)]; simp
  · obtain ⟨w1, w2⟩ := w
    subst w2
    rw [List.length_map, List.take_length] at w1
    rw [w1]; exact h
theorem for_stateL {Z : EndsD} {body : List Stmt} (xs : List α) (g : α → D) (inv : Nat → Env' → Opens → Prop) (h0 : inv 0 ρ O)
    (ht : ∀ (i : Nat) (x : α) (ρ' : Env') (O' : Opens), i < xs.length → xs[i]? = some x → inv i ρ' O' → WG Γ tg (g x) ρ' O' fun ρ2 O2 => WSs Γ body ρ2 O2 { Z with nx := inv (i + 1), ct := inv (i + 1), bk := Z.nx })
    (hL : ∀ i ρ' O', inv i ρ' O' → L O') (h : ∀ ρ' O', inv xs.length ρ' O' → Z.nx ρ' O') : ∃ W, ForQ Γ tg body Z (xs.map g).length (fun i => (xs.map g)[i]?) ρ O W ∧ ∀ i ρ' O', W i ρ' O' → L O' := by
  refine ⟨inv, ⟨h0, fun i d ρ' O' hi hd w => ?_, fun ρ' O' w => h ρ' O' (by rw [List.length_map] at w; exact w)⟩, hL⟩
  rw [List.length_map] at hi
  rw [List.getElem?_map] at hd
  obtain ⟨x, hx, rfl⟩ := Option.map_eq_some_iff.mp hd
  exact ht i x ρ' O' hi hx w
end
section
variable {Γ : G} {ρ : Env'} {O : Opens} {Z : EndsD}
/-- what is open is less than .. -/
def OLe (O O' : Opens) : Prop := ∀ a o, O a = some o → O' a = some o
theorem OLe.refl {O : Opens} : OLe O O := fun _ _ h => h
theorem OLe.trans {O O1 O2 : Opens} (h : OLe O O1) (k : OLe O1 O2) : OLe O O2 := fun a o e => k a o (h a o e)
theorem OLe.up {O : Opens} {p : Addr} {u : OO} (h : O p = none) : OLe O (O.up p u) := fun a o e => by
  rw [Opens.up_ne (fun z => by rw [z, h] at e; cases e)]; exact e
theorem OLe.up2 {O O' : Opens} {p : Addr} {u : OO} (h : OLe O O') (k : O p = none) : OLe O (O'.up p u) := fun a o e => by
  rw [Opens.up_ne (fun z => by rw [z, k] at e; cases e)]; exact h a o e
theorem OLe.upb {O O' : Opens} {p : Addr} {u : OO} (h : OLe O O') : OLe (O.up p u) (O'.up p u) := fun a o e => by
  by_cases c : a = p
  · rw [c, Opens.up_same] at e ⊢; exact e
  · rw [Opens.up_ne c] at e ⊢; exact h a o e
/-- what is returned may leave more open -/
theorem wss_rt {st : List Stmt} (h : WSs Γ st ρ O { Z with rt := fun d O1 => ∃ O2, OLe O2 O1 ∧ Z.rt d O2 }) : WSs Γ st ρ O Z := fun F σ H e0 s r =>
  (h F σ H e0 s r).mono (fun _ _ q => q) (fun v H1 ⟨d, F1, O1, e1, s1, r1, O2, l, q⟩ => ⟨d, F1, O2, e1, s1.less l, r1, q⟩) (fun _ _ q => q) fun _ _ q => q
end
end DL

/-! DM1: sorted of pairs of ints; in by value. -/
namespace DL
open PySem PySem.Spec PyProof.Rows L2
def pairD (p : Int × Int) : D := .tup [.int p.1, .int p.2]
open Classical in
noncomputable def kP (h : Heap) (w : Value) : Int × Int := if q : ∃ p : Int × Int, Srt.IsPair h w p.1 p.2 then Classical.choose q else (0, 0)
theorem isPair_uniq {h : Heap} {w : Value} {i j i' j' : Int} (a : Srt.IsPair h w i j) (b : Srt.IsPair h w i' j') : i = i' ∧ j = j' := by
  obtain ⟨t, o, t1, t2, n, rfl, h1, h2, h3⟩ := a
  obtain ⟨t', o', t1', t2', n', e, h1', h2', h3'⟩ := b
  cases e
  rw [h1] at h1'
  cases h1'
  rw [h3] at h3'
  cases h3'
  exact ⟨rfl, rfl⟩
theorem kP_eq {h : Heap} {w : Value} {p : Int × Int} (a : Srt.IsPair h w p.1 p.2) : kP h w = p := by
  have q : ∃ p : Int × Int, Srt.IsPair h w p.1 p.2 := ⟨p, a⟩
  unfold kP
  rw [dif_pos q]
  obtain ⟨e1, e2⟩ := isPair_uniq (Classical.choose_spec q) a
  exact Prod.ext e1 e2
def SrtPQ : DC := fun ds O Q => ∃ d xs, ds = [d] ∧ (d = .lst (xs.map pairD) ∨ ∃ q, d = .raw (.ref q) ∧ O q = some (.lst (xs.map pairD))) ∧ ∀ ys : List (Int × Int), ys.Perm xs → ys.Pairwise (fun a b => SrtO.lexB b a = false) → Q (.lst (ys.map pairD)) O
section
variable {Γ : G} {ρ : Env'} {O : Opens} {Z : EndsD} {Q : DK} {σ : L2.St} {H : Hp} {F : Fr} {x : Str} {a b e : Expr} {pos p : Pos}
theorem pair_at {X : Cx} (hX : Γ.Has X) {pins : List (Addr × Obj)} {s : Shared} (I : Inv X pins σ H s) (S : Stt Γ.M.K F O H) {q : Int × Int} {v : V} (r : Rep Γ.M.K F (pairD q) v) : ∃ t, v = .ref t ∧ Srt.IsPair s.heap (.ref t) q.1 q.2 := by
  have hK := hX.K
  obtain ⟨t, vs, rfl, g1, g2⟩ := r
  refine ⟨t, rfl, ?_⟩
  have ev : vs = [.int q.1, .int q.2] := by
    obtain ⟨v1, v2, rfl, r1, r2⟩ := reps2 g2
    cases r1; cases r2; rfl
  subst ev
  rcases g1 with (g1 | ⟨o, g1⟩) | ⟨o, its, n, g1, g3, g4, g5, g6⟩
  · obtain ⟨_, its2, r2, o, ho, hc, n, hd⟩ := I.hok _ _ (S.ext _ _ g1)
    obtain ⟨u1, u2, rfl, ⟨t1, rfl⟩, ⟨t2, rfl⟩⟩ := vals2 r2
    exact ⟨t, o, t1, t2, n, rfl, ho, hc, hd⟩
  · obtain ⟨hq, hz, its, rr, o', h1', h2', n, h3'⟩ := I.hok t _ (S.ext _ _ g1)
    obtain ⟨u1, u2, rfl, ⟨t1, rfl⟩, ⟨t2, rfl⟩⟩ := vals2 rr
    exact ⟨t, o', t1, t2, n, rfl, h1', h2', h3'⟩
  · obtain ⟨u1, u2, e, ⟨t1, rfl⟩, ⟨t2, rfl⟩⟩ := vals2 g6
    have e4 : its = #[.int q.1 t1, .int q.2 t2] := by rw [← Array.toList_inj, e]
    subst e4
    exact ⟨t, o, t1, t2, n, rfl, I.kIn t _ (show X.K.lookup t = some _ from hK ▸ g1), g3, g4⟩
theorem pairs_all {X : Cx} (hX : Γ.Has X) {pins : List (Addr × Obj)} {s : Shared} (I : Inv X pins σ H s) (S : Stt Γ.M.K F O H) : ∀ (xs : List (Int × Int)) (ws : List V) (its : List Value), Reps Γ.M.K F (xs.map pairD) ws → Vals ws its → its.map (kP s.heap) = xs ∧ ∀ u ∈ its, Srt.IsPair s.heap u (kP s.heap u).1 (kP s.heap u).2 ∧ Rep Γ.M.K F (pairD (kP s.heap u)) (backV u) ∧ ∃ a, u = .ref a
  | [], ws, its, h, r => by
    cases (show ws = [] from h)
    cases r
    exact ⟨rfl, fun u hu => nomatch hu⟩
  | q :: xs, ws, its, h, r => by
    obtain ⟨v, t, rfl, h1, h2⟩ := h
    cases r with
    | @cons _ w _ its rv rt =>
      obtain ⟨k1, k2⟩ := pairs_all hX I S xs t its h2 rt
      obtain ⟨ad, rfl, ip⟩ := pair_at hX I S h1
      have ew : w = .ref ad := rv
      subst ew
      have ek := kP_eq ip
      refine ⟨by rw [List.map_cons, ek, k1], fun u hu => ?_⟩
      rcases List.mem_cons.mp hu with rfl | hu
      · rw [ek]
        exact ⟨ip, h1, ad, rfl⟩
      · exact k2 u hu
theorem srtP_ok {X : Cx} (hX : Γ.Has X) : CallD Γ X (.builtin "sorted") SrtPQ := by
  intro F O ds Q pins s σ H vs us I rv e0 S rd ⟨d, xs, e, hd, q⟩
  subst e
  obtain ⟨v, rfl, r⟩ := reps1 rd
  have key : ∃ a ws, v = V.ref a ∧ H a = some (.lst ws) ∧ Reps Γ.M.K F (xs.map pairD) ws := by
    rcases hd with rfl | ⟨q, rfl, ho⟩
    · obtain ⟨a, ws, rfl, g1, g2⟩ := r
      exact ⟨a, ws, rfl, S.ext _ _ g1, g2⟩
    · cases r
      obtain ⟨ws, g1, g2⟩ := S.list ho
      exact ⟨q, ws, rfl, g1, g2⟩
  obtain ⟨a, ws, rfl, ha, rr⟩ := key
  obtain ⟨its, rv2, hl, hz⟩ := I.list (SqL.of ha)
  obtain ⟨u, rfl, ru⟩ := vals1 rv
  obtain rfl : u = Value.ref a := ru
  obtain ⟨k1, k2⟩ := pairs_all hX I S xs ws its rr rv2
  refine SrtO.sorted_pairsO (k := kP s.heap) hl.isList (by rw [← rv2.length]; exact hz) (fun v hv => (k2 v hv).1) fun h' d out h1 h2 kp hd hn => ?_
  have hm : ∀ u ∈ out, u ∈ its := fun u hu => h2.perm.mem_iff.mp hu
  have h3 : ∀ u ∈ out, ∃ a, u = Value.ref a := fun u hu => (k2 u (hm u hu)).2.2
  obtain ⟨n, hn⟩ := hn
  have hp : H d = none := I.hok.fresh hd
  have rep : Reps Γ.M.K F ((out.map (kP s.heap)).map pairD) (out.map backV) := by
    have gen : ∀ l : List Value, (∀ u ∈ l, u ∈ its) → Reps Γ.M.K F ((l.map (kP s.heap)).map pairD) (l.map backV) := by
      intro l
      induction l with
      | nil => intro _; exact rfl
      | cons u l ih => intro h; exact Reps.cons (k2 u (h u List.mem_cons_self)).2.1 (ih fun w hw => h w (List.mem_cons_of_mem _ hw))
    exact gen out hm
  refine ⟨.ref d, upd H d (.lst (out.map backV)), I.laid (t' := s.toks) kp hd ⟨?_, out, n, vals_back h3, hn⟩, rfl, kv_lst S hp rep (q _ ?_ ?_)⟩
  · rw [List.length_map, h2.perm.length_eq, ← rv2.length]; exact hz
  · rw [← k1]
    exact h2.perm.map _
  · rw [List.pairwise_map]
    exact h1
theorem we_srtP (B : Blt Γ.M) (hg : GlN Γ "sorted") (h : We Γ e ρ O fun d O1 => SrtPQ [d] O1 Q) (h1 : ∀ env, starEach [e] env = (false, eval e env) :: starEach [] env := by intro _; rfl) : We Γ (.Call (.Name "sorted" p) [e] [] pos) ρ O Q :=
  we_blt (fun X hX => srtP_ok hX) hg B.sorted PyProof.Rows.boot_sorted (one_arg h h1) (he := h1)
/-! ### in, by value -/
def inE (x : D) (ys : List D) : Bool := ys.any fun z => eqD z x
theorem any_py {x : D} {p : PyData} (hx : toPy x = some p) : ∀ {ys : List D} {ps : List PyData}, toPys ys = some ps → (ps.any fun z => PyData.eqv z p) = inE x ys
  | [], ps, h => by cases h; rfl
  | y :: ys, ps, h => by
    rw [toPys] at h
    obtain ⟨a, ha, h⟩ := Option.bind_eq_some_iff.mp h
    obtain ⟨b, hb, rfl⟩ := Option.map_eq_some_iff.mp h
    unfold inE
    rw [List.any_cons, List.any_cons]
    congr 1
    · unfold eqD; rw [ha, hx]
    · exact any_py hx hb
theorem we_ninE (h : We Γ a ρ O fun x O1 => We Γ b ρ O1 fun y O2 => ∃ ds, (y = .lst ds ∨ ∃ q, y = .raw (.ref q) ∧ O2 q = some (.lst ds)) ∧ Lay 60 x ∧ (∀ d ∈ ds, Lay 60 d) ∧ Q (.bl (!inE x ds)) O2) (hm : behindInMarks .NotIn b = false := by first | exact nomark _ | rfl | with_unfolding_all rfl) : We Γ (.Compare a [.NotIn] [b] pos) ρ O Q := fun F σ H e0 s r X hX pins st I => by
  have hu : X.A.units + 65 < cLine := by have := hX.units; omega
  refine (pe_cmpR (op_notInD hu) (Ev.pe hX a) (Ev.pe hX b) hm).run pins st σ H _ I ((h F σ H e0 s r).mono fun v H1 ⟨d, F1, O1, e1, s1, r1, q1⟩ => (q1 F1 σ H1 (e0.trans e1) s1 (r.mono e1)).mono fun w H2 ⟨d2, F2, O2, e2, s2, r2, ds, hd, hx, hl, q3⟩ => ?_)
  obtain ⟨p, a1, a2, a3⟩ := hx
  obtain ⟨ps, c1, c2, c3⟩ := layS_of hl
  have key : Dp X.K H2 w (.list ps) := by
    rcases hd with rfl | ⟨q, rfl, ho⟩
    · exact hX.K ▸ dp_of s2.ext (.lst ds) w (.list ps) (by rw [toPy, c1]; rfl) r2
    · cases r2
      obtain ⟨vs, g1, g2⟩ := s2.list ho
      exact .lst (SqL.of g1) (dps_of s2.ext ds vs ps c1 (hX.K ▸ g2))
  refine ⟨p, ps, dp_of s2.ext d v p a1 (hX.K ▸ r1.mono e2), key, ?_, ?_, kv1 (e1.trans e2) s2 rep_bl ?_⟩
  · unfold SeqAt.shaped
    rw [a2, decide_eq_true (show p.depth ≤ 64 by omega)]; rfl
  · unfold SeqAt.shaped
    have k1 : (PyData.list ps).canLay0 = true := by rw [PyData.canLay0]; exact c2
    have k2 : (PyData.list ps).depth ≤ 64 := by rw [PyData.depth]; omega
    rw [k1, decide_eq_true k2]; rfl
  · rw [any_py a1 c1]; exact q3
end
end DL

/-! DM2: list(..) left open; more small forms. -/
namespace DL
open PySem PySem.Spec PyProof.Rows L2
section
variable {Γ : G} {ρ : Env'} {O : Opens} {Z : EndsD} {Q : DK} {σ : L2.St} {H : Hp} {F : Fr} {x : Str} {a b e : Expr} {pos p : Pos}
/-- list(e), left open -/
def LstOQ : DC := fun ds O Q => ∃ d xs, ds = [d] ∧ (d = .tup xs ∨ d = .lst xs ∨ d = .rls xs ∨ ∃ q, d = .raw (.ref q) ∧ O q = some (.lst xs)) ∧ ∀ p, O p = none → Q (.raw (.ref p)) (O.up p (.lst xs))
theorem lstO_ok {X : Cx} (hX : Γ.Has X) : CallD Γ X (.type "list") LstOQ := by
  intro F O ds Q pins s σ H vs us I rv e0 S rd ⟨d, xs, e, hd, q⟩
  have hK := hX.K
  subst e
  rcases hd with rfl | rfl | rfl | ⟨q', rfl, ho⟩
  · obtain ⟨v, rfl, a, ys, rfl, h1, h2⟩ := reps1 rd
    exact call_list_of pins s σ H _ _ _ I rv ⟨a, ys, rfl, .inr (S.ext.seqT (hK ▸ h1)), fun l hl => kv_opn S hl h2 q⟩
  · obtain ⟨v, rfl, a, ys, rfl, h1, h2⟩ := reps1 rd
    exact call_list_of pins s σ H _ _ _ I rv ⟨a, ys, rfl, .inl (SqL.of (S.ext _ _ h1)), fun l hl => kv_opn S hl h2 q⟩
  · obtain ⟨v, rfl, a, ys, rfl, h1, h2⟩ := reps1 rd
    exact call_list_of pins s σ H _ _ _ I rv ⟨a, ys, rfl, .inl (S.ext.seqL (hK ▸ h1)), fun l hl => kv_opn S hl h2 q⟩
  · obtain ⟨v, rfl, r⟩ := reps1 rd
    cases r
    obtain ⟨ws, h1, h2⟩ := S.list ho
    exact call_list_of pins s σ H _ _ _ I rv ⟨_, ws, rfl, .inl (SqL.of h1), fun l hl => kv_opn S hl h2 q⟩
theorem we_listO (B : Blt Γ.M) (hg : GlN Γ "list") (h : We Γ e ρ O fun d O1 => LstOQ [d] O1 Q) (h1 : ∀ env, starEach [e] env = (false, eval e env) :: starEach [] env := by intro _; rfl) : We Γ (.Call (.Name "list" p) [e] [] pos) ρ O Q :=
  we_typ (fun X hX => lstO_ok hX) hg B.list PySem.Pv.boot_list (one_arg h h1) (he := h1)
/-- .. as a test -/
theorem wt_neE {Q : Bool → Opens → Prop} (h : We Γ a ρ O fun x O1 => We Γ b ρ O1 fun y O2 => ∃ q ds, x = .raw (.ref q) ∧ O2 q = some (.lst ds) ∧ (∀ d ∈ ds, Lay 60 d) ∧ y = .lst [] ∧ Q (!ds.isEmpty) O2) (hm : behindInMarks .NotEq b = false := by first | exact nomark _ | rfl | with_unfolding_all rfl) : WT Γ (.Compare a [.NotEq] [b] pos) ρ O Q := fun F σ H e0 s r X hX pins st I => by
  have hu : X.A.units + 64 < cLine := by have := hX.units; omega
  refine (pt_cmpR (op_neD hu) (Ev.pe hX a) (Ev.pe hX b) hm).run pins st σ H _ I ((h F σ H e0 s r).mono fun v H1 ⟨d, F1, O1, e1, s1, r1, q1⟩ => (q1 F1 σ H1 (e0.trans e1) s1 (r.mono e1)).mono fun w H2 ⟨d2, F2, O2, e2, s2, r2, q, ds, hd, ho, hl, hy, q3⟩ => ?_)
  subst hd hy
  cases r1
  obtain ⟨vs, g1, g2⟩ := s2.list ho
  obtain ⟨ps, c1, c2, c3⟩ := layS_of hl
  have rr := r2
  obtain ⟨b, ws, rfl, b1, b2⟩ := rr
  refine ⟨.list ps, .list [], .lst (SqL.of g1) (dps_of s2.ext ds vs ps c1 (hX.K ▸ g2)), dp_of s2.ext (.lst []) _ _ rfl (hX.K ▸ r2), ?_, rfl, _, rfl, F2, O2, e1.trans e2, s2, ?_⟩
  · show SeqAt.shaped (.list ps) = true
    unfold SeqAt.shaped
    have k1 : (PyData.list ps).canLay0 = true := by rw [PyData.canLay0]; exact c2
    have k2 : (PyData.list ps).depth ≤ 64 := by rw [PyData.depth]; omega
    rw [k1, decide_eq_true k2]; rfl
  · have key : PyData.eqv (.list ps) (.list []) = ds.isEmpty := by
      cases ds with
      | nil => cases c1; rfl
      | cons d ds =>
        have hp : ps ≠ [] := fun z => by
          subst z
          rw [toPys] at c1
          obtain ⟨p, _, c1⟩ := Option.bind_eq_some_iff.mp c1
          obtain ⟨q, _, c1⟩ := Option.map_eq_some_iff.mp c1
          cases c1
        cases ps with
        | nil => exact absurd rfl hp
        | cons p ps => rfl
    rw [key]
    exact q3
/-- a in b, b a dict, as a test -/
theorem wt_inK {Q : Bool → Opens → Prop} (h : We Γ a ρ O fun y O1 => We Γ b ρ O1 fun x O2 => ∃ kz ds k, DicO O2 x kz ds ∧ y = keyD k ∧ Q (kz.any fun c => decide (c = k)) O2) (hm : behindInMarks .In b = false := by first | exact nomark _ | rfl | with_unfolding_all rfl) : WT Γ (.Compare a [.In] [b] pos) ρ O Q := fun F σ H e0 s r X hX pins st I => by
  refine (pt_cmp (pc_din (by have := hX.units; omega) (Ev.pe hX a) (Ev.pe hX b)) hm).run pins st σ H _ I ((h F σ H e0 s r).mono fun y H1 ⟨dy, F1, O1, e1, s1, ry, q1⟩ => ?_)
  refine (q1 F1 σ H1 (e0.trans e1) s1 (r.mono e1)).mono fun w H2 ⟨dw, F2, O2, e2, s2, rw', kz, ds, k', hd, hk, q2⟩ => ?_
  subst hk
  obtain ⟨a', vs, rfl, g1, g2, g3⟩ := dic_rd s2 rw' hd
  have ek : y = kV k' := by cases k' <;> exact ry
  subst ek
  refine ⟨a', valV (kz.zip vs) k', rfl, .inl ⟨_, k', g1, rfl, rfl⟩, _, rfl, F2, O2, e1.trans e2, s2, ?_⟩
  rw [val_zip (by rw [g2, g3.length])]
  exact q2
theorem wt_ninK {Q : Bool → Opens → Prop} (h : We Γ a ρ O fun y O1 => We Γ b ρ O1 fun x O2 => ∃ kz ds k, DicO O2 x kz ds ∧ y = keyD k ∧ Q (!kz.any fun c => decide (c = k)) O2) (hm : behindInMarks .NotIn b = false := by first | exact nomark _ | rfl | with_unfolding_all rfl) : WT Γ (.Compare a [.NotIn] [b] pos) ρ O Q := fun F σ H e0 s r X hX pins st I => by
  refine (pt_cmp (pc_dnotin (by have := hX.units; omega) (Ev.pe hX a) (Ev.pe hX b)) hm).run pins st σ H _ I ((h F σ H e0 s r).mono fun y H1 ⟨dy, F1, O1, e1, s1, ry, q1⟩ => ?_)
  refine (q1 F1 σ H1 (e0.trans e1) s1 (r.mono e1)).mono fun w H2 ⟨dw, F2, O2, e2, s2, rw', kz, ds, k', hd, hk, q2⟩ => ?_
  subst hk
  obtain ⟨a', vs, rfl, g1, g2, g3⟩ := dic_rd s2 rw' hd
  have ek : y = kV k' := by cases k' <;> exact ry
  subst ek
  refine ⟨a', valV (kz.zip vs) k', rfl, .inl ⟨_, k', g1, rfl, rfl⟩, _, rfl, F2, O2, e1.trans e2, s2, ?_⟩
  rw [val_zip (by rw [g2, g3.length])]
  exact q2
theorem wt_ninE {Q : Bool → Opens → Prop} (h : We Γ a ρ O fun x O1 => We Γ b ρ O1 fun y O2 => ∃ ds, (y = .lst ds ∨ ∃ q, y = .raw (.ref q) ∧ O2 q = some (.lst ds)) ∧ Lay 60 x ∧ (∀ d ∈ ds, Lay 60 d) ∧ Q (!inE x ds) O2) (hm : behindInMarks .NotIn b = false := by first | exact nomark _ | rfl | with_unfolding_all rfl) : WT Γ (.Compare a [.NotIn] [b] pos) ρ O Q := fun F σ H e0 s r X hX pins st I => by
  have hu : X.A.units + 65 < cLine := by have := hX.units; omega
  refine (pt_cmpR (op_notInD hu) (Ev.pe hX a) (Ev.pe hX b) hm).run pins st σ H _ I ((h F σ H e0 s r).mono fun v H1 ⟨d, F1, O1, e1, s1, r1, q1⟩ => (q1 F1 σ H1 (e0.trans e1) s1 (r.mono e1)).mono fun w H2 ⟨d2, F2, O2, e2, s2, r2, ds, hd, hx, hl, q3⟩ => ?_)
  obtain ⟨p, a1, a2, a3⟩ := hx
  obtain ⟨ps, c1, c2, c3⟩ := layS_of hl
  have key : Dp X.K H2 w (.list ps) := by
    rcases hd with rfl | ⟨q, rfl, ho⟩
    · exact hX.K ▸ dp_of s2.ext (.lst ds) w (.list ps) (by rw [toPy, c1]; rfl) r2
    · cases r2
      obtain ⟨vs, g1, g2⟩ := s2.list ho
      exact .lst (SqL.of g1) (dps_of s2.ext ds vs ps c1 (hX.K ▸ g2))
  refine ⟨p, ps, dp_of s2.ext d v p a1 (hX.K ▸ r1.mono e2), key, ?_, ?_, _, rfl, F2, O2, e1.trans e2, s2, ?_⟩
  · unfold SeqAt.shaped
    rw [a2, decide_eq_true (show p.depth ≤ 64 by omega)]; rfl
  · unfold SeqAt.shaped
    have k1 : (PyData.list ps).canLay0 = true := by rw [PyData.canLay0]; exact c2
    have k2 : (PyData.list ps).depth ≤ 64 := by rw [PyData.depth]; omega
    rw [k1, decide_eq_true k2]; rfl
  · rw [any_py a1 c1]; exact q3
end
end DL

/-! DM3: comprehensions over open lists of things as they are. -/
namespace DL
open PySem PySem.Spec PyProof.Rows L2
section
variable {Γ : G} {ρ : Env'} {O : Opens} {scope : Scope} {own : List Nat} {tg elt c : Expr} {L : Opens → Prop}
theorem lc_mapLD (xs : List D) (f : D → D) {Ql : List D → Opens → Prop} (hl : xs.length ≤ sizeLine) (ht : ∀ (F0 : Fr) (x : D), x ∈ xs → WGo (blkG Γ scope F0) own tg x (wipeD ρ own) O fun ρ2 O2 => We (blkG Γ scope F0) elt ρ2 O2 fun y O3 => y = f x ∧ O3 = O)
    (hL : L O) (h : Ql (xs.map f) O) : ∃ W, LcQ Γ scope own tg [] elt xs.length (fun i => xs[i]?) ρ O Ql W ∧ ∀ i acc O', W i acc O' → L O' := by
  have k := lc_mapL (Γ := Γ) (ρ := ρ) (O := O) (scope := scope) (own := own) (tg := tg) (elt := elt) (L := L) (Ql := Ql) xs id f hl ht hL h
  rw [List.map_id] at k
  exact k
theorem lc_filLD (xs : List D) (p : D → Bool) (f : D → D) {Ql : List D → Opens → Prop} (hl : xs.length ≤ sizeLine)
    (ht : ∀ (F0 : Fr) (x : D), x ∈ xs → WGo (blkG Γ scope F0) own tg x (wipeD ρ own) O fun ρ2 O2 => WT (blkG Γ scope F0) c ρ2 O2 fun b O3 => b = p x ∧ O3 = O ∧ (p x = true → We (blkG Γ scope F0) elt ρ2 O fun y O4 => y = f x ∧ O4 = O))
    (hL : L O) (h : Ql ((xs.filter p).map f) O) : ∃ W, LcQ Γ scope own tg [c] elt xs.length (fun i => xs[i]?) ρ O Ql W ∧ ∀ i acc O', W i acc O' → L O' := by
  have k := lc_filL (Γ := Γ) (ρ := ρ) (O := O) (scope := scope) (own := own) (tg := tg) (elt := elt) (c := c) (L := L) (Ql := Ql) xs id p f hl ht hL h
  rw [List.map_id] at k
  exact k
end
section
variable {Γ : G} {ρ : Env'} {O : Opens} {Q : DK} {scope : Scope} {tg iter elt : Expr} {ifs : List Expr} {pos : Pos}
theorem itl_open {K : PySem.W.Frag} {F1 : Fr} {O1 : Opens} {H1 : Hp} {q : Addr} {ds : List D} (s1 : Stt K F1 O1 H1) (ho : O1 q = some (.lst ds)) : ItL K F1 (fun O' => O' q = some (.lst ds)) (Itl K q) ds.length (fun i => ds[i]?) := by
  refine ⟨fun H => ∃ ws, H q = some (.lst ws) ∧ ws.length = ds.length, fun i H x H' => H' = H ∧ ∃ ws, H q = some (.lst ws) ∧ ws[i]? = some x, ⟨fun i H hi ⟨ws, c1, c2⟩ => ?_, fun H ⟨ws, c1, c2⟩ => ⟨ws, SqL.of c1, Nat.le_of_eq c2⟩, fun i H x H' hi ⟨ws, c1, c2⟩ ⟨y1, y2⟩ => ⟨y1, ws, c1, y2 ws (SqL.of c1)⟩⟩, fun F2 O2 H2 _ s2 l => ?_, fun F2 O2 H2 i x H' _ s2 l hi ⟨y1, ws, c1, c2⟩ => ?_⟩
  · exact ⟨ws, _, SqL.of c1, List.getElem?_eq_getElem (by rw [c2]; exact hi)⟩
  · obtain ⟨ws, c1, c2⟩ := s2.list l
    exact ⟨ws, c1, c2.length.symm⟩
  · obtain ⟨us, b1, b2⟩ := s2.list l
    rw [c1] at b1
    cases b1
    obtain ⟨d, g1, g2⟩ := b2.back c2
    subst y1
    exact ⟨F2, d, Ext.refl F2, s2, g1, g2⟩
/-- over an open list that stays -/
theorem we_lcOp (hh : Γ.hot = false) (ok : blkC Γ.N Γ.sc scope (ownS Γ.N scope) = true) (h : We Γ iter ρ O fun d O1 => ∃ q ds, d = .raw (.ref q) ∧ O1 q = some (.lst ds) ∧ ∃ W, LcQ Γ scope (ownN Γ.N scope) tg ifs elt ds.length (fun i => ds[i]?) ρ O1 (LcF Q) W ∧ ∀ i acc O', W i acc O' → O' q = some (.lst ds)) (hs : ∀ env x, foldedSetIterable iter env x = pure x := by intro _ _; rfl) : We Γ (.ListComp elt [⟨tg, iter, ifs, 0⟩] scope pos) ρ O Q := fun F σ H e0 s r X hX pins sh I => by
  refine (pe_lc (own := ownS Γ.N scope) (hX.calm hh) (by rw [hX.N]; exact hX.nd) (pi_list (Ev.pe hX iter)) (by rw [hX.N, hX.sc]; exact blkOk_by ok) (fun s H C cl fp => bg_pg hX tg) (fun s H C cl fp => bi_pt hX ifs) (fun s H C cl fp => be_pe hX elt) (hs X.env)).run pins sh σ H _ I
    ((h F σ H e0 s r).mono fun v H1 ⟨d, F1, O1, e1, s1, r1, q, ds, hd, ho, W, T, hW⟩ => ?_)
  subst hd
  cases r1
  obtain ⟨vs, k1, k2⟩ := s1.list ho
  obtain ⟨G, Y, w, g1, g2⟩ := itl_open (K := X.K) (hX.K ▸ s1) ho
  have g2 : ∀ F2 O2 H2 i x H', (∀ a o, F1.z a = some o → F2.z a = some o) → Stt Γ.M.K F2 O2 H2 → O2 q = some (.lst ds) → i < ds.length → Y i H2 x H' → ∃ F3 d, Ext F2 F3 ∧ Stt Γ.M.K F3 O2 H' ∧ ds[i]? = some d ∧ Rep Γ.M.K F3 d x := by rw [hX.K]; exact g2
  have g1 : ∀ F2 O2 H2, (∀ a o, F1.z a = some o → F2.z a = some o) → Stt Γ.M.K F2 O2 H2 → O2 q = some (.lst ds) → G H2 := by rw [hX.K]; exact g1
  refine ⟨q, rfl, ⟨vs, SqL.of k1⟩, fun P hP => ?_⟩
  refine lc_it w (D := P) (fun i H' => LcS Γ.M.K F1 P (W i) H') (lc_start s1 hP T.start) (fun i H' _ ⟨F', O', acc, us, e2, s2, _, w2⟩ => g1 ⟨F'.z, upd F1.r P (.lst us)⟩ O' H' e2.1 s2 (hW _ _ _ w2)) (fun i v H' H2 hi ⟨F', O', acc, us, e2, s2, ra, w2⟩ y => ?_) (fun H' w => ?_)
  · obtain ⟨F3, d, e3, s3, hd, rd⟩ := g2 ⟨F'.z, upd F1.r P (.lst us)⟩ O' H' i v H2 e2.1 s2 (hW _ _ _ w2) hi y
    have er : F3.r = upd F1.r P (.lst us) := e3.2
    have s3' : Stt Γ.M.K ⟨F3.z, upd F1.r P (.lst us)⟩ O' H2 := by
      have : (⟨F3.z, upd F1.r P (.lst us)⟩ : Fr) = F3 := by rw [← er]
      rw [this]; exact s3
    have e13 : Ext F1 ⟨F3.z, F1.r⟩ := ⟨fun a o q => e3.1 a o (e2.1 a o q), rfl⟩
    exact lc_turn (F1 := F1) (F2 := ⟨F3.z, F1.r⟩) T hi hd (r.mono e1) e13 s3' (Reps.monoZ (F := F') (F' := ⟨F3.z, F1.r⟩) e3.1 _ _ ra) w2 (rep_z (F := F3) rfl rd)
  · have le := LcEnd.of s1 hP w T.stop
    exact KV'.at e1 (le.frozen fun _ _ q => q)
end
end DL

/-! DM4: comprehensions over one thing, over two; what is open may change. -/
namespace DL
open PySem PySem.Spec PyProof.Rows L2
section
variable {Γ : G} {ρ : Env'} {O : Opens} {scope : Scope} {own : List Nat} {tg elt : Expr} {x1 x2 : D}
theorem lc_one {Ql : List D → Opens → Prop} (P1 : D → Opens → Prop) (h1 : ∀ F0 : Fr, WGo (blkG Γ scope F0) own tg x1 (wipeD ρ own) O fun ρ2 O2 => We (blkG Γ scope F0) elt ρ2 O2 P1) (h : ∀ y1 O1, P1 y1 O1 → Ql [y1] O1) : ∃ W, LcQ Γ scope own tg [] elt [x1].length (fun i => [x1][i]?) ρ O Ql W := by
  have k := lc_stateA (Γ := Γ) (ρ := ρ) (O := O) (scope := scope) (own := own) (tg := tg) (elt := elt) (Ql := Ql) [x1] id (fun i acc O' => (i = 0 ∧ acc = [] ∧ O' = O) ∨ (i = 1 ∧ ∃ y1, acc = [y1] ∧ P1 y1 O')) (by show _ ≤ sizeLine; exact Nat.le_of_ble_eq_true rfl) (.inl ⟨rfl, rfl, rfl⟩) (fun i acc O' _ w => ?_) (fun F0 i x acc O' hi hx w => ?_) fun acc O' w => ?_
  · exact k
  · rcases w with ⟨rfl, rfl, _⟩ | ⟨rfl, y, rfl, _⟩
    · exact Nat.le_refl _
    · exact Nat.le_refl _
  · have hi : i < 1 := hi
    rcases w with ⟨rfl, rfl, rfl⟩ | ⟨rfl, _⟩
    · cases hx
      intro F σ H v e0 s r rv
      exact (h1 F0 F σ H v e0 s r rv).mono fun σ' H' ⟨w3, k⟩ => ⟨w3, KS.mono (Ext.refl F) (fun ρ2 O2 q => q.imp fun y O3 z => .inr ⟨rfl, y, rfl, z⟩) k⟩
    · omega
  · rcases w with ⟨h, _⟩ | ⟨_, y, rfl, w⟩
    · cases h
    · exact h y O' w
theorem lc_two {Ql : List D → Opens → Prop} (P1 : D → Opens → Prop) (P2 : D → D → Opens → Prop) (h1 : ∀ F0 : Fr, WGo (blkG Γ scope F0) own tg x1 (wipeD ρ own) O fun ρ2 O2 => We (blkG Γ scope F0) elt ρ2 O2 P1)
    (h2 : ∀ y1 O1, P1 y1 O1 → ∀ F0 : Fr, WGo (blkG Γ scope F0) own tg x2 (wipeD ρ own) O1 fun ρ2 O2 => We (blkG Γ scope F0) elt ρ2 O2 (P2 y1)) (h : ∀ y1 y2 O1, P2 y1 y2 O1 → Ql [y1, y2] O1) : ∃ W, LcQ Γ scope own tg [] elt [x1, x2].length (fun i => [x1, x2][i]?) ρ O Ql W := by
  have k := lc_stateA (Γ := Γ) (ρ := ρ) (O := O) (scope := scope) (own := own) (tg := tg) (elt := elt) (Ql := Ql) [x1, x2] id (fun i acc O' => (i = 0 ∧ acc = [] ∧ O' = O) ∨ (i = 1 ∧ ∃ y1, acc = [y1] ∧ P1 y1 O') ∨ (i = 2 ∧ ∃ y1 y2, acc = [y1, y2] ∧ P2 y1 y2 O')) (by show _ ≤ sizeLine; exact Nat.le_of_ble_eq_true rfl) (.inl ⟨rfl, rfl, rfl⟩) (fun i acc O' _ w => ?_) (fun F0 i x acc O' hi hx w => ?_) fun acc O' w => ?_
  · exact k
  · rcases w with ⟨rfl, rfl, _⟩ | ⟨rfl, y, rfl, _⟩ | ⟨rfl, y, z, rfl, _⟩
    · exact Nat.le_refl _
    · exact Nat.le_refl _
    · exact Nat.le_refl _
  · have hi : i < 2 := hi
    rcases w with ⟨rfl, rfl, rfl⟩ | ⟨rfl, y, rfl, w⟩ | ⟨rfl, _⟩
    · cases hx
      intro F σ H v e0 s r rv
      exact (h1 F0 F σ H v e0 s r rv).mono fun σ' H' ⟨w3, k⟩ => ⟨w3, KS.mono (Ext.refl F) (fun ρ2 O2 q => q.imp fun y O3 z => .inr (.inl ⟨rfl, y, rfl, z⟩)) k⟩
    · cases hx
      intro F σ H v e0 s r rv
      exact (h2 y O' w F0 F σ H v e0 s r rv).mono fun σ' H' ⟨w3, k⟩ => ⟨w3, KS.mono (Ext.refl F) (fun ρ2 O2 q => q.imp fun z O3 u => .inr (.inr ⟨rfl, y, z, rfl, u⟩)) k⟩
    · omega
  · rcases w with ⟨h, _⟩ | ⟨h, _⟩ | ⟨_, y, z, rfl, w⟩
    · cases h
    · cases h
    · exact h y z O' w
end
end DL

/-! DM5: list(range(n)). -/
namespace DL
open PySem PySem.Spec PyProof.Rows L2
section
variable {Γ : G} {ρ : Env'} {O : Opens} {Q : DK} {a : Expr} {p p2 p3 pos : Pos}
theorem reps_rg {K : PySem.W.Frag} {F : Fr} {n : Nat} : Reps K F ((List.range n).map fun i : Nat => D.int (i : Int)) (rgV 0 (n : Int)) := by
  unfold rgV
  rw [Int.sub_zero, Int.toNat_natCast]
  have gen : ∀ l : List Nat, Reps K F (l.map fun i : Nat => D.int (i : Int)) (l.map fun i : Nat => V.int (0 + (i : Int))) := by
    intro l
    induction l with
    | nil => exact rfl
    | cons x l ih => exact Reps.cons (show V.int (0 + (x : Int)) = V.int x by rw [Int.zero_add]) ih
  exact gen _
theorem we_listRg (B : Blt Γ.M) (hg : GlN Γ "list") (hg2 : GlN Γ "range") (hh : Γ.hot = false) (h : We Γ a ρ O fun d O1 => ∃ n : Nat, d = .int (n : Int) ∧ n ≤ 1000000 ∧ Q (.lst ((List.range n).map fun i : Nat => D.int (i : Int))) O1) (h1 : ∀ env, starEach [a] env = (false, eval a env) :: starEach [] env := by intro _; rfl) (h2 : ∀ env, starEach [Expr.Call (.Name "range" p) [a] [] p2] env = (false, eval (Expr.Call (.Name "range" p) [a] [] p2) env) :: starEach [] env := by intro _; rfl) :
    We Γ (.Call (.Name "list" p3) [.Call (.Name "range" p) [a] [] p2] [] pos) ρ O Q := fun F σ H e0 s r X hX pins st I => by
  refine (pe_listRg (hX.calm hh) (hX.gl hg) (by rw [← hX.mg]; exact B.list) (prg_1 (hX.gl hg2) (by rw [← hX.mg]; exact B.range) (Ev.pe hX a) (h1 X.env)) (h2 X.env)).run pins st σ H _ I ((h F σ H e0 s r).mono fun v H1 ⟨d, F1, O1, e1, s1, r1, n, hd, hn, q⟩ => ?_)
  subst hd
  cases r1
  exact ⟨n, rfl, ⟨by omega, by omega, by omega, by omega, by omega⟩, fun l hl => KV'.at e1 (kv_lst s1 hl reps_rg q)⟩
end
end DL

/-! DM6: x, y, z = a, b, c. -/
namespace DL
open PySem PySem.Spec PyProof.Rows L2
section
variable {Γ : G} {ρ : Env'} {O : Opens} {Z : EndsD}
theorem ws_par3 {i j l : Nat} {x y z : Str} {a b c : Expr} {px py pz pt pos : Pos} {kt k2 pt2} (hh : Γ.hot = false) (hi : Γ.N[i]? = some x) (hj : Γ.N[j]? = some y) (hl : Γ.N[l]? = some z) (hij : i ≠ j) (hil : i ≠ l) (hjl : j ≠ l) (hx : Γ.sc.names.lookup x = some .local) (hy : Γ.sc.names.lookup y = some .local) (hz : Γ.sc.names.lookup z = some .local)
    (h : We Γ a ρ O fun u O1 => We Γ b ρ O1 fun v O2 => We Γ c ρ O2 fun w O3 => Z.nx (((ρ.set i (some u)).set j (some v)).set l (some w)) O3)
    (hw : ∀ env, env.scope = Γ.sc → swappedStores [.Tuple [.Name x px, .Name y py, .Name z pz] kt pt] (.Tuple [a, b, c] k2 pt2) env = pure (some [x, y, z])) (hs : ∀ env, env.scope = Γ.sc → swapsWithSole [.Tuple [.Name x px, .Name y py, .Name z pz] kt pt] (.Tuple [a, b, c] k2 pt2) pos.line env = pure false := by intro _ _; rfl)
    (h1 : ∀ env, starEach [a, b, c] env = (false, eval a env) :: starEach [b, c] env := by intro _; rfl) (h2 : ∀ env, starEach [b, c] env = (false, eval b env) :: starEach [c] env := by intro _; rfl) (h3 : ∀ env, starEach [c] env = (false, eval c env) :: starEach [] env := by intro _; rfl) :
    WS Γ (.Assign [.Tuple [.Name x px, .Name y py, .Name z pz] kt pt] (.Tuple [a, b, c] k2 pt2) pos) ρ O Z := fun F σ H e0 s r X hX pins st I => by
  have ha : WA Γ [a, b, c] ρ O fun ds O2 => ∃ u v w, ds = [u, v, w] ∧ Z.nx (((ρ.set i (some u)).set j (some v)).set l (some w)) O2 := wa_cons (h.imp fun u O1 q => wa_cons (q.imp fun v O2 q => wa_cons (q.imp fun w O3 q => wa_nil ⟨u, v, w, rfl, q⟩) h3) h2) h1
  refine (ps_par3 (X := X) (i := i) (j := j) (l := l) (hX.calm hh) (by rw [hX.N]; exact hX.nd) (by rw [hX.N]; exact hi) (by rw [hX.N]; exact hj) (by rw [hX.N]; exact hl) hij hil hjl (by rw [hX.sc]; exact hx) (by rw [hX.sc]; exact hy) (by rw [hX.sc]; exact hz) (EvA.pa hX _) (hw X.env hX.sc) (hs X.env hX.sc)).run pins st σ H _ I ?_
  refine (ha F σ H e0 s r).mono fun vs H1 ⟨ds, F1, O1, e1, s1, r1, u, v, w, hd, q⟩ => ?_
  subst hd
  obtain ⟨v1, t1, rfl, g1, g2⟩ := r1
  obtain ⟨v2, t2, rfl, g3, g4⟩ := g2
  obtain ⟨v3, t3, rfl, g5, g6⟩ := g4
  cases (show t3 = [] from g6)
  exact ⟨v1, v2, v3, rfl, ks e1 s1 ((((r.mono e1).set i g1).set j g3).set l g5) q⟩
end
end DL

namespace K30
open PySem PySem.Spec PyProof.Rows L2 DL PySem.NumText
local macro_rules | `(tactic| walk_at "vis") => `(tactic| first | exact .inl rfl | exact .inr (.inl rfl) | exact .inr (.inr rfl))
local macro_rules | `(tactic| walk_at "loc") => `(tactic| first | exact .inl rfl | exact .inr rfl)
local macro_rules | `(tactic| walk_at "dlName") => `(tactic| first
  | ((with_reducible show We _ (Expr.Name "int" _) _ _ _); refine we_tyInt (by assumption) rfl ?_)
  | ((with_reducible show We _ (Expr.Name "bool" _) _ _ _); refine we_tyBool (by assumption) rfl ?_)
  | ((with_reducible show We _ (Expr.Name "str" _) _ _ _); refine we_tyStr (by assumption) rfl ?_)
  | ((with_reducible show We _ (Expr.Name "list" _) _ _ _); refine we_tyList (by assumption) rfl ?_)
  | ((with_reducible show We _ (Expr.Name "tuple" _) _ _ _); refine we_tyTuple (by assumption) rfl ?_)
  | ((with_reducible show We _ (Expr.Name "dict" _) _ _ _); refine we_tyDict (by assumption) rfl ?_)
  | (refine we_nm rfl rfl ?v ?_; (case v => walk_at "vis"))
  | refine we_gstr (by assumption) rfl ?_ | refine we_gint (by assumption) rfl ?_)
local macro_rules | `(tactic| walk_at "dlCall") => `(tactic| first
  | ((with_reducible show We _ (Expr.Call (Expr.Name "isinstance" _) _ [] _) _ _ _); refine we_isi (by assumption) rfl ?_)
  | ((with_reducible show We _ (Expr.Call (Expr.Name "len" _) _ [] _) _ _ _); refine we_len (by assumption) rfl ?_)
  | ((with_reducible show We _ (Expr.Call (Expr.Name "all" _) _ [] _) _ _ _); refine we_all (by assumption) rfl rfl ?_)
  | ((with_reducible show We _ (Expr.Call (Expr.Name "abs" _) _ [] _) _ _ _); refine we_abs (by assumption) rfl ?_)
  | ((with_reducible show We _ (Expr.Call (Expr.Name "int" _) _ [] _) _ _ _); refine we_int_ (by assumption) rfl ?_)
  | ((with_reducible show We _ (Expr.Call (Expr.Name "str" _) _ [] _) _ _ _); refine we_str_ (by assumption) rfl ?_)
  | ((with_reducible show We _ (Expr.Call (Expr.Name "tuple" _) _ [] _) _ _ _); refine we_tuple_ (by assumption) rfl ?_)
  | ((with_reducible show We _ (Expr.Call (Expr.Name "list" _) _ [] _) _ _ _); refine we_list_ (by assumption) rfl ?_)
  | ((with_reducible show We _ (Expr.Call (Expr.Name "sum" _) _ [] _) _ _ _); refine we_sum (by assumption) rfl rfl ?_)
  | ((with_reducible show We _ (Expr.Call (Expr.Name "max" _) _ [] _) _ _ _); refine we_max (by assumption) rfl rfl ?_)
  | ((with_reducible show We _ (Expr.Call (Expr.Name "min" _) _ [] _) _ _ _); refine we_min (by assumption) rfl rfl ?_)
  | (refine' we_call ?hd ?hk ?hg ?hh ?_; (case hd => assumption); (case hk => exact Nat.le_of_ble_eq_true rfl); (case hg => rfl); (case hh => rfl)))
local macro_rules | `(tactic| walk_at "dlE") => `(tactic| first
  | ((with_reducible show We _ (Expr.Name _ _) _ _ _); walk_at "dlName")
  | ((with_reducible show We _ (Expr.Constant _ _ _) _ _ _); first | refine we_int ?_ | refine we_str ?_ | refine we_bl ?_ | refine we_non ?_)
  | ((with_reducible show We _ (Expr.Call (Expr.Name _ _) _ [] _) _ _ _); walk_at "dlCall")
  | ((with_reducible show We _ (Expr.BoolOp _ _ _) _ _ _); first | refine we_and ?_ | refine we_or ?_ | refine we_one ?_)
  | ((with_reducible show We _ (Expr.UnaryOp _ _ _) _ _ _); first | refine we_not ?_ | refine we_neg ?_)
  | ((with_reducible show We _ (Expr.Compare _ [_] _ _) _ _ _); refine we_cmp ?_)
  | ((with_reducible show We _ (Expr.Compare _ [_, _] _ _) _ _ _); refine we_chain ?_)
  | ((with_reducible show We _ (Expr.BinOp _ _ _ _) _ _ _); refine we_bin ?_)
  | ((with_reducible show We _ (Expr.IfExp _ _ _ _) _ _ _); refine we_if ?_)
  | ((with_reducible show We _ (Expr.Tuple _ _ _) _ _ _); refine we_tup ?_)
  | ((with_reducible show We _ (Expr.List _ _) _ _ _); refine we_lst ?_)
  | ((with_reducible show We _ (Expr.Subscript _ (Expr.Slice _ _ none _) _) _ _ _); refine we_slice ?_)
  | ((with_reducible show We _ (Expr.Subscript _ _ _) _ _ _); refine we_ix ?_)
  | ((with_reducible show We _ (Expr.JoinedStr _ _) _ _ _); refine we_joined ?_)
  | ((with_reducible show We _ (Expr.FormattedValue _ _ _ _) _ _ _); refine we_fmt ?_)
  | ((with_reducible show We _ (Expr.ListComp _ _ _ _) _ _ _); refine we_lc rfl (by kernel_rfl) ?_))
local macro_rules | `(tactic| walk_at "dlT") => `(tactic| first
  | ((with_reducible show WT _ (Expr.UnaryOp _ _ _) _ _ _); refine wt_not ?_)
  | ((with_reducible show WT _ (Expr.Compare _ [_] _ _) _ _ _); refine wt_cmp ?_)
  | ((with_reducible show WT _ (Expr.Compare _ [_, _] _ _) _ _ _); refine wt_chain ?_)
  | ((with_reducible show WT _ (Expr.BoolOp _ _ _) _ _ _); refine WW.wt ?_)
  | refine wt_val ?_)
local macro_rules | `(tactic| walk_at "dlS") => `(tactic| first
  | ((with_reducible show WS _ (Stmt.Return _ _) _ _ _); first | refine ws_ret ?_ | refine ws_retN ?_)
  | ((with_reducible show WS _ (Stmt.If _ _ _ _) _ _ _); refine ws_if ?_)
  | ((with_reducible show WS _ (Stmt.Assign [Expr.Name _ _] _ _) _ _ _); (refine ws_nm rfl ?v ?_; (case v => walk_at "loc")))
  | ((with_reducible show WS _ (Stmt.Assign [Expr.Tuple [Expr.Name _ _, Expr.Name _ _] _ _] (Expr.Tuple [_, _] _ _) _) _ _ _); (refine ws_pr rfl rfl rfl (by kernel_rfl) rfl rfl ?_ ?hw; (case hw => (intro env he; obtain ⟨⟩ := env; cases he; kernel_rfl))))
  | ((with_reducible show WS _ (Stmt.Assign [Expr.Tuple _ _ _] _ _) _ _ _); refine ws_asg ?_)
  | ((with_reducible show WS _ (Stmt.Expr _ _) _ _ _); refine ws_expr ?_)
  | ((with_reducible show WS _ (Stmt.Pass _) _ _ _); refine ws_pass ?_))
local macro_rules | `(tactic| walk_at "dlQ") => `(tactic| first
  | ((with_reducible show BinQ _ _ _ _ _); first | refine q_addi ?_ | refine q_subi ?_ | refine q_subb ?_)
  | ((with_reducible show CmpQ _ _ _ _ _); first | refine q_lti ?_ | refine q_lei ?_ | refine q_gti ?_ | refine q_gei ?_ | refine q_eqi ?_ | refine q_nei ?_ | refine q_eqs ?_ | refine q_nes ?_ | refine q_insg ?_ | refine q_nisg ?_)
  | ((with_reducible show IsiQ _ _ _); refine q_isi (by first | assumption | rfl) ?_)
  | ((with_reducible show LenQ _ _ _); first | refine q_lent ?_ | refine q_lenl ?_ | refine q_lens (by assumption) ?_ | refine q_lenr ?_)
  | ((with_reducible show TruQ _ _ _); refine q_trub ?_)
  | ((with_reducible show LcF _ _ _); refine q_lcf ?_)
  | ((with_reducible show TupQ _ _ _); first | refine q_tupl ?_ | refine q_tupt ?_)
  | ((with_reducible show LstQ _ _ _); first | refine q_lstl ?_ | refine q_lstt ?_)
  | ((with_reducible show AbsQ _ _ _); refine q_abs ?_)
  | ((with_reducible show IxQ _ _ _ _); first | refine q_ixt rfl ?_ | refine q_ixl rfl ?_)
  | ((with_reducible show SlQ _ _ _ _ _); first | refine q_slt ?_ | refine q_sll ?_ | refine q_sls (by assumption) ?_ | refine q_slr ?_)
  | ((with_reducible show IntQ _ _ _); first | refine q_inti ?_ | refine q_intb ?_)
  | ((with_reducible show if _ = true then _ else _); first | refine ift rfl ?_ | refine iff_ rfl ?_)
  | ((with_reducible show ∃ k, D.bl _ = D.bl k ∧ _); refine ⟨_, rfl, ?_⟩)
  | ((with_reducible show BlQ _ _ _); refine ⟨_, rfl, ?_⟩)
  | ((with_reducible show ∃ i, D.int _ = D.int i ∧ _); refine ⟨_, rfl, ?_⟩)
  | ((with_reducible show ∃ i, D.str _ = D.str i ∧ _); refine ⟨_, rfl, ?_⟩)
  | ((with_reducible show _ ≤ sizeLine ∧ _); refine ⟨by first | exact Nat.zero_le _ | exact Nat.le_of_ble_eq_true rfl | assumption, ?_⟩))
local macro_rules | `(tactic| walk_at "dl") => `(tactic| first
  | ((with_reducible show We _ _ _ _ _); walk_at "dlE")
  | ((with_reducible show WA _ _ _ _ _); first | refine wa_cons ?_ | refine wa_nil ?_)
  | ((with_reducible show WT _ _ _ _ _); walk_at "dlT")
  | ((with_reducible show WW _ _ _ _ _); first | refine ww_and ?_ | refine ww_or ?_ | refine ww_and1 ?_ | refine ww_or1 ?_)
  | ((with_reducible show WS _ _ _ _ _); walk_at "dlS")
  | ((with_reducible show WSs _ _ _ _ _); first | refine wss_cons ?_ | refine wss_nil ?_)
  | ((with_reducible show ChQ _ _ _ _ _ _ _ _ _); (show We _ _ _ _ _))
  | ((with_reducible show PiD _ _ (Expr.Call (Expr.Name "range" _) [_] _ _) _ _ _); refine pi_rg (by assumption) rfl ?_)
  | ((with_reducible show PiD _ _ (Expr.Call (Expr.Name "range" _) [_, _] _ _) _ _ _); refine pi_rg2 (by assumption) rfl ?_)
  | ((with_reducible show WGo _ _ (Expr.Name _ _) _ _ _ _); refine wgo_nb rfl (by walk_at "loc") (by kernel_rfl) ?_)
  | ((with_reducible show WG _ (Expr.Tuple _ _ _) _ _ _ _); refine wg_tup rfl rfl ?_)
  | ((with_reducible show WGs _ _ _ _ _ _); first | refine wgs_cons ?_ | refine wgs_nil ?_)
  | ((with_reducible show WGo _ _ (Expr.Tuple _ _ _) _ _ _ _); refine wgo_tup rfl rfl ?_)
  | ((with_reducible show WGso _ _ _ _ _ _ _); first | refine wgso_cons ?_ | refine wgso_nil ?_)
  | ((with_reducible show WG _ (Expr.Name _ _) _ _ _ _); refine wg_nm rfl (by walk_at "loc") ?_)
  | ((with_reducible show WO _ _ _ _ _); first | refine wo_none ?_ | refine wo_some ?_)
  | ((with_reducible show WI _ _ _ _ _); first | refine wi_nil ?_ | refine wi_one ?_)
  | ((with_reducible show WJ _ _ _ _ _ _); first | refine wj_cons ?_ | refine wj_nil ?_)
  | walk_at "dlQ")
section
open PySem PySem.Spec PyProof.Rows L2 DL PySem.NumText
abbrev topS (i : Nat) : Stmt := PySem.Challenge.pw_worsttogether_k30_bars_of_coins.main.body.getD i (.Pass ⟨0, 0, 0, 0⟩)
structure Names (M : Mo) : Prop where
  mostEvent : ∃ t, M.mg "MOST_EVENT" = some (.int 99 t)
/-! ### shapes -/
def spTy (g : Ty → Bool) : SpD := fun ds O Q _ => ∃ d t, ds = [d] ∧ tyD O d = some t ∧ Q (.bl (g t)) O
theorem ok_is_integer {M : Mo} {f : Addr} {fd : FuncData} (B : Blt M) (hm : M.mg "is_integer" = some (.ref f)) (Fn : Fun M.K "is_integer" "is_integer" (topS 11) f fd) : DefD M "is_integer" (topS 11) ["value"] 1 (spTy fun t => decide (t = .int)) := by
  refine def_ok (N := ["value"]) hm Fn ⟨rfl, rfl, rfl, by decide +kernel, rfl, by decide +kernel, by decide +kernel⟩ (fun _ _ _ _ _ _ us hl => match us, hl with | [_], _ => rfl) (fun ds O Q E ⟨d, t, e, _⟩ => by rw [e]; rfl) fun F ds O Qd Ed ⟨d, t, e, ht, q⟩ => ?_
  subst e
  cases t
  all_goals (repeat walk_at "dl")
  all_goals exact q
/-- value: what is told of any value between two bounds -/
def fromTo (lo hi : Int) : D → Bool
  | .int i => decide (lo ≤ i) && decide (i ≤ hi)
  | _ => false
def spFromTo : SpD := fun ds O Q _ => ∃ d t lo hi, ds = [d, .int lo, .int hi] ∧ tyD O d = some t ∧ Q (.bl (fromTo lo hi d)) O
theorem ty_int {O : Opens} {d : D} (h : tyD O d = some .int) : ∃ i, d = .int i := by
  cases d with
  | int i => exact ⟨i, rfl⟩
  | raw v =>
    cases v with
    | ref a =>
      have h : (match O a with | some (.lst _) => some Ty.list | some (.dic _ _) => some .dict | some (.lkd _ _ _ _) => some .dict | _ => none) = some .int := h
      split at h <;> cases h
    | _ => cases h
  | _ => cases h
theorem fromTo_not {O : Opens} {d : D} {t : Ty} {lo hi : Int} (h : tyD O d = some t) (n : t ≠ .int) : fromTo lo hi d = false := by
  cases d with
  | int i => cases h; exact absurd rfl n
  | _ => rfl
theorem ok_is_from_to {M : Mo} {f : Addr} {fd : FuncData} (B : Blt M) (h_is_integer : DefD M "is_integer" (topS 11) ["value"] 1 (spTy fun t => decide (t = .int))) (hm : M.mg "is_from_to" = some (.ref f)) (Fn : Fun M.K "is_from_to" "is_from_to" (topS 12) f fd) : DefD M "is_from_to" (topS 12) ["value", "least", "most"] 2 spFromTo := by
  refine def_ok (N := ["value", "least", "most"]) hm Fn ⟨rfl, rfl, rfl, by decide +kernel, rfl, by decide +kernel, by decide +kernel⟩ (fun _ _ _ _ _ _ us hl => match us, hl with | [_, _, _], _ => rfl) (fun ds O Q E ⟨d, t, lo, hi, e, _⟩ => by rw [e]; rfl) fun F ds O Qd Ed ⟨d, t, lo, hi, e, ht, q⟩ => ?_
  subst e
  by_cases hi' : t = .int
  · subst hi'
    obtain ⟨i, rfl⟩ := ty_int ht
    repeat walk_at "dl"
    refine ⟨_, _, rfl, rfl, ?_⟩
    repeat walk_at "dl"
    refine if2 (fun h => ?_) (fun h => ?_)
    · repeat walk_at "dl"
      have e : fromTo lo hi (.int i) = decide (i ≤ hi) := by show (decide (lo ≤ i) && decide (i ≤ hi)) = _; rw [h]; rfl
      rw [e] at q; exact q
    · have e : fromTo lo hi (.int i) = false := by show (decide (lo ≤ i) && decide (i ≤ hi)) = _; rw [h]; rfl
      rw [e] at q; exact q
  · repeat walk_at "dl"
    refine ⟨_, _, rfl, ht, ?_⟩
    rw [fromTo_not ht hi'] at q
    refine ⟨_, rfl, iff_ (decide_eq_false hi') q⟩
/-- is_tuple(d, n) -/
def isTup (d : D) (n : Int) : Bool := match d with
  | .tup ds => (ds.length : Int) == n
  | _ => false
def spTup : SpD := fun ds O Q _ => ∃ d t n, ds = [d, .int n] ∧ tyD O d = some t ∧ Q (.bl (isTup d n)) O
theorem ty_tup {O : Opens} {d : D} (h : tyD O d = some .tuple) : ∃ ds, d = .tup ds := by
  cases d with
  | tup i => exact ⟨i, rfl⟩
  | raw v =>
    cases v with
    | ref a =>
      have h : (match O a with | some (.lst _) => some Ty.list | some (.dic _ _) => some .dict | some (.lkd _ _ _ _) => some .dict | _ => none) = some .tuple := h
      split at h <;> cases h
    | _ => cases h
  | _ => cases h
theorem isTup_not {O : Opens} {d : D} {t : Ty} {n : Int} (h : tyD O d = some t) (m : t ≠ .tuple) : isTup d n = false := by
  cases d with
  | tup i => cases h; exact absurd rfl m
  | _ => rfl
theorem ok_is_tuple {M : Mo} {f : Addr} {fd : FuncData} (B : Blt M) (hm : M.mg "is_tuple" = some (.ref f)) (Fn : Fun M.K "is_tuple" "is_tuple" (topS 14) f fd) : DefD M "is_tuple" (topS 14) ["value", "many"] 1 spTup := by
  refine def_ok (N := ["value", "many"]) hm Fn ⟨rfl, rfl, rfl, by decide +kernel, rfl, by decide +kernel, by decide +kernel⟩ (fun _ _ _ _ _ _ us hl => match us, hl with | [_, _], _ => rfl) (fun ds O Q E ⟨d, t, n, e, _⟩ => by rw [e]; rfl) fun F ds O Qd Ed ⟨d, t, n, e, ht, q⟩ => ?_
  subst e
  by_cases hi' : t = .tuple
  · subst hi'
    obtain ⟨xs, rfl⟩ := ty_tup ht
    repeat walk_at "dl"
    exact q
  · rw [isTup_not ht hi'] at q
    repeat walk_at "dl"
    exact iff_ (by cases t <;> first | rfl | exact absurd rfl hi') q
/-- ascends(items) -/
def ascI (ns : List Int) : Bool := (List.range (ns.length - 1)).all fun i => decide (ns.getD i 0 < ns.getD (i + 1) 0)
theorem at_get {ns : List Int} {i : Nat} (h : i < ns.length) : atI (ns.map D.int) (i : Int) = some (.int (ns.getD i 0)) := by
  have e : (ns.map D.int)[i]? = some (.int (ns.getD i 0)) := by
    rw [List.getElem?_map, List.getD_eq_getElem?_getD, List.getElem?_eq_getElem h]; rfl
  unfold atI
  refine Option.bind_eq_some_iff.mpr ⟨i, ?_, e⟩
  unfold ixN
  simp [h]
theorem at_getI {ns : List Int} {j : Int} {i : Nat} (e : j = (i : Int)) (h : i < ns.length) : atI (ns.map D.int) j = some (.int (ns.getD i 0)) := by
  rw [e]; exact at_get h
end
section
open PySem PySem.Spec PyProof.Rows L2 DL PySem.NumText
/-- is_list -/
theorem ok_is_list {M : Mo} {f : Addr} {fd : FuncData} (B : Blt M) (hm : M.mg "is_list" = some (.ref f)) (Fn : Fun M.K "is_list" "is_list" (topS 13) f fd) : DefD M "is_list" (topS 13) ["value"] 1 (spTy fun t => decide (t = .list) || decide (t = .tuple)) := by
  refine def_ok (N := ["value"]) hm Fn ⟨rfl, rfl, rfl, by decide +kernel, rfl, by decide +kernel, by decide +kernel⟩ (fun _ _ _ _ _ _ us hl => match us, hl with | [_], _ => rfl) (fun ds O Q E ⟨d, t, e, _⟩ => by rw [e]; rfl) fun F ds O Qd Ed ⟨d, t, e, ht, q⟩ => ?_
  subst e
  repeat walk_at "dl"
  refine q_isit (bs := [.list, .tuple]) ht ?_
  cases t <;> exact q
/-! ### ascends(items) -/
abbrev tupI (l : List Int) : D := .tup (l.map D.int)
def ascL (ls : List (List Int)) : Bool := (List.range (ls.length - 1)).all fun i => HT.lexLt (ls.getD i []) (ls.getD (i + 1) [])
theorem at_getL {ls : List (List Int)} {j : Int} {i : Nat} (e : j = (i : Int)) (h : i < ls.length) : atI (ls.map tupI) j = some (tupI (ls.getD i [])) :=
  at_nat e (by rw [List.getElem?_map, List.getD_eq_getElem?_getD, List.getElem?_eq_getElem h]; rfl)
/-- a tuple or a list -/
def SeqOf (d : D) (xs : List D) : Prop := d = .tup xs ∨ d = .lst xs
def spAsc : SpD := fun ds O Q _ => ∃ d, ds = [d] ∧ ((∃ ns : List Int, SeqOf d (ns.map .int) ∧ ns.length ≤ sizeLine ∧ Q (.bl (ascI ns)) O) ∨ ∃ ls : List (List Int), SeqOf d (ls.map tupI) ∧ ls.length ≤ sizeLine ∧ Q (.bl (ascL ls)) O)
theorem ok_ascends {M : Mo} {f : Addr} {fd : FuncData} (B : Blt M) (hm : M.mg "ascends" = some (.ref f)) (Fn : Fun M.K "ascends" "ascends" (topS 15) f fd) : DefD M "ascends" (topS 15) ["items"] 1 spAsc := by
  refine def_ok (N := ["items", "at"]) hm Fn ⟨rfl, rfl, rfl, by decide +kernel, rfl, by decide +kernel, by decide +kernel⟩ (fun _ _ _ _ _ _ us hl => match us, hl with | [_], _ => rfl) (fun ds O Q E ⟨d, e, _⟩ => by rw [e]; rfl) fun F ds O Qd Ed ⟨d, e, h⟩ => ?_
  subst e
  rcases h with ⟨ns, hd, hz, q⟩ | ⟨ls, hd, hz, q⟩
  · have hz' : ns.length ≤ 16777216 := hz
    have eN : ((((ns.map D.int).length : Nat) : Int) - 1).toNat = ns.length - 1 := by rw [List.length_map]; omega
    have fin : Qd (.bl (((List.range (ns.length - 1)).map fun i => decide (ns.getD i 0 < ns.getD (i + 1) 0)).all id)) O := by
      have e : ((List.range (ns.length - 1)).map fun i => decide (ns.getD i 0 < ns.getD (i + 1) 0)).all id = ascI ns := by unfold ascI; rw [List.all_map]; rfl
      rw [e]; exact q
    rcases hd with rfl | rfl
    · repeat walk_at "dl"
      refine ⟨by omega, by rw [List.length_map]; omega, ?_⟩
      rw [eN]
      refine lc_mapA (List.range (ns.length - 1)) (fun i : Nat => D.int (i : Int)) (fun i => .bl (decide (ns.getD i 0 < ns.getD (i + 1) 0))) (by rw [List.length_range]; show _ ≤ 16777216; omega) (fun F0 i hi => ?_) ?_
      · have hi' := List.mem_range.mp hi
        repeat walk_at "dl"
        refine q_ixt (at_getI (ns := ns) (i := i) rfl (by omega)) ?_
        repeat walk_at "dl"
        refine q_ixt (at_getI (ns := ns) (i := i + 1) (by omega) (by omega)) ?_
        repeat walk_at "dl"
        exact ⟨rfl, rfl⟩
      · exact ⟨_, by rw [List.map_map]; rfl, fin⟩
    · repeat walk_at "dl"
      refine ⟨by omega, by rw [List.length_map]; omega, ?_⟩
      rw [eN]
      refine lc_mapA (List.range (ns.length - 1)) (fun i : Nat => D.int (i : Int)) (fun i => .bl (decide (ns.getD i 0 < ns.getD (i + 1) 0))) (by rw [List.length_range]; show _ ≤ 16777216; omega) (fun F0 i hi => ?_) ?_
      · have hi' := List.mem_range.mp hi
        repeat walk_at "dl"
        refine q_ixl (at_getI (ns := ns) (i := i) rfl (by omega)) ?_
        repeat walk_at "dl"
        refine q_ixl (at_getI (ns := ns) (i := i + 1) (by omega) (by omega)) ?_
        repeat walk_at "dl"
        exact ⟨rfl, rfl⟩
      · exact ⟨_, by rw [List.map_map]; rfl, fin⟩
  · have hz' : ls.length ≤ 16777216 := hz
    have eN : ((((ls.map tupI).length : Nat) : Int) - 1).toNat = ls.length - 1 := by rw [List.length_map]; omega
    have fin : Qd (.bl (((List.range (ls.length - 1)).map fun i => HT.lexLt (ls.getD i []) (ls.getD (i + 1) [])).all id)) O := by
      have e : ((List.range (ls.length - 1)).map fun i => HT.lexLt (ls.getD i []) (ls.getD (i + 1) [])).all id = ascL ls := by unfold ascL; rw [List.all_map]; rfl
      rw [e]; exact q
    rcases hd with rfl | rfl
    · repeat walk_at "dl"
      refine ⟨by omega, by rw [List.length_map]; omega, ?_⟩
      rw [eN]
      refine lc_mapA (List.range (ls.length - 1)) (fun i : Nat => D.int (i : Int)) (fun i => .bl (HT.lexLt (ls.getD i []) (ls.getD (i + 1) []))) (by rw [List.length_range]; show _ ≤ 16777216; omega) (fun F0 i hi => ?_) ?_
      · have hi' := List.mem_range.mp hi
        repeat ((fail_if_success (with_reducible show We _ (Expr.Compare _ [CmpOp.Lt] _ _) _ _ _)); walk_at "dl")
        refine we_ltT ?_
        repeat walk_at "dl"
        refine q_ixt (at_getL (i := i) rfl (by omega)) ?_
        repeat walk_at "dl"
        refine q_ixt (at_getL (i := i + 1) (by omega) (by omega)) ?_
        exact ⟨_, _, rfl, rfl, rfl, rfl⟩
      · exact ⟨_, by rw [List.map_map]; rfl, fin⟩
    · repeat walk_at "dl"
      refine ⟨by omega, by rw [List.length_map]; omega, ?_⟩
      rw [eN]
      refine lc_mapA (List.range (ls.length - 1)) (fun i : Nat => D.int (i : Int)) (fun i => .bl (HT.lexLt (ls.getD i []) (ls.getD (i + 1) []))) (by rw [List.length_range]; show _ ≤ 16777216; omega) (fun F0 i hi => ?_) ?_
      · have hi' := List.mem_range.mp hi
        repeat ((fail_if_success (with_reducible show We _ (Expr.Compare _ [CmpOp.Lt] _ _) _ _ _)); walk_at "dl")
        refine we_ltT ?_
        repeat walk_at "dl"
        refine q_ixl (at_getL (i := i) rfl (by omega)) ?_
        repeat walk_at "dl"
        refine q_ixl (at_getL (i := i + 1) (by omega) (by omega)) ?_
        exact ⟨_, _, rfl, rfl, rfl, rfl⟩
      · exact ⟨_, by rw [List.map_map]; rfl, fin⟩
end
section
open PySem PySem.Spec PyProof.Rows L2 DL PySem.NumText
def isEv : D → Bool := fromTo 0 99
def spEv : SpD := fun ds O Q _ => ∃ d t, ds = [d] ∧ tyD O d = some t ∧ Q (.bl (isEv d)) O
theorem ok_is_event {M : Mo} {f : Addr} {fd : FuncData} (Nm : Names M) (h_is_from_to : DefD M "is_from_to" (topS 12) ["value", "least", "most"] 2 spFromTo) (hm : M.mg "is_event" = some (.ref f)) (Fn : Fun M.K "is_event" "is_event" (topS 18) f fd) : DefD M "is_event" (topS 18) ["value"] 3 spEv := by
  obtain ⟨t1, g1⟩ := Nm.mostEvent
  refine def_ok (N := ["value"]) hm Fn ⟨rfl, rfl, rfl, by decide +kernel, rfl, by decide +kernel, by decide +kernel⟩ (fun _ _ _ _ _ _ us hl => match us, hl with | [_], _ => rfl) (fun ds O Q E ⟨d, t, e, _⟩ => by rw [e]; rfl) fun F ds O Qd Ed ⟨d, t, e, ht, q⟩ => ?_
  subst e
  repeat walk_at "dl"
  exact ⟨_, _, _, _, rfl, ht, q⟩
/-- right events: ascending, 0 to 99 -/
structure Asc (ns : List Int) : Prop where
  in_ : ∀ n ∈ ns, 0 ≤ n ∧ n ≤ 99
  asc : ascI ns = true
  len : ns.length ≤ 100
theorem Asc.isEv {ns : List Int} (h : Asc ns) {n : Int} (hn : n ∈ ns) : isEv (.int n) = true := by
  have := h.in_ n hn
  show (decide ((0 : Int) ≤ n) && decide (n ≤ 99)) = true
  rw [decide_eq_true this.1, decide_eq_true this.2]; rfl
theorem all_true {α : Type} (xs : List α) : (xs.map fun _ => true).all id = true := by
  rw [List.all_map]
  exact List.all_eq_true.mpr fun _ _ => rfl
/-- is_outcome of right events -/
def spOutA : SpD := fun ds O Q _ => ∃ ns, ds = [tupI ns] ∧ Asc ns ∧ Q (.bl true) O
theorem ok_is_outcome {M : Mo} {f : Addr} {fd : FuncData} (B : Blt M) (h_is_event : DefD M "is_event" (topS 18) ["value"] 3 spEv) (h_ascends : DefD M "ascends" (topS 15) ["items"] 1 spAsc) (hm : M.mg "is_outcome" = some (.ref f)) (Fn : Fun M.K "is_outcome" "is_outcome" (topS 19) f fd) : DefD M "is_outcome" (topS 19) ["value"] 4 spOutA := by
  refine def_ok (N := ["value", "item"]) hm Fn ⟨rfl, rfl, rfl, by decide +kernel, rfl, by decide +kernel, by decide +kernel⟩ (fun _ _ _ _ _ _ us hl => match us, hl with | [_], _ => rfl) (fun ds O Q E ⟨d, e, _⟩ => by rw [e]; rfl) fun F ds O Qd Ed ⟨ns, e, hA, q⟩ => ?_
  subst e
  have hz : ns.length ≤ sizeLine := Nat.le_trans hA.len (by decide)
  repeat walk_at "dl"
  refine pi_tp ?_
  repeat walk_at "dl"
  refine ⟨_, rfl, lc_mapA ns D.int (fun _ => .bl true) hz (fun F0 x hm => ?_) ?_⟩
  · repeat walk_at "dl"
    exact ⟨_, .int, rfl, rfl, by rw [hA.isEv hm], rfl⟩
  · repeat walk_at "dl"
    refine ⟨ns.map fun _ => true, by rw [List.map_map]; rfl, ?_⟩
    rw [all_true]
    repeat walk_at "dl"
    refine ⟨_, rfl, .inl ⟨ns, .inl rfl, hz, ?_⟩⟩
    rw [hA.asc]
    exact q
/-- are_events_of(ms, ns) -/
def spEvOf : SpD := fun ds O Q _ => ∃ (ms ns : List Int) (ev : D), ds = [tupI ms, ev] ∧ SeqOf ev (ns.map D.int) ∧ Asc ms ∧ (∀ m ∈ ms, m ∈ ns) ∧ Q (.bl true) O
theorem inD_int {m : Int} {ns : List Int} : inD (.int m) (ns.map D.int) = decide (m ∈ ns) := by
  unfold inD inV
  rw [List.map_map, List.any_map]
  induction ns with
  | nil => rfl
  | cons n r ih =>
    rw [List.any_cons, ih]
    show ((n == m) || decide (m ∈ r)) = _
    by_cases h : n = m
    · subst h; simp
    · have : ¬ m = n := fun e => h e.symm
      simp [h, this]
theorem flat_ints {ns : List Int} : (ns.map D.int).all flatD = true := by
  rw [List.all_map]
  exact List.all_eq_true.mpr fun _ _ => rfl
theorem ok_are_events_of {M : Mo} {f : Addr} {fd : FuncData} (B : Blt M) (h_is_outcome : DefD M "is_outcome" (topS 19) ["value"] 4 spOutA) (hm : M.mg "are_events_of" = some (.ref f)) (Fn : Fun M.K "are_events_of" "are_events_of" (topS 20) f fd) : DefD M "are_events_of" (topS 20) ["value", "events"] 5 spEvOf := by
  refine def_ok (N := ["value", "events", "event"]) hm Fn ⟨rfl, rfl, rfl, by decide +kernel, rfl, by decide +kernel, by decide +kernel⟩ (fun _ _ _ _ _ _ us hl => match us, hl with | [_, _], _ => rfl) (fun ds O Q E ⟨_, _, _, e, _⟩ => by rw [e]; rfl) fun F ds O Qd Ed ⟨ms, ns, ev, e, he, hA, hi, q⟩ => ?_
  subst e
  have hz : ms.length ≤ sizeLine := Nat.le_trans hA.len (by decide)
  repeat walk_at "dl"
  refine ⟨ms, rfl, hA, ?_⟩
  repeat walk_at "dl"
  refine pi_tp ?_
  repeat walk_at "dl"
  refine ⟨_, rfl, lc_mapA ms D.int (fun _ => .bl true) hz (fun F0 x hm => ?_) ?_⟩
  · rcases he with rfl | rfl
    · repeat walk_at "dl"
      refine q_int rfl flat_ints ?_
      rw [inD_int, decide_eq_true (hi x hm)]
      exact ⟨rfl, rfl⟩
    · repeat walk_at "dl"
      refine q_inl rfl flat_ints ?_
      rw [inD_int, decide_eq_true (hi x hm)]
      exact ⟨rfl, rfl⟩
  · repeat walk_at "dl"
    refine ⟨ms.map fun _ => true, by rw [List.map_map]; rfl, ?_⟩
    rw [all_true]
    exact q
def spAreEv : SpD := fun ds O Q _ => ∃ (ns : List Int) (ev : D), ds = [ev] ∧ SeqOf ev (ns.map D.int) ∧ Asc ns ∧ ns ≠ [] ∧ Q (.bl true) O
theorem ok_are_events {M : Mo} {f : Addr} {fd : FuncData} (B : Blt M) (h_is_list : DefD M "is_list" (topS 13) ["value"] 1 (spTy fun t => decide (t = .list) || decide (t = .tuple))) (h_is_event : DefD M "is_event" (topS 18) ["value"] 3 spEv) (h_ascends : DefD M "ascends" (topS 15) ["items"] 1 spAsc) (hm : M.mg "are_events" = some (.ref f)) (Fn : Fun M.K "are_events" "are_events" (topS 22) f fd) : DefD M "are_events" (topS 22) ["value"] 4 spAreEv := by
  refine def_ok (N := ["value", "item"]) hm Fn ⟨rfl, rfl, rfl, by decide +kernel, rfl, by decide +kernel, by decide +kernel⟩ (fun _ _ _ _ _ _ us hl => match us, hl with | [_], _ => rfl) (fun ds O Q E ⟨_, _, e, _⟩ => by rw [e]; rfl) fun F ds O Qd Ed ⟨ns, ev, e, he, hA, hn, q⟩ => ?_
  subst e
  have hz : ns.length ≤ sizeLine := Nat.le_trans hA.len (by decide)
  have h0 : (((ns.map D.int).length : Int) == 0) = false := by
    rw [List.length_map]
    cases ns with
    | nil => exact absurd rfl hn
    | cons a b => refine beq_false_of_ne ?_; rw [List.length_cons]; omega
  rcases he with rfl | rfl
  · repeat walk_at "dl"
    refine ⟨_, .tuple, rfl, rfl, ?_⟩
    repeat walk_at "dl"
    rw [h0]
    repeat walk_at "dl"
    refine pi_tp ?_
    repeat walk_at "dl"
    refine ⟨_, rfl, lc_mapA ns D.int (fun _ => .bl true) hz (fun F0 x hm => ?_) ?_⟩
    · repeat walk_at "dl"
      exact ⟨_, .int, rfl, rfl, by rw [hA.isEv hm], rfl⟩
    · repeat walk_at "dl"
      refine ⟨ns.map fun _ => true, by rw [List.map_map]; rfl, ?_⟩
      rw [all_true]
      repeat walk_at "dl"
      refine ⟨_, rfl, .inl ⟨ns, .inl rfl, hz, ?_⟩⟩
      rw [hA.asc]
      exact q
  · repeat walk_at "dl"
    refine ⟨_, .list, rfl, rfl, ?_⟩
    repeat walk_at "dl"
    rw [h0]
    repeat walk_at "dl"
    refine pi_ls ?_
    repeat walk_at "dl"
    refine ⟨_, .inl rfl, lc_mapA ns D.int (fun _ => .bl true) hz (fun F0 x hm => ?_) ?_⟩
    · repeat walk_at "dl"
      exact ⟨_, .int, rfl, rfl, by rw [hA.isEv hm], rfl⟩
    · repeat walk_at "dl"
      refine ⟨ns.map fun _ => true, by rw [List.map_map]; rfl, ?_⟩
      rw [all_true]
      repeat walk_at "dl"
      refine ⟨_, rfl, .inl ⟨ns, .inr rfl, hz, ?_⟩⟩
      rw [hA.asc]
      exact q
/-! ### parts, sets, twins -/
structure Part (ns ms : List Int) : Prop where
  asc : Asc ms
  sub : ∀ m ∈ ms, m ∈ ns
  ne : ms ≠ []
def spPart : SpD := fun ds O Q _ => ∃ (ms ns : List Int) (ev : D), ds = [ev, tupI ms] ∧ SeqOf ev (ns.map D.int) ∧ Part ns ms ∧ Q (.bl true) O
theorem ok_is_part {M : Mo} {f : Addr} {fd : FuncData} (h_of : DefD M "are_events_of" (topS 20) ["value", "events"] 5 spEvOf) (hm : M.mg "is_part" = some (.ref f)) (Fn : Fun M.K "is_part" "is_part" (topS 23) f fd) : DefD M "is_part" (topS 23) ["events", "value"] 6 spPart := by
  refine def_ok (N := ["events", "value"]) hm Fn ⟨rfl, rfl, rfl, by decide +kernel, rfl, by decide +kernel, by decide +kernel⟩ (fun _ _ _ _ _ _ us hl => match us, hl with | [_, _], _ => rfl) (fun ds O Q E ⟨_, _, _, e, _⟩ => by rw [e]; rfl) fun F ds O Qd Ed ⟨ms, ns, ev, e, he, hP, q⟩ => ?_
  subst e
  repeat walk_at "dl"
  refine ⟨ms, ns, ev, rfl, he, hP.asc, hP.sub, ?_⟩
  repeat walk_at "dl"
  refine q_ned (Lay.le (lay_tup (n := 0) lays_ints) (by decide)) (Lay.le (lay_tup (n := 0) fun d hd => nomatch hd) (by decide)) ?_
  rw [eqD_tup, show eqDs (ms.map D.int) [] = decide (ms = []) from eqDs_ints (ms := []), decide_eq_false hP.ne]
  exact q
abbrev setD (m : List Int) (h : Int) : D := .tup [tupI m, .int h]
def spSet : SpD := fun ds O Q _ => ∃ (ms ns : List Int) (h : Int) (ev : D), ds = [ev, setD ms h] ∧ SeqOf ev (ns.map D.int) ∧ Part ns ms ∧ 1 ≤ h ∧ Q (.bl true) O
theorem ok_is_set {M : Mo} {f : Addr} {fd : FuncData} (B : Blt M) (h_is_tuple : DefD M "is_tuple" (topS 14) ["value", "many"] 1 spTup) (h_is_integer : DefD M "is_integer" (topS 11) ["value"] 1 (spTy fun t => decide (t = .int))) (h_part : DefD M "is_part" (topS 23) ["events", "value"] 6 spPart) (hm : M.mg "is_set" = some (.ref f)) (Fn : Fun M.K "is_set" "is_set" (topS 24) f fd) : DefD M "is_set" (topS 24) ["events", "value"] 7 spSet := by
  refine def_ok (N := ["events", "value"]) hm Fn ⟨rfl, rfl, rfl, by decide +kernel, rfl, by decide +kernel, by decide +kernel⟩ (fun _ _ _ _ _ _ us hl => match us, hl with | [_, _], _ => rfl) (fun ds O Q E ⟨_, _, _, _, e, _⟩ => by rw [e]; rfl) fun F ds O Qd Ed ⟨ms, ns, h, ev, e, he, hP, hh, q⟩ => ?_
  subst e
  repeat walk_at "dl"
  refine ⟨_, .tuple, 2, rfl, rfl, ?_⟩
  repeat walk_at "dl"
  refine ⟨ms, ns, ev, rfl, he, hP, ?_⟩
  repeat walk_at "dl"
  refine ⟨_, .int, rfl, rfl, ?_⟩
  repeat walk_at "dl"
  rw [decide_eq_true hh]
  exact q
end
section
open PySem PySem.Spec PyProof.Rows L2 DL PySem.NumText
abbrev setsL (ss : List (List Int × Int)) : List D := ss.map fun s => setD s.1 s.2
abbrev twsL (ts : List (List Int)) : List D := ts.map tupI
structure SetsOk (ns : List Int) (ss : List (List Int × Int)) : Prop where
  part : ∀ s ∈ ss, Part ns s.1
  hi : ∀ s ∈ ss, 1 ≤ s.2
  len : ss.length ≤ 100
structure TwsOk (ns : List Int) (ts : List (List Int)) : Prop where
  part : ∀ t ∈ ts, Part ns t
  two : ∀ t ∈ ts, t.length = 2
  asc : ascL ts = true
  len : ts.length ≤ 100
def spSets : SpD := fun ds O Q _ => ∃ (ns : List Int) (ss : List (List Int × Int)) (ev : D), ds = [ev, .lst (setsL ss)] ∧ SeqOf ev (ns.map D.int) ∧ SetsOk ns ss ∧ Q (.bl true) O
theorem ok_are_sets {M : Mo} {f : Addr} {fd : FuncData} (B : Blt M) (h_is_list : DefD M "is_list" (topS 13) ["value"] 1 (spTy fun t => decide (t = .list) || decide (t = .tuple))) (h_is_set : DefD M "is_set" (topS 24) ["events", "value"] 7 spSet) (hm : M.mg "are_sets" = some (.ref f)) (Fn : Fun M.K "are_sets" "are_sets" (topS 25) f fd) : DefD M "are_sets" (topS 25) ["events", "value"] 8 spSets := by
  refine def_ok (N := ["events", "value", "item"]) hm Fn ⟨rfl, rfl, rfl, by decide +kernel, rfl, by decide +kernel, by decide +kernel⟩ (fun _ _ _ _ _ _ us hl => match us, hl with | [_, _], _ => rfl) (fun ds O Q E ⟨_, _, _, e, _⟩ => by rw [e]; rfl) fun F ds O Qd Ed ⟨ns, ss, ev, e, he, hS, q⟩ => ?_
  subst e
  have hz : ss.length ≤ sizeLine := Nat.le_trans hS.len (by decide)
  repeat walk_at "dl"
  refine ⟨_, .list, rfl, rfl, ?_⟩
  repeat walk_at "dl"
  refine pi_ls ?_
  repeat walk_at "dl"
  refine ⟨_, .inl rfl, lc_mapA ss (fun s => setD s.1 s.2) (fun _ => .bl true) hz (fun F0 x hm => ?_) ?_⟩
  · repeat walk_at "dl"
    exact ⟨x.1, ns, x.2, ev, rfl, he, hS.part x hm, hS.hi x hm, rfl, rfl⟩
  · repeat walk_at "dl"
    refine ⟨ss.map fun _ => true, by rw [List.map_map]; rfl, ?_⟩
    rw [all_true]
    exact q
def spTws : SpD := fun ds O Q _ => ∃ (ns : List Int) (ts : List (List Int)) (ev : D), ds = [ev, .lst (twsL ts)] ∧ SeqOf ev (ns.map D.int) ∧ TwsOk ns ts ∧ Q (.bl true) O
theorem ok_are_twins {M : Mo} {f : Addr} {fd : FuncData} (B : Blt M) (h_is_list : DefD M "is_list" (topS 13) ["value"] 1 (spTy fun t => decide (t = .list) || decide (t = .tuple))) (h_is_tuple : DefD M "is_tuple" (topS 14) ["value", "many"] 1 spTup) (h_part : DefD M "is_part" (topS 23) ["events", "value"] 6 spPart) (h_ascends : DefD M "ascends" (topS 15) ["items"] 1 spAsc) (hm : M.mg "are_twins" = some (.ref f)) (Fn : Fun M.K "are_twins" "are_twins" (topS 26) f fd) : DefD M "are_twins" (topS 26) ["events", "value"] 7 spTws := by
  refine def_ok (N := ["events", "value", "item"]) hm Fn ⟨rfl, rfl, rfl, by decide +kernel, rfl, by decide +kernel, by decide +kernel⟩ (fun _ _ _ _ _ _ us hl => match us, hl with | [_, _], _ => rfl) (fun ds O Q E ⟨_, _, _, e, _⟩ => by rw [e]; rfl) fun F ds O Qd Ed ⟨ns, ts, ev, e, he, hS, q⟩ => ?_
  subst e
  have hz : ts.length ≤ sizeLine := Nat.le_trans hS.len (by decide)
  repeat walk_at "dl"
  refine ⟨_, .list, rfl, rfl, ?_⟩
  repeat walk_at "dl"
  refine pi_ls ?_
  repeat walk_at "dl"
  refine ⟨_, .inl rfl, lc_mapA ts tupI (fun _ => .bl true) hz (fun F0 x hm => ?_) ?_⟩
  · repeat walk_at "dl"
    refine ⟨_, .tuple, 2, rfl, rfl, ?_⟩
    rw [show isTup (tupI x) 2 = true by show (((x.map D.int).length : Int) == 2) = true; rw [List.length_map, hS.two x hm]; rfl]
    repeat walk_at "dl"
    exact ⟨x, ns, ev, rfl, he, hS.part x hm, rfl, rfl⟩
  · repeat walk_at "dl"
    refine ⟨ts.map fun _ => true, by rw [List.map_map]; rfl, ?_⟩
    rw [all_true]
    repeat walk_at "dl"
    refine ⟨_, rfl, .inr ⟨ts, .inr rfl, hz, ?_⟩⟩
    rw [hS.asc]
    exact q
end
section
open PySem PySem.Spec PyProof.Rows L2 DL PySem.NumText
/-- a right family -/
structure Fam where
  ev : List Int
  ss : List (List Int × Int)
  ts : List (List Int)
structure Fam.Ok (g : Fam) : Prop where
  asc : Asc g.ev
  ne : g.ev ≠ []
  sets : SetsOk g.ev g.ss
  tws : TwsOk g.ev g.ts
abbrev famN : List Str := ["events", "sets", "twins"]
abbrev famV (g : Fam) : List D := [tupI g.ev, .tup (setsL g.ss), .tup (twsL g.ts)]
abbrev famD (C : Addr) (g : Fam) : D := .obj C famN (famV g)
structure FamC (K : PySem.W.Frag) (C : Addr) : Prop where
  cl : Cls K C
  no1 : NoAttr K C "events"
  no2 : NoAttr K C "sets"
  no3 : NoAttr K C "twins"
def spFamI (K : PySem.W.Frag) : SpD := fun ds O Q _ => ∃ (a C : Addr) (g : Fam), ds = [.raw (.ref a), .lst (g.ev.map D.int), .lst (setsL g.ss), .lst (twsL g.ts)] ∧ O a = some (.ins C [] []) ∧ FamC K C ∧ g.Ok ∧ Q .non (O.up a (.ins C famN (famV g)))
theorem ini_fam {M : Mo} {fI : Addr} {fd : FuncData} (B : Blt M) (h_are_events : DefD M "are_events" (topS 22) ["value"] 4 spAreEv) (h_are_sets : DefD M "are_sets" (topS 25) ["events", "value"] 8 spSets) (h_are_twins : DefD M "are_twins" (topS 26) ["events", "value"] 7 spTws) (Fn : Fun M.K "__init__" "Family.__init__" (inClass (topS 27) 0) fI fd) :
    FnOk M.P M.w M.K M.mg M.base (L2.CX M.P M.w) 9 fI fd ["self", "events", "sets", "twins"] (lift M.K (spFamI M.K)) ∧ (∀ us : List Value, us.length = 4 → bindArgs fd ⟨us, []⟩ = pure ([("self" : Str), "events", "sets", "twins"].zip us)) := by
  refine ⟨met_ok (N := ["self", "events", "sets", "twins"]) Fn ⟨rfl, rfl, rfl, by decide +kernel, rfl, by decide +kernel, by decide +kernel⟩ (fun ds O Q E ⟨a, b, c, e, _⟩ => by rw [e]; rfl) fun F ds O Qd Ed ⟨a, C, g, e, ho, T, G, q⟩ => ?_, fun us hl => ?_⟩
  · subst e
    repeat walk_at "dl"
    refine ⟨_, _, rfl, .inr rfl, G.asc, G.ne, ?_⟩
    repeat walk_at "dl"
    refine ⟨_, _, _, rfl, .inr rfl, G.sets, ?_⟩
    repeat walk_at "dl"
    refine ⟨_, _, _, rfl, .inr rfl, G.tws, ?_⟩
    repeat walk_at "dl"
    refine ws_fld ?_
    repeat walk_at "dl"
    refine ⟨a, C, [], [], rfl, ho, T.cl, T.no1, by decide, by show 0 < 1000; decide, ?_⟩
    repeat walk_at "dl"
    refine ws_fld ?_
    repeat walk_at "dl"
    refine ⟨a, C, ["events"], [tupI g.ev], rfl, Opens.up_same, T.cl, T.no2, by decide, by show 1 < 1000; decide, ?_⟩
    repeat walk_at "dl"
    refine ws_fld ?_
    repeat walk_at "dl"
    refine ⟨a, C, ["events", "sets"], [tupI g.ev, .tup (setsL g.ss)], rfl, Opens.up_same, T.cl, T.no3, by decide, by show 2 < 1000; decide, ?_⟩
    rw [Opens.up_up, Opens.up_up]
    exact wss_nil q
  · obtain ⟨oc, od, kV, doc, pm, an, cdv, ct, osl, rfl, lk, hcd⟩ := Fn.ex
    match us, hl with
    | [_, _, _, _], _ => rfl
end
section
open PySem PySem.Spec PyProof.Rows L2 DL PySem.NumText
local macro_rules | `(tactic| walk_at "dlS") => `(tactic| ((with_reducible show WS _ (Stmt.Assign [Expr.Name _ _] (Expr.ListComp _ [_] _ _) _) _ _ _); refine ws_lc rfl rfl rfl rfl rfl (by kernel_rfl) (by kernel_rfl) ?_))
local macro_rules | `(tactic| walk_at "dlS") => `(tactic| ((with_reducible show WS _ (Stmt.Assign [Expr.Name _ _] (Expr.ListComp _ [_, _] _ _) _) _ _ _); refine ws_lc2 rfl rfl rfl rfl rfl (by kernel_rfl) (by kernel_rfl) ?_))
local macro_rules | `(tactic| walk_at "dlE") => `(tactic| ((with_reducible show We _ (Expr.Attribute _ _ _) _ _ _); refine we_fld ?_))
/-! ### do two sets cross -/
def crossB (a b : List Int) : Bool := decide (0 < (a.filter fun x => decide (x ∈ b)).length) && decide ((a.filter fun x => decide (x ∈ b)).length < min a.length b.length)
def spCr : SpD := fun ds O Q _ => ∃ a b : List Int, ds = [tupI a, tupI b] ∧ a.length ≤ sizeLine ∧ Q (.bl (crossB a b)) O
theorem ok_do_cross {M : Mo} {f : Addr} {fd : FuncData} (B : Blt M) (hm : M.mg "do_cross" = some (.ref f)) (Fn : Fun M.K "do_cross" "do_cross" (topS 39) f fd) : DefD M "do_cross" (topS 39) ["one", "other"] 1 spCr := by
  refine def_ok (N := ["one", "other", "common", "event"]) hm Fn ⟨rfl, rfl, rfl, by decide +kernel, rfl, by decide +kernel, by decide +kernel⟩ (fun _ _ _ _ _ _ us hl => match us, hl with | [_, _], _ => rfl) (fun ds O Q E ⟨_, _, e, _⟩ => by rw [e]; rfl) fun F ds O Qd Ed ⟨a, b, e, hz, q⟩ => ?_
  subst e
  repeat walk_at "dl"
  refine pi_tp ?_
  repeat walk_at "dl"
  refine ⟨_, rfl, lc_filA a D.int (fun x => decide (x ∈ b)) D.int hz (fun F0 x hm => ?_) ?_⟩
  · repeat walk_at "dl"
    refine q_int rfl flat_ints ?_
    rw [inD_int]
    repeat walk_at "dl"
    refine ⟨rfl, rfl, fun _ => ?_⟩
    repeat walk_at "dl"
    exact ⟨rfl, rfl⟩
  · repeat walk_at "dl"
    rw [List.length_map]
    refine if2 (fun h => ?_) (fun h => ?_)
    · repeat walk_at "dl"
      rw [List.length_map, List.length_map]
      have e : crossB a b = decide ((((a.filter fun x => decide (x ∈ b)).length : Nat) : Int) < if ((b.length : Nat) : Int) < ((a.length : Nat) : Int) then ((b.length : Nat) : Int) else ((a.length : Nat) : Int)) := by
        unfold crossB
        have h0 : 0 < (a.filter fun x => decide (x ∈ b)).length := by have := of_decide_eq_true h; omega
        rw [decide_eq_true h0, Bool.true_and]
        refine decide_eq_decide.mpr ?_
        split <;> omega
      rw [e] at q
      exact q
    · have e : crossB a b = false := by
        unfold crossB
        have h0 : ¬ 0 < (a.filter fun x => decide (x ∈ b)).length := by have := of_decide_eq_false h; omega
        rw [decide_eq_false h0]; rfl
      rw [e] at q
      exact q
/-! ### the least crossing pair -/
def crossP (ss : List (List Int)) : List (List Int) := (List.range ss.length).flatMap fun j => ((List.range j).filter fun i => crossB (ss.getD i []) (ss.getD j [])).map fun (i : Nat) => [(i : Int), (j : Int)]
theorem lex_anti : ∀ {a b : List Int}, HT.lexLt a b = false → HT.lexLt b a = false → a = b
  | [], [], _, _ => rfl
  | [], y :: ys, h, _ => by rw [HT.lexLt_nil_cons] at h; cases h
  | x :: xs, [], _, h => by rw [HT.lexLt_nil_cons] at h; cases h
  | x :: xs, y :: ys, h, k => by
    rw [HT.lexLt_cons] at h k
    by_cases e : x = y
    · rw [if_pos e] at h
      rw [if_pos e.symm] at k
      rw [e, lex_anti h k]
    · rw [if_neg e] at h
      rw [if_neg (Ne.symm e)] at k
      have := of_decide_eq_false h
      have := of_decide_eq_false k
      exact absurd (by omega) e
def minL : List (List Int) → List Int
  | [] => []
  | [a] => a
  | a :: b :: r => if HT.lexLt a (minL (b :: r)) then a else minL (b :: r)
theorem minL_ok : ∀ {l : List (List Int)}, l ≠ [] → minL l ∈ l ∧ ∀ k ∈ l, HT.lexLt k (minL l) = false
  | [], h => absurd rfl h
  | [a], _ => ⟨List.mem_singleton.mpr rfl, fun k hk => by rw [List.mem_singleton.mp hk]; exact lex_irr a⟩
  | a :: b :: r, _ => by
    obtain ⟨h1, h2⟩ := minL_ok (l := b :: r) (fun h => nomatch h)
    unfold minL
    by_cases h : HT.lexLt a (minL (b :: r)) = true
    · rw [if_pos h]
      refine ⟨List.mem_cons_self, fun k hk => ?_⟩
      rcases List.mem_cons.mp hk with rfl | hk
      · exact lex_irr _
      · exact NtL.lex_tr _ _ _ (NtL.lex_asym _ _ h) (h2 k hk)
    · rw [if_neg h]
      refine ⟨List.mem_cons_of_mem _ h1, fun k hk => ?_⟩
      rcases List.mem_cons.mp hk with rfl | hk
      · simpa using h
      · exact h2 k hk
theorem minL_eq {l : List (List Int)} {m : List Int} (h : m ∈ l) (hm : ∀ k ∈ l, HT.lexLt k m = false) : m = minL l := by
  obtain ⟨h1, h2⟩ := minL_ok (l := l) (fun e => by rw [e] at h; cases h)
  exact lex_anti (h2 m h) (hm _ h1)
def crossD (g : Fam) : D := if crossP (g.ss.map (·.1)) = [] then .non else tupI (minL (crossP (g.ss.map (·.1))))
theorem eqD_nil {xs : List D} : eqD (.lst xs) (.lst []) = decide (xs = []) := by
  rw [eqD_lst]
  cases xs with
  | nil => rfl
  | cons x xs => rw [eqDs_cn]; rfl
theorem lays_tups {n : Nat} {ls : List (List Int)} : ∀ d ∈ ls.map tupI, Lay (n + 1) d := fun d hd => by
  obtain ⟨i, _, rfl⟩ := List.mem_map.mp hd
  exact lay_tup lays_ints
theorem range_sum : ∀ n : Nat, ((List.range n).flatMap List.range).length ≤ n * n
  | 0 => Nat.le_refl _
  | n + 1 => by
    rw [List.range_succ, List.flatMap_append, List.length_append]
    have := range_sum n
    simp only [List.flatMap_cons, List.flatMap_nil, List.append_nil, List.length_range]
    rw [Nat.add_mul, Nat.mul_add]
    omega
def spCrossing (K : PySem.W.Frag) : SpD := fun ds O Q _ => ∃ (C : Addr) (g : Fam), ds = [famD C g] ∧ FamC K C ∧ g.ss.length ≤ 100 ∧ (∀ s ∈ g.ss, s.1.length ≤ sizeLine) ∧ Q (crossD g) O
theorem ok_crossing {M : Mo} {f : Addr} {fd : FuncData} (B : Blt M) (h_do_cross : DefD M "do_cross" (topS 39) ["one", "other"] 1 spCr) (hm : M.mg "crossing" = some (.ref f)) (Fn : Fun M.K "crossing" "crossing" (topS 40) f fd) : DefD M "crossing" (topS 40) ["family"] 2 (spCrossing M.K) := by
  refine def_ok (N := ["family", "sets", "found", "members", "height", "i", "j"]) hm Fn ⟨rfl, rfl, rfl, by decide +kernel, rfl, by decide +kernel, by decide +kernel⟩ (fun _ _ _ _ _ _ us hl => match us, hl with | [_], _ => rfl) (fun ds O Q E ⟨_, _, e, _⟩ => by rw [e]; rfl) fun F ds O Qd Ed ⟨C, g, e, hC, hn, hs, q⟩ => ?_
  subst e
  have hz : g.ss.length ≤ sizeLine := Nat.le_trans hn (by decide)
  repeat walk_at "dl"
  refine ws_nm ?a1 ?v1 ?hq1 ?hs1
  case a1 => rfl
  case v1 => walk_at "loc"
  case hs1 => (intro env he; obtain ⟨⟩ := env; cases he; kernel_rfl)
  repeat walk_at "dl"
  refine pi_tp ?_
  repeat walk_at "dl"
  refine ⟨C, _, _, _, rfl, hC.cl, hC.no2, rfl, _, rfl, lc_mapA g.ss (fun s => setD s.1 s.2) (fun s => tupI s.1) hz (fun F0 x hm => ?_) ?_⟩
  · repeat walk_at "dl"
    exact ⟨rfl, rfl⟩
  · repeat walk_at "dl"
    rw [List.length_map]
    refine ⟨by omega, by omega, ?_⟩
    have en : ((g.ss.length : Nat) : Int).toNat = g.ss.length := Int.toNat_natCast _
    rw [en]
    have gd : ∀ i, i < g.ss.length → ((g.ss.map fun s => tupI s.1)[i]? : Option D) = some (tupI ((g.ss.map (·.1)).getD i [])) := fun i hi => by
      rw [List.getElem?_map, List.getElem?_eq_getElem hi, List.getD_eq_getElem?_getD, List.getElem?_map, List.getElem?_eq_getElem hi]; rfl
    refine lc2_fil (List.range g.ss.length) (fun j : Nat => D.int (j : Int)) List.range (fun i : Nat => D.int (i : Int)) (fun j i => crossB ((g.ss.map (·.1)).getD i []) ((g.ss.map (·.1)).getD j [])) (fun j i => tupI [(i : Int), (j : Int)]) (N := 10000) (Nat.le_trans (range_sum _) (Nat.mul_le_mul hn hn)) (by decide) (fun F0 j hj => ?_) ?_
    · have hj' := List.mem_range.mp hj
      repeat walk_at "dl"
      refine ⟨rfl, ?_⟩
      repeat walk_at "dl"
      refine ⟨by omega, by omega, rfl, by rw [Int.toNat_natCast, range_len, List.length_map, List.length_range], by rw [Int.toNat_natCast]; rfl, fun F1 i hi => ?_⟩
      have hi' := List.mem_range.mp hi
      repeat walk_at "dl"
      refine q_ixl (at_nat rfl (gd i (by omega))) ?_
      repeat walk_at "dl"
      refine q_ixl (at_nat rfl (gd j (by omega))) ?_
      repeat walk_at "dl"
      refine ⟨_, _, rfl, ?_, ?_⟩
      · rw [List.getD_eq_getElem?_getD, List.getElem?_map, List.getElem?_eq_getElem (show i < g.ss.length by omega)]
        exact hs _ (List.getElem_mem _)
      · repeat walk_at "dl"
        refine ⟨rfl, rfl, fun _ => ?_⟩
        repeat walk_at "dl"
        exact ⟨rfl, rfl⟩
    · have eP : ((List.range g.ss.length).flatMap fun x => ((List.range x).filter fun i => crossB ((g.ss.map (·.1)).getD i []) ((g.ss.map (·.1)).getD x [])).map fun (i : Nat) => tupI [(i : Int), (x : Int)]) = (crossP (g.ss.map (·.1))).map tupI := by
        unfold crossP
        rw [List.length_map, List.map_flatMap]
        simp only [List.map_map]
        rfl
      rw [eP]
      repeat walk_at "dl"
      refine q_ned (Lay.le (lay_lst (n := 1) lays_tups) (by decide)) (Lay.le (lay_lst (n := 0) fun d hd => nomatch hd) (by decide)) ?_
      rw [eqD_nil]
      by_cases h0 : crossP (g.ss.map (·.1)) = []
      · rw [h0]
        repeat walk_at "dl"
        unfold crossD at q
        rw [if_pos h0] at q
        exact q
      · rw [decide_eq_false (fun e => h0 (List.map_eq_nil_iff.mp e))]
        repeat ((fail_if_success (with_reducible show We _ (Expr.Call (Expr.Name "min" _) _ [] _) _ _ _)); walk_at "dl")
        refine we_minT B rfl rfl ?_
        repeat walk_at "dl"
        refine ⟨_, rfl, h0, fun m hm hk => ?_⟩
        unfold crossD at q
        rw [if_neg h0] at q
        rw [minL_eq hm hk]
        exact q
end
section
open PySem PySem.Spec PyProof.Rows L2 DL PySem.NumText
local macro_rules | `(tactic| walk_at "dlS") => `(tactic| first
  | ((with_reducible show WS _ (Stmt.Assign [Expr.Name _ _] (Expr.ListComp _ [_] _ _) _) _ _ _); refine ws_lc rfl rfl rfl rfl rfl (by kernel_rfl) (by kernel_rfl) ?_)
  | ((with_reducible show WS _ (Stmt.Assign [Expr.Name _ _] (Expr.ListComp _ [_, _] _ _) _) _ _ _); refine ws_lc2 rfl rfl rfl rfl rfl (by kernel_rfl) (by kernel_rfl) ?_))
local macro_rules | `(tactic| walk_at "dlE") => `(tactic| ((with_reducible show We _ (Expr.Attribute _ _ _) _ _ _); refine we_fld ?_))
/-! ### the coin bar told -/
theorem q_nint {x : D} {xs : List D} {O : Opens} {Q : DK} (h1 : flatD x = true) (h2 : xs.all flatD = true) (h : Q (.bl (!inD x xs)) O) : CmpQ .NotIn x (.tup xs) O Q := ⟨h1, h2, h⟩
theorem crossP_mem {ss : List (List Int)} {m : List Int} (h : m ∈ crossP ss) : ∃ i j : Nat, m = [(i : Int), (j : Int)] ∧ i < j ∧ j < ss.length ∧ crossB (ss.getD i []) (ss.getD j []) = true := by
  unfold crossP at h
  obtain ⟨j, hj, h⟩ := List.mem_flatMap.mp h
  obtain ⟨i, hi, rfl⟩ := List.mem_map.mp h
  obtain ⟨h1, h2⟩ := List.mem_filter.mp hi
  exact ⟨i, j, rfl, List.mem_range.mp h1, List.mem_range.mp hj, h2⟩
/-- a crossing pair gives its three events -/
def trip (a b : List Int) : List Int := [(a.filter fun x => !decide (x ∈ b)).headD 0, (b.filter fun x => !decide (x ∈ a)).headD 0, (a.filter fun x => decide (x ∈ b)).headD 0]
theorem cross_ne {a b : List Int} (na : a.Nodup) (nb : b.Nodup) (h : crossB a b = true) : (a.filter fun x => !decide (x ∈ b)) ≠ [] ∧ (b.filter fun x => !decide (x ∈ a)) ≠ [] ∧ (a.filter fun x => decide (x ∈ b)) ≠ [] := by
  unfold crossB at h
  obtain ⟨h1, h2⟩ := (Bool.and_eq_true _ _).mp h
  have h1 := of_decide_eq_true h1
  have h2 := of_decide_eq_true h2
  have h3 : (a.filter fun x => decide (x ∈ b)).length < a.length := by omega
  have h4 : (a.filter fun x => decide (x ∈ b)).length < b.length := by omega
  refine ⟨fun e => ?_, fun e => ?_, fun e => by rw [e] at h1; exact Nat.lt_irrefl _ h1⟩
  · have : (a.filter fun x => decide (x ∈ b)) = a := List.filter_eq_self.mpr fun x hx => by
      have := List.filter_eq_nil_iff.mp e x hx
      simpa using this
    rw [this] at h3
    exact Nat.lt_irrefl _ h3
  · have sub : b ⊆ a.filter fun x => decide (x ∈ b) := fun x hx => by
      have := List.filter_eq_nil_iff.mp e x hx
      exact List.mem_filter.mpr ⟨by simpa using this, decide_eq_true hx⟩
    have := List.Nodup.length_le_of_subset nb sub
    omega
def barD (g : Fam) : D := if crossP (g.ss.map (·.1)) = [] then .non else .tup ((minL (crossP (g.ss.map (·.1))) ++ trip ((g.ss.map (·.1)).getD ((minL (crossP (g.ss.map (·.1)))).getD 0 0).toNat []) ((g.ss.map (·.1)).getD ((minL (crossP (g.ss.map (·.1)))).getD 1 0).toNat [])).map D.int)
structure SetsN (ss : List (List Int × Int)) : Prop where
  len : ss.length ≤ 100
  nd : ∀ s ∈ ss, s.1.Nodup
  sz : ∀ s ∈ ss, s.1.length ≤ 100
def spCoin (K : PySem.W.Frag) : SpD := fun ds O Q _ => ∃ (C : Addr) (g : Fam), ds = [famD C g] ∧ FamC K C ∧ SetsN g.ss ∧ Q (barD g) O
theorem head_at {l : List Int} (h : l ≠ []) : atI (l.map D.int) 0 = some (.int (l.headD 0)) := by
  cases l with
  | nil => exact absurd rfl h
  | cons a r => exact at_nat (i := 0) rfl rfl
theorem ok_coin_bar {M : Mo} {f : Addr} {fd : FuncData} (B : Blt M) (h_crossing : DefD M "crossing" (topS 40) ["family"] 2 (spCrossing M.K)) (hm : M.mg "coin_bar" = some (.ref f)) (Fn : Fun M.K "coin_bar" "coin_bar" (topS 44) f fd) : DefD M "coin_bar" (topS 44) ["family"] 3 (spCoin M.K) := by
  refine def_ok (N := ["family", "found", "one", "other", "first", "second", "common", "index", "event"]) hm Fn ⟨rfl, rfl, rfl, by decide +kernel, rfl, by decide +kernel, by decide +kernel⟩ (fun _ _ _ _ _ _ us hl => match us, hl with | [_], _ => rfl) (fun ds O Q E ⟨_, _, e, _⟩ => by rw [e]; rfl) fun F ds O Qd Ed ⟨C, g, e, hC, hn, q⟩ => ?_
  subst e
  repeat walk_at "dl"
  refine ⟨C, g, rfl, hC, hn.len, fun s hs => Nat.le_trans (hn.sz s hs) (by decide), ?_⟩
  unfold crossD
  unfold barD at q
  by_cases h0 : crossP (g.ss.map (·.1)) = []
  · rw [if_pos h0] at q ⊢
    repeat walk_at "dl"
    refine q_isn (fun v e => nomatch e) ?_
    repeat walk_at "dl"
    exact q
  · rw [if_neg h0] at q ⊢
    obtain ⟨i, j, hm, hij, hj, hc⟩ := crossP_mem (minL_ok h0).1
    rw [hm] at q ⊢
    rw [List.length_map] at hj
    have si : (g.ss.map (·.1)).getD i [] = (g.ss[i]'(by omega)).1 := by rw [List.getD_eq_getElem?_getD, List.getElem?_map, List.getElem?_eq_getElem (show i < g.ss.length by omega)]; rfl
    have sj : (g.ss.map (·.1)).getD j [] = (g.ss[j]'hj).1 := by rw [List.getD_eq_getElem?_getD, List.getElem?_map, List.getElem?_eq_getElem hj]; rfl
    have e0 : (([(i : Int), (j : Int)] : List Int).getD 0 0).toNat = i := Int.toNat_natCast i
    have e1 : (([(i : Int), (j : Int)] : List Int).getD 1 0).toNat = j := Int.toNat_natCast j
    rw [e0, e1] at q
    have mi : g.ss[i]'(by omega) ∈ g.ss := List.getElem_mem _
    have mj : g.ss[j]'hj ∈ g.ss := List.getElem_mem _
    have hz1 := Nat.le_trans (hn.sz _ mi) (show 100 ≤ sizeLine by decide)
    have hz2 := Nat.le_trans (hn.sz _ mj) (show 100 ≤ sizeLine by decide)
    rw [si, sj] at hc q
    obtain ⟨n1, n2, n3⟩ := cross_ne (hn.nd _ mi) (hn.nd _ mj) hc
    have gd : ∀ k (hk : k < g.ss.length), (setsL g.ss)[k]? = some (setD (g.ss[k]'hk).1 (g.ss[k]'hk).2) := fun k hk => by rw [List.getElem?_map, List.getElem?_eq_getElem hk]; rfl
    have gi := gd i (by omega)
    have gj := gd j hj
    generalize g.ss[i]'(by omega) = a at *
    generalize g.ss[j]'hj = b at *
    repeat walk_at "dl"
    refine q_isn (fun v e => nomatch e) ?_
    repeat walk_at "dl"
    refine pi_tp ?_
    repeat walk_at "dl"
    refine ⟨[(i : Nat), j].map fun k : Nat => D.int (k : Int), rfl, lc_mapA [i, j] (fun k : Nat => D.int (k : Int)) (fun k => tupI (if k = i then a.1 else b.1)) (by show 2 ≤ sizeLine; decide) (fun F0 k hk => ?_) ?_⟩
    · repeat walk_at "dl"
      refine ⟨C, _, _, _, rfl, hC.cl, hC.no2, rfl, ?_⟩
      by_cases e : k = i
      · subst e
        repeat walk_at "dl"
        refine q_ixt (at_nat rfl gi) ?_
        repeat walk_at "dl"
        rw [if_pos rfl]
        exact ⟨rfl, rfl⟩
      · have ek : k = j := by
          rcases List.mem_cons.mp hk with h | h
          · exact absurd h e
          · exact List.mem_singleton.mp h
        subst ek
        repeat walk_at "dl"
        refine q_ixt (at_nat rfl gj) ?_
        repeat walk_at "dl"
        rw [if_neg e]
        exact ⟨rfl, rfl⟩
    · have ej : ¬ j = i := by omega
      have e2 : [i, j].map (fun k => tupI (if k = i then a.1 else b.1)) = [tupI a.1, tupI b.1] := by
        show [tupI (if i = i then a.1 else b.1), tupI (if j = i then a.1 else b.1)] = _
        rw [if_pos rfl, if_neg ej]
      rw [e2]
      refine q_lcf ?_
      refine wg_unl rfl rfl ?_
      repeat walk_at "dl"
      refine pi_tp ?_
      repeat walk_at "dl"
      refine ⟨_, rfl, lc_filA a.1 D.int (fun x => !decide (x ∈ b.1)) D.int hz1 (fun F0 x hm => ?_) ?_⟩
      · repeat walk_at "dl"
        refine q_nint rfl flat_ints ?_
        rw [inD_int]
        repeat walk_at "dl"
        refine ⟨rfl, rfl, fun _ => ?_⟩
        repeat walk_at "dl"
        exact ⟨rfl, rfl⟩
      repeat walk_at "dl"
      refine pi_tp ?_
      repeat walk_at "dl"
      refine ⟨_, rfl, lc_filA b.1 D.int (fun x => !decide (x ∈ a.1)) D.int hz2 (fun F0 x hm => ?_) ?_⟩
      · repeat walk_at "dl"
        refine q_nint rfl flat_ints ?_
        rw [inD_int]
        repeat walk_at "dl"
        refine ⟨rfl, rfl, fun _ => ?_⟩
        repeat walk_at "dl"
        exact ⟨rfl, rfl⟩
      repeat walk_at "dl"
      refine pi_tp ?_
      repeat walk_at "dl"
      refine ⟨_, rfl, lc_filA a.1 D.int (fun x => decide (x ∈ b.1)) D.int hz1 (fun F0 x hm => ?_) ?_⟩
      · repeat walk_at "dl"
        refine q_int rfl flat_ints ?_
        rw [inD_int]
        repeat walk_at "dl"
        refine ⟨rfl, rfl, fun _ => ?_⟩
        repeat walk_at "dl"
        exact ⟨rfl, rfl⟩
      repeat walk_at "dl"
      refine wa_star ?_
      repeat walk_at "dl"
      refine ⟨_, .inl rfl, ?_⟩
      repeat walk_at "dl"
      refine q_ixl (head_at n1) ?_
      repeat walk_at "dl"
      refine q_ixl (head_at n2) ?_
      repeat walk_at "dl"
      refine q_ixl (head_at n3) ?_
      repeat walk_at "dl"
      exact q
/-! ### which values are coin bars -/
def isBarL (ss : List (List Int)) : List Int → Bool
  | [i, j, a, b, e] => decide (0 ≤ i) && decide (i < ss.length) && (decide (0 ≤ j) && decide (j < ss.length)) && (decide (a ∈ ss.getD i.toNat []) && !decide (a ∈ ss.getD j.toNat []) && decide (b ∈ ss.getD j.toNat []) && !decide (b ∈ ss.getD i.toNat []) && (decide (e ∈ ss.getD i.toNat []) && decide (e ∈ ss.getD j.toNat [])))
  | _ => false
def intsD : List D → Option (List Int)
  | [] => some []
  | .int i :: r => (intsD r).map (i :: ·)
  | _ :: _ => none
theorem intsD_map : ∀ l : List Int, intsD (l.map .int) = some l
  | [] => rfl
  | i :: l => by
    show (intsD (l.map .int)).map (i :: ·) = _
    rw [intsD_map l]; rfl
theorem intsD_some : ∀ {xs : List D} {l : List Int}, intsD xs = some l → xs = l.map .int
  | [], l, h => by cases h; rfl
  | .int i :: r, l, h => by
    obtain ⟨m, h1, rfl⟩ := Option.map_eq_some_iff.mp (show (intsD r).map (i :: ·) = some l from h)
    rw [intsD_some h1]; rfl
def isBarD (ss : List (List Int)) : D → Bool
  | .tup xs => match intsD xs with
    | some l => isBarL ss l
    | none => false
  | _ => false
/-- a value asked: flat, or a tuple of flat things -/
structure Val1 (O : Opens) (d : D) : Prop where
  ty : ∃ t, tyD O d = some t
  tup : ∀ xs, d = .tup xs → xs.length ≤ 100 ∧ ∀ x ∈ xs, ∃ t, tyD O x = some t
def isIntO (O : Opens) (d : D) : Bool := decide (tyD O d = some .int)
theorem ints_all {O : Opens} : ∀ {xs : List D}, (xs.map (isIntO O)).all id = true → ∃ l : List Int, xs = l.map .int
  | [], _ => ⟨[], rfl⟩
  | x :: xs, h => by
    rw [List.map_cons, List.all_cons] at h
    obtain ⟨h1, h2⟩ := (Bool.and_eq_true _ _).mp h
    obtain ⟨i, rfl⟩ := ty_int (of_decide_eq_true (show decide (tyD O x = some .int) = true from h1))
    obtain ⟨l, rfl⟩ := ints_all h2
    exact ⟨i :: l, rfl⟩
theorem ints_not {O : Opens} : ∀ {xs : List D}, (xs.map (isIntO O)).all id = false → intsD xs = none
  | [], h => by cases h
  | x :: xs, h => by
    rw [List.map_cons, List.all_cons] at h
    cases hx : isIntO O x with
    | false =>
      cases x with
      | int i => exact absurd hx (by unfold isIntO; rw [decide_eq_true (show tyD O (.int i) = some .int from rfl)]; decide)
      | _ => rfl
    | true =>
      obtain ⟨i, rfl⟩ := ty_int (of_decide_eq_true (show decide (tyD O x = some .int) = true from hx))
      rw [hx] at h
      have h : (xs.map (isIntO O)).all id = false := h
      show (intsD xs).map (i :: ·) = none
      rw [ints_not h]; rfl
theorem len5 : ∀ {l : List Int}, l.length = 5 → ∃ i j a b e, l = [i, j, a, b, e]
  | [i, j, a, b, e], _ => ⟨i, j, a, b, e, rfl⟩
def spIsBar (K : PySem.W.Frag) : SpD := fun ds O Q _ => ∃ (C : Addr) (g : Fam) (d : D), ds = [famD C g, d] ∧ FamC K C ∧ SetsN g.ss ∧ Val1 O d ∧ Q (.bl (isBarD (g.ss.map (·.1)) d)) O
theorem ok_is_coin_bar {M : Mo} {f : Addr} {fd : FuncData} (B : Blt M) (h_is_integer : DefD M "is_integer" (topS 11) ["value"] 1 (spTy fun t => decide (t = .int))) (hm : M.mg "is_coin_bar" = some (.ref f)) (Fn : Fun M.K "is_coin_bar" "is_coin_bar" (topS 45) f fd) : DefD M "is_coin_bar" (topS 45) ["family", "value"] 2 (spIsBar M.K) := by
  refine def_ok (N := ["family", "value", "many", "one", "other", "first", "second", "common", "item"]) hm Fn ⟨rfl, rfl, rfl, by decide +kernel, rfl, by decide +kernel, by decide +kernel⟩ (fun _ _ _ _ _ _ us hl => match us, hl with | [_, _], _ => rfl) (fun ds O Q E ⟨_, _, _, e, _⟩ => by rw [e]; rfl) fun F ds O Qd Ed ⟨C, g, d, e, hC, hn, hv, q⟩ => ?_
  subst e
  obtain ⟨t, ht⟩ := hv.ty
  have fin0 : isBarD (g.ss.map (·.1)) d = false → Qd (.bl false) O := fun e => e ▸ q
  by_cases hi' : t = .tuple
  · subst hi'
    obtain ⟨xs, rfl⟩ := ty_tup ht
    obtain ⟨hl, hx⟩ := hv.tup xs rfl
    have hz : xs.length ≤ sizeLine := Nat.le_trans hl (by decide)
    repeat walk_at "dl"
    refine if2 (fun h5 => ?_) (fun h5 => ?_)
    · repeat walk_at "dl"
      refine fin0 ?_
      have h5 : xs.length ≠ 5 := fun w => by rw [w] at h5; exact absurd h5 (by decide)
      show (match intsD xs with | some l => isBarL _ l | none => false) = false
      cases hd : intsD xs with
      | none => rfl
      | some l =>
        have e := intsD_some hd
        have hl5 : l.length ≠ 5 := fun w => h5 (by rw [e, List.length_map, w])
        show isBarL _ l = false
        match l, hl5 with
        | [], _ => rfl
        | [_], _ => rfl
        | [_, _], _ => rfl
        | [_, _, _], _ => rfl
        | [_, _, _, _], _ => rfl
        | [_, _, _, _, _], w => exact absurd rfl w
        | _ :: _ :: _ :: _ :: _ :: _ :: _, _ => rfl
    · have h5 : xs.length = 5 := by
        have h5 : ((xs.length : Int) == 5) = true := by
          cases w : ((xs.length : Int) == 5) with
          | true => rfl
          | false => rw [w] at h5; exact absurd h5 (by decide)
        have := eq_of_beq h5
        omega
      repeat walk_at "dl"
      refine pi_tp ?_
      repeat walk_at "dl"
      refine ⟨_, rfl, lc_mapD xs (fun x => .bl (isIntO O x)) hz (fun F0 x hm => ?_) ?_⟩
      · obtain ⟨tx, htx⟩ := hx x hm
        repeat walk_at "dl"
        refine ⟨_, tx, rfl, htx, ?_, rfl⟩
        unfold isIntO
        rw [htx]
        exact congrArg D.bl (decide_eq_decide.mpr ⟨fun e => e ▸ rfl, fun e => Option.some.inj e⟩)
      repeat walk_at "dl"
      refine ⟨xs.map (isIntO O), by rw [List.map_map]; rfl, ?_⟩
      cases ha : (xs.map (isIntO O)).all id with
      | false =>
        repeat walk_at "dl"
        refine fin0 ?_
        show (match intsD xs with | some l => isBarL _ l | none => false) = false
        rw [ints_not ha]
      | true =>
        obtain ⟨l, rfl⟩ := ints_all ha
        rw [List.length_map] at h5
        obtain ⟨i, j, a, b, e, rfl⟩ := len5 h5
        repeat walk_at "dl"
        refine ⟨C, _, _, _, rfl, hC.cl, hC.no2, rfl, ?_⟩
        repeat walk_at "dl"
        rw [List.length_map]
        have eB : isBarD (g.ss.map (·.1)) (.tup ([i, j, a, b, e].map .int)) = isBarL (g.ss.map (·.1)) [i, j, a, b, e] := by
          show (match intsD ([i, j, a, b, e].map .int) with | some l => isBarL _ l | none => false) = _
          rw [intsD_map]
        rw [eB] at fin0 q
        have eL : isBarL (g.ss.map (·.1)) [i, j, a, b, e] = (decide (0 ≤ i) && decide (i < (g.ss.length : Int)) && (decide (0 ≤ j) && decide (j < (g.ss.length : Int))) && (decide (a ∈ (g.ss.map (·.1)).getD i.toNat []) && !decide (a ∈ (g.ss.map (·.1)).getD j.toNat []) && decide (b ∈ (g.ss.map (·.1)).getD j.toNat []) && !decide (b ∈ (g.ss.map (·.1)).getD i.toNat []) && (decide (e ∈ (g.ss.map (·.1)).getD i.toNat []) && decide (e ∈ (g.ss.map (·.1)).getD j.toNat [])))) := by
          show (decide (0 ≤ i) && decide (i < ((g.ss.map (·.1)).length : Int)) && (decide (0 ≤ j) && decide (j < ((g.ss.map (·.1)).length : Int))) && _) = _
          rw [List.length_map]
        rw [eL] at fin0 q
        refine if2 (fun h1 => ?_) (fun h1 => ?_)
        case refine_2 =>
          repeat walk_at "dl"
          exact fin0 (by rw [h1]; rfl)
        repeat walk_at "dl"
        cases h2 : decide (i < (g.ss.length : Int)) with
        | false =>
          repeat walk_at "dl"
          exact fin0 (by rw [h1, h2]; rfl)
        | true =>
        repeat walk_at "dl"
        refine if2 (fun h3 => ?_) (fun h3 => ?_)
        case refine_2 =>
          repeat walk_at "dl"
          exact fin0 (by rw [h1, h2, h3]; rfl)
        repeat walk_at "dl"
        cases h4 : decide (j < (g.ss.length : Int)) with
        | false =>
          repeat walk_at "dl"
          exact fin0 (by rw [h1, h2, h3, h4]; rfl)
        | true =>
        rw [h1, h2, h3, h4] at fin0 q
        simp only [Bool.true_and] at fin0 q
        obtain ⟨n, rfl⟩ := Int.eq_ofNat_of_zero_le (of_decide_eq_true h1)
        obtain ⟨m, rfl⟩ := Int.eq_ofNat_of_zero_le (of_decide_eq_true h3)
        have hn1 : n < g.ss.length := by have := of_decide_eq_true h2; omega
        have hm1 : m < g.ss.length := by have := of_decide_eq_true h4; omega
        have gd : ∀ k (hk : k < g.ss.length), (setsL g.ss)[k]? = some (setD (g.ss[k]'hk).1 (g.ss[k]'hk).2) := fun k hk => by rw [List.getElem?_map, List.getElem?_eq_getElem hk]; rfl
        have si : (g.ss.map (·.1)).getD (Int.toNat (n : Int)) [] = (g.ss[n]'hn1).1 := by rw [Int.toNat_natCast, List.getD_eq_getElem?_getD, List.getElem?_map, List.getElem?_eq_getElem hn1]; rfl
        have sj : (g.ss.map (·.1)).getD (Int.toNat (m : Int)) [] = (g.ss[m]'hm1).1 := by rw [Int.toNat_natCast, List.getD_eq_getElem?_getD, List.getElem?_map, List.getElem?_eq_getElem hm1]; rfl
        rw [si, sj] at fin0 q
        have gi := gd n hn1
        have gj := gd m hm1
        repeat walk_at "dl"
        refine ⟨C, _, _, _, rfl, hC.cl, hC.no2, rfl, ?_⟩
        repeat walk_at "dl"
        refine q_ixt (at_nat rfl gi) ?_
        repeat walk_at "dl"
        refine ⟨C, _, _, _, rfl, hC.cl, hC.no2, rfl, ?_⟩
        repeat walk_at "dl"
        refine q_ixt (at_nat rfl gj) ?_
        repeat walk_at "dl"
        refine q_nint rfl flat_ints ?_
        rw [inD_int]
        repeat walk_at "dl"
        cases h5 : decide (a ∈ (g.ss[n]'hn1).1) with
        | false =>
          repeat walk_at "dl"
          exact fin0 (by rw [h5]; rfl)
        | true =>
        repeat walk_at "dl"
        refine q_int rfl flat_ints ?_
        rw [inD_int]
        repeat walk_at "dl"
        cases h6 : decide (a ∈ (g.ss[m]'hm1).1) with
        | true =>
          repeat walk_at "dl"
          exact fin0 (by rw [h5, h6]; rfl)
        | false =>
        repeat walk_at "dl"
        refine q_nint rfl flat_ints ?_
        rw [inD_int]
        repeat walk_at "dl"
        cases h7 : decide (b ∈ (g.ss[m]'hm1).1) with
        | false =>
          repeat walk_at "dl"
          exact fin0 (by rw [h5, h6, h7]; rfl)
        | true =>
        repeat walk_at "dl"
        refine q_int rfl flat_ints ?_
        rw [inD_int]
        repeat walk_at "dl"
        cases h8 : decide (b ∈ (g.ss[n]'hn1).1) with
        | true =>
          repeat walk_at "dl"
          exact fin0 (by rw [h5, h6, h7, h8]; rfl)
        | false =>
        rw [h5, h6, h7, h8] at fin0 q
        repeat walk_at "dl"
        refine q_int rfl flat_ints ?_
        rw [inD_int]
        repeat walk_at "dl"
        cases h9 : decide (e ∈ (g.ss[n]'hn1).1) with
        | false =>
          repeat walk_at "dl"
          exact fin0 (by rw [h9]; rfl)
        | true =>
        rw [h9] at q
        repeat walk_at "dl"
        refine q_int rfl flat_ints ?_
        rw [inD_int]
        exact q
  · have e : isBarD (g.ss.map (·.1)) d = false := by
      cases d with
      | tup xs => exact absurd (Option.some.inj (show some Ty.tuple = some t from ht)).symm hi'
      | _ => rfl
    repeat walk_at "dl"
    refine ift (by cases t <;> first | rfl | exact absurd rfl hi') ?_
    repeat walk_at "dl"
    exact fin0 e
/-! ### what a bar lacks -/
theorem isBarL_len {ss : List (List Int)} : ∀ {l : List Int}, isBarL ss l = true → l.length = 5
  | [_, _, _, _, _], _ => rfl
  | [], h => nomatch h
  | [_], h => nomatch h
  | [_, _], h => nomatch h
  | [_, _, _], h => nomatch h
  | [_, _, _, _], h => nomatch h
  | _ :: _ :: _ :: _ :: _ :: _ :: _, h => nomatch h
def joinB (ss : List (List Int)) (l : List Int) : Bool := ss.any fun m => decide (l.getD 2 0 ∈ m) && decide (l.getD 3 0 ∈ m)
structure Names2 (M : Mo) (CB : Addr) : Prop where
  any : M.mg "any" = none
  half : GTup M "HALF" [1, 2]
  quarter : GTup M "QUARTER" [1, 4]
  bar : XCls M "InvalidBar" CB "given" 1
def spLack (K : PySem.W.Frag) (CB : Addr) : SpD := fun ds O Q E => ∃ (C : Addr) (g : Fam) (d : D), ds = [famD C g, d] ∧ FamC K C ∧ SetsN g.ss ∧ Val1 O d ∧ ((isBarD (g.ss.map (·.1)) d = false ∧ E ⟨CB, ["given"], [d]⟩ O) ∨ ∃ l, d = tupI l ∧ isBarL (g.ss.map (·.1)) l = true ∧ Q (tupI (if joinB (g.ss.map (·.1)) l then [1, 2] else [1, 4])) O)
theorem ok_bar_lack {M : Mo} {CB : Addr} {f : Addr} {fd : FuncData} (B : Blt M) (N2 : Names2 M CB) (h_is_coin_bar : DefD M "is_coin_bar" (topS 45) ["family", "value"] 2 (spIsBar M.K)) (hm : M.mg "bar_lack" = some (.ref f)) (Fn : Fun M.K "bar_lack" "bar_lack" (topS 46) f fd) : DefD M "bar_lack" (topS 46) ["family", "bar"] 3 (spLack M.K CB) := by
  obtain ⟨nAny, nHalf, nQuarter, nBar⟩ := N2
  refine def_ok (N := ["family", "bar", "first", "second", "members", "height"]) hm Fn ⟨rfl, rfl, rfl, by decide +kernel, rfl, by decide +kernel, by decide +kernel⟩ (fun _ _ _ _ _ _ us hl => match us, hl with | [_, _], _ => rfl) (fun ds O Q E ⟨_, _, _, e, _⟩ => by rw [e]; rfl) fun F ds O Qd Ed ⟨C, g, d, e, hC, hn, hv, h⟩ => ?_
  subst e
  have hz : g.ss.length ≤ sizeLine := Nat.le_trans hn.len (by decide)
  repeat walk_at "dl"
  refine ⟨C, g, d, rfl, hC, hn, hv, ?_⟩
  rcases h with ⟨hb, q⟩ | ⟨l, rfl, hb, q⟩
  · rw [hb]
    repeat walk_at "dl"
    refine ws_raise nBar (Nat.le_of_ble_eq_true rfl) rfl rfl ?_
    repeat walk_at "dl"
    exact q
  · have eB : isBarD (g.ss.map (·.1)) (tupI l) = true := by
      show (match intsD (l.map .int) with | some l => isBarL _ l | none => false) = true
      rw [intsD_map]; exact hb
    rw [eB]
    obtain ⟨i, j, a, b, e, rfl⟩ := len5 (isBarL_len hb)
    repeat walk_at "dl"
    refine we_any nAny rfl rfl ?_
    repeat walk_at "dl"
    refine pi_tp ?_
    repeat walk_at "dl"
    refine ⟨C, _, _, _, rfl, hC.cl, hC.no2, rfl, _, rfl, lc_mapA g.ss (fun s => setD s.1 s.2) (fun s => .bl (decide (a ∈ s.1) && decide (b ∈ s.1))) hz (fun F0 x hm => ?_) ?_⟩
    · repeat walk_at "dl"
      refine q_int rfl flat_ints ?_
      rw [inD_int]
      repeat walk_at "dl"
      cases h1 : decide (a ∈ x.1) with
      | false =>
        repeat walk_at "dl"
        exact ⟨rfl, rfl⟩
      | true =>
        repeat walk_at "dl"
        refine q_int rfl flat_ints ?_
        rw [inD_int]
        exact ⟨rfl, rfl⟩
    · repeat walk_at "dl"
      refine ⟨g.ss.map fun s => decide (a ∈ s.1) && decide (b ∈ s.1), by rw [List.map_map]; rfl, ?_⟩
      have e1 : (g.ss.map fun s => decide (a ∈ s.1) && decide (b ∈ s.1)).any id = joinB (g.ss.map (·.1)) [i, j, a, b, e] := by
        unfold joinB
        rw [List.any_map, List.any_map]; rfl
      rw [e1]
      cases hj : joinB (g.ss.map (·.1)) [i, j, a, b, e] with
      | true =>
        rw [hj] at q
        repeat walk_at "dl"
        exact we_gtup nHalf rfl q
      | false =>
        rw [hj] at q
        repeat walk_at "dl"
        exact we_gtup nQuarter rfl q
end
section
open PySem PySem.Spec PyProof.Rows L2 DL PySem.NumText
/-! ### the law's box -/
def spCell : SpD := fun ds O Q _ => ∃ (ns : List Int) (k : Nat), ds = [.rls (ns.map .int), .int (k : Int)] ∧ k ≤ 1000 ∧ ∀ r : Int, Q (.int r) O
theorem cut_ints {ns : List Int} {lo hi : Option Int} : ∃ ms : List Int, DL.cutD (ns.map D.int) lo hi = ms.map D.int := by
  unfold DL.cutD
  rw [← List.map_drop, ← List.map_take]
  exact ⟨_, rfl⟩
theorem ok_cell {M : Mo} {f : Addr} {fd : FuncData} (B : Blt M) (hm : M.mg "_law_cell" = some (.ref f)) (Fn : Fun M.K "_law_cell" "_law_cell" (topS 48) f fd) : DefD M "_law_cell" (topS 48) ["script", "k"] 1 spCell := by
  refine def_ok (N := ["script", "k"]) hm Fn ⟨rfl, rfl, rfl, by decide +kernel, rfl, by decide +kernel, by decide +kernel⟩ (fun _ _ _ _ _ _ us hl => match us, hl with | [_, _], _ => rfl) (fun ds O Q E ⟨t, b, e, _⟩ => by rw [e]; rfl) fun F ds O Qd Ed ⟨ns, k, e, hk, q⟩ => ?_
  subst e
  repeat walk_at "dl"
  refine if2 (fun h => ?_) (fun h => ?_)
  · have h : (k : Int) < ((ns.map D.int).length : Int) := of_decide_eq_true h
    rw [List.length_map] at h
    repeat walk_at "dl"
    refine q_ixr (at_getI (ns := ns) (i := k) rfl (by omega)) ?_
    repeat walk_at "dl"
    exact q _
  · repeat walk_at "dl"
    refine q_muli (wide_mul (a := 64) (b := 64) (by decide) (by omega) (by decide) (by decide) (by decide)) ?_
    repeat walk_at "dl"
    obtain ⟨ms, hms⟩ := cut_ints (ns := ns) (lo := none) (hi := some 1)
    refine ⟨ms, by rw [hms], ?_⟩
    repeat walk_at "dl"
    refine q_modi (by decide) ?_
    repeat walk_at "dl"
    exact q _
def BoxL (L : List D) (n : Nat) : Prop := ∃ (g : Int) (b : Bool) (c e : Int), L = [.int g, .bl b, .int c, .int e] ∧ 0 ≤ g ∧ 0 ≤ c ∧ c < 2147483629 ∧ 0 ≤ e ∧ e ≤ (n : Int)
/-- the box stands at a -/
def Bx (a : Addr) (n : Nat) (O : Opens) : Prop := ∃ L, O a = some (.lst L) ∧ BoxL L n
theorem Bx.le {a : Addr} {n m : Nat} {O : Opens} (h : Bx a n O) (k : n ≤ m) : Bx a m O := by
  obtain ⟨L, h1, g, b, c, e, h2, h3, h4, h5, h6, h7⟩ := h
  exact ⟨L, h1, g, b, c, e, h2, h3, h4, h5, h6, by omega⟩
theorem Bx.ext {a : Addr} {n : Nat} {O O' : Opens} (h : Bx a n O) (e : O' a = O a) : Bx a n O' := by
  obtain ⟨L, h1, h2⟩ := h
  exact ⟨L, e.trans h1, h2⟩
/-- all but a is as it was -/
def But (a : Addr) (O O' : Opens) : Prop := ∀ b, b ≠ a → O' b = O b
theorem But.refl {a : Addr} {O : Opens} : But a O O := fun _ _ => rfl
theorem But.trans {a : Addr} {O O1 O2 : Opens} (h : But a O O1) (k : But a O1 O2) : But a O O2 := fun b hb => (k b hb).trans (h b hb)
theorem But.up {a : Addr} {O : Opens} {u : OO} : But a O (O.up a u) := fun _ hb => Opens.up_ne hb
def spBox : SpD := fun ds O Q _ => ∃ r : Int, ds = [.int r] ∧ ∀ p O', O p = none → Bx p 0 O' → But p O O' → Q (.raw (.ref p)) O'
theorem ok_box {M : Mo} {f : Addr} {fd : FuncData} (B : Blt M) (hm : M.mg "_law_box" = some (.ref f)) (Fn : Fun M.K "_law_box" "_law_box" (topS 49) f fd) : DefD M "_law_box" (topS 49) ["great"] 1 spBox := by
  refine def_ok (N := ["great"]) hm Fn ⟨rfl, rfl, rfl, by decide +kernel, rfl, by decide +kernel, by decide +kernel⟩ (fun _ _ _ _ _ _ us hl => match us, hl with | [_], _ => rfl) (fun ds O Q E ⟨t, e, _⟩ => by rw [e]; rfl) fun F ds O Qd Ed ⟨r, e, q⟩ => ?_
  subst e
  have ab : (0 : Int) ≤ if r < 0 then -r else r := by split <;> omega
  walk_at "dl"; walk_at "dl"
  refine we_lstO ?_
  repeat walk_at "dl"
  refine q_powi ⟨by decide, by decide, by decide⟩ ?_
  repeat walk_at "dl"
  refine q_modi (by decide) ?_
  repeat walk_at "dl"
  refine fun p hp => q p _ hp ⟨_, Opens.up_same, _, _, _, _, rfl, ab, Int.emod_nonneg _ (by decide), Int.emod_lt_of_pos _ (by decide), by decide, by decide⟩ But.up
def spTake : SpD := fun ds O Q _ => ∃ (a : Addr) (many : Int) (n : Nat), ds = [.raw (.ref a), .int many] ∧ Bx a n O ∧ n ≤ 1000000 ∧ 1 ≤ many ∧ many < 2 ^ 64 ∧ ∀ r O', 0 ≤ r → r < many → Bx a (n + 1) O' → But a O O' → Q (.int r) O'
theorem ok_take {M : Mo} {f : Addr} {fd : FuncData} (B : Blt M) (hm : M.mg "_law_take" = some (.ref f)) (Fn : Fun M.K "_law_take" "_law_take" (topS 50) f fd) : DefD M "_law_take" (topS 50) ["box", "many"] 1 spTake := by
  refine def_ok (N := ["box", "many", "digit", "mixed"]) hm Fn ⟨rfl, rfl, rfl, by decide +kernel, rfl, by decide +kernel, by decide +kernel⟩ (fun _ _ _ _ _ _ us hl => match us, hl with | [_, _], _ => rfl) (fun ds O Q E ⟨t, b, n, e, _⟩ => by rw [e]; rfl) fun F ds O Qd Ed ⟨a, many, n, e, ⟨L, ho, g, b, c, k, hL, g0, c0, c1, k0, k1⟩, hn, m1, m2, q⟩ => ?_
  subst e hL
  have slow : WSs (bodyG M ["box", "many", "digit", "mixed"] (defScope (topS 50)) 0 F Ed) ((defBody (topS 50)).drop 1) (startD ["box", "many", "digit", "mixed"] [.raw (.ref a), .int many]) O { nx := fun _ O' => Qd .non O', rt := Qd } := by
    repeat walk_at "dl"
    refine ws_asg ?_
    repeat walk_at "dl"
    refine q_ixo ho rfl ?_
    repeat walk_at "dl"
    refine wg_sub ?_
    repeat walk_at "dl"
    refine ⟨a, _, 3, 3, rfl, rfl, ho, rfl, ?_⟩
    repeat walk_at "dl"
    refine q_ixo Opens.up_same rfl ?_
    repeat walk_at "dl"
    refine q_ixo Opens.up_same rfl ?_
    repeat walk_at "dl"
    refine q_muli (wide_mul (a := 64) (b := 64) (by decide) (by omega) (by decide) (by decide) (by decide)) ?_
    repeat walk_at "dl"
    refine q_powi ⟨by decide, by decide, by omega⟩ ?_
    repeat walk_at "dl"
    refine q_modi (by decide) ?_
    generalize hx : ((c + 15488023 * (k + 1) + 179426831) ^ Int.toNat 5 % 2147483647) = x
    have x0 : 0 ≤ x := hx ▸ Int.emod_nonneg _ (by decide)
    have x1 : x < 2147483647 := hx ▸ Int.emod_lt_of_pos _ (by decide)
    repeat walk_at "dl"
    refine q_muli (wide_mul (a := 64) (b := 64) (by omega) (by decide) (by decide) (by decide) (by decide)) ?_
    repeat walk_at "dl"
    refine q_ixo Opens.up_same rfl ?_
    repeat walk_at "dl"
    refine q_muli (wide_mul (a := 64) (b := 64) (by decide) (by omega) (by decide) (by decide) (by decide)) ?_
    repeat walk_at "dl"
    refine q_powi ⟨by decide, by decide, by omega⟩ ?_
    repeat walk_at "dl"
    refine q_modi (by decide) ?_
    repeat walk_at "dl"
    refine q_divi (wide_div (b := 64) (by decide) (by decide) (by decide) (by decide)) ?_
    repeat walk_at "dl"
    refine q_modi (by omega) ?_
    refine q _ _ (Int.emod_nonneg _ (by omega)) (Int.emod_lt_of_pos _ (by omega)) ⟨_, Opens.up_same, _, _, _, _, rfl, g0, c0, c1, by omega, by omega⟩ But.up
  repeat walk_at "dl"
  refine q_ixo ho rfl ?_
  repeat walk_at "dl"
  refine if2 (fun hb => ?_) (fun hb => ?_)
  · repeat walk_at "dl"
    refine q_ixo ho rfl ?_
    repeat walk_at "dl"
    refine if2 (fun hg => ?_) (fun hg => ?_)
    · repeat walk_at "dl"
      refine q_ixo ho rfl ?_
      repeat walk_at "dl"
      refine q_modi (by omega) ?_
      repeat walk_at "dl"
      refine ws_asg ?_
      repeat walk_at "dl"
      refine q_ixo ho rfl ?_
      repeat walk_at "dl"
      refine q_divi (wide_div (b := 64) (by omega) (by omega) (by decide) (by decide)) ?_
      repeat walk_at "dl"
      refine wg_sub ?_
      repeat walk_at "dl"
      refine ⟨a, _, 0, 0, rfl, rfl, ho, rfl, ?_⟩
      repeat walk_at "dl"
      exact q _ _ (Int.emod_nonneg _ (by omega)) (Int.emod_lt_of_pos _ (by omega)) ⟨_, Opens.up_same, _, _, _, _, rfl, Int.ediv_nonneg g0 (by omega), c0, c1, k0, by omega⟩ But.up
    · repeat first | exact slow | walk_at "dl"
  · repeat first | exact slow | walk_at "dl"
/-! ### mixed -/
/-- items are taken out one by one -/
def spMixed : SpD := fun ds O Q _ => ∃ (a : Addr) (n : Nat) (xs : List D) (it : D), ds = [.raw (.ref a), it] ∧ (it = .lst xs ∨ it = .tup xs ∨ ∃ p, it = .raw (.ref p) ∧ O p = some (.lst xs)) ∧ (∀ x ∈ xs, Lay 60 x) ∧ Bx a n O ∧ n + xs.length ≤ 1000000 ∧ ∀ ys O', ys.Perm xs → Bx a (n + xs.length) O' → But a O O' → Q (.lst ys) O'
local macro_rules | `(tactic| walk_at "dlT") => `(tactic| ((with_reducible show WT _ (Expr.Compare (Expr.Name _ _) [CmpOp.NotEq] [Expr.List [] _] _) _ _ _); refine wt_neE ?_))
local macro_rules | `(tactic| walk_at "dlE") => `(tactic| first
  | ((with_reducible show We _ (Expr.Call (Expr.Name "list" _) _ [] _) _ _ _); refine we_listO (by assumption) rfl ?_)
  | ((with_reducible show We _ (Expr.Call (Expr.Attribute (Expr.Name _ _) "append" _) [_] [] _) _ _ _); refine we_append ?_)
  | ((with_reducible show We _ (Expr.Call (Expr.Attribute (Expr.Name _ _) "pop" _) [_] [] _) _ _ _); refine we_popAt ?_))
local macro_rules | `(tactic| walk_at "dlS") => `(tactic| ((with_reducible show WS _ (Stmt.Return (some (Expr.Name "found" _)) _) _ _ _); refine ws_ret ?_; refine we_shut ?_))
theorem erase_perm {α : Type} : ∀ {ls : List α} {k : Nat} {d : α}, ls[k]? = some d → (d :: ls.eraseIdx k).Perm ls
  | [], _, _, h => by cases h
  | a :: ls, 0, d, h => by cases h; exact List.Perm.refl _
  | a :: ls, k + 1, d, h => (List.Perm.swap a d _).trans ((erase_perm (ls := ls) (k := k) (by simpa using h)).cons a)
theorem perm_pop {xs ls fs : List D} {k : Nat} {d : D} (h : (fs ++ ls).Perm xs) (hd : ls[k]? = some d) : (fs ++ [d] ++ ls.eraseIdx k).Perm xs := by
  refine List.Perm.trans ?_ h
  rw [List.append_assoc]
  exact List.Perm.append_left fs (erase_perm hd)
theorem ok_mixed {M : Mo} {f : Addr} {fd : FuncData} (B : Blt M) (h_take : DefD M "_law_take" (topS 50) ["box", "many"] 1 spTake) (hm : M.mg "_law_mixed" = some (.ref f)) (Fn : Fun M.K "_law_mixed" "_law_mixed" (topS 51) f fd) : DefD M "_law_mixed" (topS 51) ["box", "items"] 2 spMixed := by
  refine def_ok (N := ["box", "items", "left", "found"]) hm Fn ⟨rfl, rfl, rfl, by decide +kernel, rfl, by decide +kernel, by decide +kernel⟩ (fun _ _ _ _ _ _ us hl => match us, hl with | [_, _], _ => rfl) (fun ds O Q E ⟨_, _, _, _, e, _⟩ => by rw [e]; rfl) fun F ds O Qd Ed ⟨a, n, xs, it, e, hit, hlay, hb, hn, q⟩ => ?_
  subst e
  refine wss_rt ?_
  have oa : O a ≠ none := by obtain ⟨L, h1, _⟩ := hb; rw [h1]; exact fun z => nomatch z
  have hsz : sizeLine = 16777216 := rfl
  have hit2 : it = .tup xs ∨ it = .lst xs ∨ it = .rls xs ∨ ∃ q, it = .raw (.ref q) ∧ O q = some (.lst xs) := by
    rcases hit with h | h | h
    · exact .inr (.inl h)
    · exact .inl h
    · exact .inr (.inr (.inr h))
  repeat walk_at "dl"
  refine ⟨it, xs, rfl, hit2, fun p1 hp1 => ?_⟩
  refine we_lstO ?_
  repeat walk_at "dl"
  refine fun p2 hp2 => ?_
  have n21 : p2 ≠ p1 := fun z => by rw [z, Opens.up_same] at hp2; cases hp2
  rw [Opens.up_ne n21] at hp2
  have na1 : a ≠ p1 := fun z => oa (z ▸ hp1)
  have na2 : a ≠ p2 := fun z => oa (z ▸ hp2)
  repeat walk_at "dl"
  refine ws_while (fun m ρ' O' => ρ' = [some (.raw (.ref a)), some it, some (.raw (.ref p1)), some (.raw (.ref p2))] ∧ ∃ ls fs, m = ls.length ∧ O' p1 = some (.lst ls) ∧ O' p2 = some (.lst fs) ∧ (fs ++ ls).Perm xs ∧ Bx a (n + fs.length) O' ∧ ∀ b, b ≠ a → b ≠ p1 → b ≠ p2 → O' b = O b) xs.length
    ⟨rfl, xs, [], rfl, by rw [Opens.up_ne (Ne.symm n21), Opens.up_same], Opens.up_same, List.Perm.refl _, hb.ext (by rw [Opens.up_ne na2, Opens.up_ne na1]), fun b h1 h2 h3 => by rw [Opens.up_ne h3, Opens.up_ne h2]⟩ fun m ρ' O' ⟨e1, ls, fs, e2, o1, o2, pm, bx, but⟩ => ?_
  subst e1 e2
  have hlen : fs.length + ls.length = xs.length := by rw [← List.length_append]; exact pm.length_eq
  repeat walk_at "dl"
  refine ⟨p1, ls, rfl, o1, fun d hd => hlay d (pm.mem_iff.mp (List.mem_append_right _ hd)), rfl, ?_⟩
  cases hls : ls with
  | nil =>
    subst hls
    rw [List.append_nil] at pm
    rw [List.length_nil, Nat.add_zero] at hlen
    repeat walk_at "dl"
    refine ⟨p2, fs, rfl, o2, fun b => if b = a then O' a else O b, fun b o ho => ?_, ?_⟩
    · replace ho : (if b = a then O' a else O b) = some o := ho
      by_cases c : b = a
      · rw [if_pos c] at ho
        rw [c, Opens.drop_ne na2]; exact ho
      · rw [if_neg c] at ho
        have c1 : b ≠ p1 := fun z => by rw [z, hp1] at ho; cases ho
        have c2 : b ≠ p2 := fun z => by rw [z, hp2] at ho; cases ho
        rw [Opens.drop_ne c2, but b c c1 c2]; exact ho
    · exact q fs _ pm ((hlen ▸ bx).ext (if_pos rfl)) fun b hb => if_neg hb
  | cons l0 lr =>
    rw [← hls]
    have hpos : 0 < ls.length := by rw [hls]; exact Nat.succ_pos _
    have hne : (!ls.isEmpty) = true := by rw [hls]; rfl
    rw [hne]
    repeat walk_at "dl"
    refine ⟨p2, fs, rfl, o2, ?_⟩
    repeat walk_at "dl"
    refine ⟨p1, ls, rfl, o1, ?_⟩
    repeat walk_at "dl"
    refine ⟨ls, o1, ?_⟩
    repeat walk_at "dl"
    refine ⟨a, _, _, rfl, bx, by omega, by omega, by omega, fun r O2 r0 r1 b2 bb => ?_⟩
    obtain ⟨k, rfl⟩ := Int.eq_ofNat_of_zero_le r0
    have hk : k < ls.length := by omega
    have hd := List.getElem?_eq_getElem hk
    refine ⟨ls, k, ls[k], by rw [bb p1 (Ne.symm na1)]; exact o1, rfl, by omega, hd, ?_⟩
    refine ⟨fs, by rw [Opens.up_ne n21, bb p2 (Ne.symm na2)]; exact o2, by omega, ?_⟩
    repeat walk_at "dl"
    have hle : (ls.eraseIdx k).length + 1 = ls.length := by rw [List.length_eraseIdx_of_lt hk]; omega
    refine ⟨(ls.eraseIdx k).length, by omega, rfl, ls.eraseIdx k, fs ++ [ls[k]], rfl, by rw [Opens.up_ne (Ne.symm n21), Opens.up_same], Opens.up_same, perm_pop pm hd, ?_, fun b c1 c2 c3 => by rw [Opens.up_ne c3, Opens.up_ne c2, bb b c1, but b c1 c2 c3]⟩
    rw [List.length_append]
    exact (Bx.ext b2 (by rw [Opens.up_ne na2, Opens.up_ne na1])).le (by simp; omega)
end
section
open PySem PySem.Spec PyProof.Rows L2 DL PySem.NumText
local macro_rules | `(tactic| walk_at "dlE") => `(tactic| ((with_reducible show We _ (Expr.Dict [some _] [_] _) _ _ _); refine we_dic1 ?_))
/-- a family as the law tells it -/
abbrev lawFam (g : Fam) : D := .lst [tupI g.ev, .lst (setsL g.ss), .lst (twsL g.ts)]
abbrev famK : List Key := [.inr "family"]
abbrev famE (g : Fam) : List D := [.lst (famV g)]
def spF : SpD := fun ds O Q _ => ∃ g : Fam, ds = [lawFam g] ∧ ∀ q, O q = none → Q (.raw (.ref q)) (O.up q (.dic famK (famE g)))
theorem ok_f {M : Mo} {f : Addr} {fd : FuncData} (B : Blt M) (hm : M.mg "_law_f" = some (.ref f)) (Fn : Fun M.K "_law_f" "_law_f" (topS 62) f fd) : DefD M "_law_f" (topS 62) ["family"] 1 spF := by
  refine def_ok (N := ["family"]) hm Fn ⟨rfl, rfl, rfl, by decide +kernel, rfl, by decide +kernel, by decide +kernel⟩ (fun _ _ _ _ _ _ us hl => match us, hl with | [_], _ => rfl) (fun ds O Q E ⟨_, e, _⟩ => by rw [e]; rfl) fun F ds O Qd Ed ⟨g, e, h⟩ => ?_
  subst e
  repeat walk_at "dl"
  refine fun q hq => ?_
  repeat walk_at "dl"
  refine ⟨Opens.up_same, ?_⟩
  rw [Opens.up_up]
  exact h q hq
/-! ### lowest terms -/
def spLow : SpD := fun ds O Q _ => ∃ t : Int, ds = [.int t, .int 40] ∧ ((t = 20 ∧ Q (tupI [1, 2]) O) ∨ (t = 10 ∧ Q (tupI [1, 4]) O))
theorem ok_low {M : Mo} {f : Addr} {fd : FuncData} (B : Blt M) (hm : M.mg "_law_low" = some (.ref f)) (Fn : Fun M.K "_law_low" "_law_low" (topS 63) f fd) : DefD M "_law_low" (topS 63) ["top", "base"] 1 spLow := by
  refine def_ok (N := ["top", "base", "one", "other"]) hm Fn ⟨rfl, rfl, rfl, by decide +kernel, rfl, by decide +kernel, by decide +kernel⟩ (fun _ _ _ _ _ _ us hl => match us, hl with | [_, _], _ => rfl) (fun ds O Q E ⟨_, e, _⟩ => by rw [e]; rfl) fun F ds O Qd Ed ⟨t, e, h⟩ => ?_
  subst e
  have h0 : 0 < t ∧ t < 40 ∧ (40 : Int) % t = 0 := by rcases h with ⟨rfl, _⟩ | ⟨rfl, _⟩ <;> decide
  have et : (if t < 0 then -t else t) = t := if_neg (by omega)
  repeat walk_at "dl"
  rw [et]
  refine ws_while (fun n ρ' O' => O' = O ∧ ((n = 2 ∧ ρ' = [some (.int t), some (.int 40), some (.int t), some (.int 40)]) ∨ (n = 1 ∧ ρ' = [some (.int t), some (.int 40), some (.int 40), some (.int t)]) ∨ (n = 0 ∧ ρ' = [some (.int t), some (.int 40), some (.int t), some (.int 0)]))) 2 ⟨rfl, .inl ⟨rfl, rfl⟩⟩ fun n ρ' O' ⟨e1, e2⟩ => ?_
  subst e1
  rcases e2 with ⟨rfl, rfl⟩ | ⟨rfl, rfl⟩ | ⟨rfl, rfl⟩
  · repeat walk_at "dl"
    refine q_modi (by decide) ?_
    repeat walk_at "dl"
    refine ⟨1, by decide, rfl, .inr (.inl ⟨rfl, ?_⟩)⟩
    rw [Int.emod_eq_of_lt (by omega) (by omega)]; rfl
  · repeat walk_at "dl"
    refine ift (decide_eq_true h0.1) ?_
    repeat walk_at "dl"
    refine q_modi h0.1 ?_
    repeat walk_at "dl"
    refine ⟨0, by decide, rfl, .inr (.inr ⟨rfl, ?_⟩)⟩
    rw [h0.2.2]; rfl
  · repeat walk_at "dl"
    refine q_divi ⟨h0.1, by rcases h with ⟨rfl, _⟩ | ⟨rfl, _⟩ <;> decide⟩ ?_
    repeat walk_at "dl"
    refine q_divi ⟨h0.1, by rcases h with ⟨rfl, _⟩ | ⟨rfl, _⟩ <;> decide⟩ ?_
    repeat walk_at "dl"
    rcases h with ⟨rfl, q⟩ | ⟨rfl, q⟩ <;> exact q
end
section
open PySem PySem.Spec PyProof.Rows L2 DL PySem.NumText
/-! ### sameness -/
inductive Plain : Nat → D → Prop
  | non {n} : Plain n .non
  | bl {n b} : Plain n (.bl b)
  | int {n i} : Plain n (.int i)
  | str {n z} (h : z.length ≤ 100000) : Plain n (.str z)
  | tup {n xs} (hl : xs.length ≤ 100000) (h : ∀ x ∈ xs, Plain n x) : Plain (n + 1) (.tup xs)
  | lst {n xs} (hl : xs.length ≤ 100000) (h : ∀ x ∈ xs, Plain n x) : Plain (n + 1) (.lst xs)
/-- a dict that stands or is open -/
def DicU (O : Opens) (d : D) (kz : List Key) (ds : List D) : Prop := d = .dic kz ds ∨ ∃ q, d = .raw (.ref q) ∧ O q = some (.dic kz ds)
theorem DicU.ty {O : Opens} {d : D} {kz : List Key} {ds : List D} (h : DicU O d kz ds) : tyD O d = some .dict := by
  rcases h with rfl | ⟨q, rfl, ho⟩
  · rfl
  · show (match O q with | some (.lst _) => some Ty.list | some (.dic _ _) => some .dict | some (.lkd _ _ _ _) => some .dict | _ => none) = _
    rw [ho]
theorem DicU.lock {O : Opens} {d : D} {kz : List Key} {ds es : List D} {q : Addr} {od : Obj} {kvs : List (Key × V)} (h : DicU O d kz ds) (hq : O q = some (.dic kz es)) (e : es = ds) : DicO (O.up q (.lkd od kvs kz es)) d kz ds := by
  subst e
  rcases h with rfl | ⟨p, rfl, ho⟩
  · exact .inl rfl
  · by_cases c : p = q
    · subst c
      exact .inr ⟨p, rfl, .inr ⟨od, kvs, Opens.up_same⟩⟩
    · exact .inr ⟨p, rfl, .inl (by rw [Opens.up_ne c]; exact ho)⟩
def SameT : Nat → Opens → D → D → Prop
  | 0, _, t, d => t = d ∧ Plain 0 d
  | m + 1, O, t, d => (t = d ∧ Plain (m + 1) d) ∨ (∃ q kz es, d = .raw (.ref q) ∧ DicU O t kz es ∧ O q = some (.dic kz es) ∧ kz.Nodup ∧ kz.length ≤ 1000 ∧ kz.length = es.length ∧ ∀ e ∈ es, Plain m e) ∨
    ∃ xs ys, t = .lst xs ∧ d = .lst ys ∧ xs.length = ys.length ∧ xs.length ≤ 1000 ∧ ∀ (i : Nat) (x y : D), xs[i]? = some x → ys[i]? = some y → SameT m O x y
theorem SameT.plain {n : Nat} {O : Opens} {d : D} (h : Plain n d) : SameT n O d d := by
  cases n with
  | zero => exact ⟨rfl, h⟩
  | succ n => exact .inl ⟨rfl, h⟩
def spSame (n : Nat) : SpD := fun ds O Q _ => ∃ t d, ds = [t, d] ∧ SameT n O t d ∧ Q (.bl true) O
theorem cut_one {z : Str} {k c : Nat} (h : z.cps[k]? = some c) : cutS z (some (k : Int)) (some ((k : Int) + 1)) = ⟨#[c]⟩ := by
  have hk : k < z.cps.size := (Array.getElem?_eq_some_iff.mp h).1
  have hk' : k < z.length := hk
  have e1 : HT.sIx z.length 0 (some (k : Int)) = k := by
    rw [HT.sIx_nat]; omega
  have e2 : HT.sIx z.length z.length (some ((k : Int) + 1)) = k + 1 := by
    have e : ((k : Int) + 1) = ((k + 1 : Nat) : Int) := by omega
    rw [e, HT.sIx_nat]; omega
  unfold cutS
  rw [e1, e2, Nat.add_sub_cancel_left]
  have e3 : (z.cps.toList.drop k).take 1 = [c] := by
    have hc : z.cps.toList[k]? = some c := by rw [Array.getElem?_toList]; exact h
    rw [List.take_one, List.head?_drop, hc]; rfl
  rw [e3]
theorem lay_nil {n : Nat} : Lay (n + 1) (.lst []) := lay_lst (fun d hd => nomatch hd)
theorem fil_none {α : Type} (xs : List α) (f : α → D) : ((xs.filter fun _ => false).map f) = [] := by
  induction xs with
  | nil => rfl
  | cons a r ih => rw [List.filter_cons, if_neg (by decide)]; exact ih
theorem val_nodup {kz : List Key} {es : List D} {i : Nat} {k : Key} {e : D} (nd : kz.Nodup) (h1 : kz[i]? = some k) (h2 : es[i]? = some e) : valD kz es k = some e := by
  induction kz generalizing es i with
  | nil => cases h1
  | cons a kz ih =>
    cases es with
    | nil => cases h2
    | cons d es =>
      unfold valD
      rw [List.zip_cons_cons, List.find?_cons]
      cases i with
      | zero =>
        have e1 : a = k := Option.some.inj h1
        have e2 : d = e := Option.some.inj h2
        subst e1 e2
        rw [show decide ((a, d).1 = a) = true from decide_eq_true rfl]; rfl
      | succ i =>
        have hm : k ∈ kz := List.mem_of_getElem? (by simpa using h1)
        have ne : ¬ a = k := fun z => by subst z; exact (List.nodup_cons.mp nd).1 hm
        rw [show decide ((a, d).1 = k) = false from decide_eq_false ne]
        exact ih (List.nodup_cons.mp nd).2 (by simpa using h1) (by simpa using h2)
theorem any_mem {kz : List Key} {k : Key} (h : k ∈ kz) : (kz.any fun c => decide (c = k)) = true := List.any_eq_true.mpr ⟨k, h, decide_eq_true rfl⟩
theorem q_isr {q : Addr} {O : Opens} {Q : DK} (h : Q (.bl false) O) : CmpQ .Is (.raw (.ref q)) .non O Q := h
theorem q_lat {xs : List D} {O : Opens} {Q : DK} (h : Q (.int xs.length) O) : LenAQ [.tup xs] O Q := .inl h
theorem q_lal {xs : List D} {O : Opens} {Q : DK} (h : Q (.int xs.length) O) : LenAQ [.lst xs] O Q := .inl h
theorem q_las {z : Str} {O : Opens} {Q : DK} (hz : z.length ≤ sizeLine) (h : Q (.int z.length) O) : LenAQ [.str z] O Q := .inl ⟨hz, h⟩
theorem q_lad {d : D} {kz : List Key} {es : List D} {O : Opens} {Q : DK} (hd : DicU O d kz es) (h : Q (.int kz.length) O) : LenAQ [d] O Q := .inr ⟨d, kz, es, rfl, hd, h⟩
local macro_rules | `(tactic| walk_at "dlE") => `(tactic| first
  | ((with_reducible show We _ (Expr.Call (Expr.Name "len" _) _ [] _) _ _ _); refine we_lenA (by assumption) rfl ?_)
  | ((with_reducible show We _ (Expr.Subscript (Expr.Name _ _) (Expr.Name "key" _) _) _ _ _); refine we_getK ?_)
  | ((with_reducible show We _ (Expr.Compare (Expr.Name "key" _) [CmpOp.NotIn] [_] _) _ _ _); refine we_ninK ?_))
local macro_rules | `(tactic| walk_at "dlT") => `(tactic| ((with_reducible show WT _ (Expr.Compare (Expr.Name "key" _) [CmpOp.NotIn] [_] _) _ _ _); refine wt_ninK ?_))
local macro_rules | `(tactic| walk_at "dlQ") => `(tactic| ((with_reducible show LenAQ _ _ _); first | refine q_lat ?_ | refine q_lal ?_ | refine q_las (by assumption) ?_ | refine q_lad (by assumption) ?_))
theorem same_step {M : Mo} {f : Addr} {fd : FuncData} (B : Blt M) (hm : M.mg "_law_same" = some (.ref f)) (Fn : Fun M.K "_law_same" "_law_same" (topS 52) f fd) (n : Nat) (ih : ∀ m, n = m + 1 → DefD M "_law_same" (topS 52) ["told", "due"] n (spSame m)) : DefD M "_law_same" (topS 52) ["told", "due"] (n + 1) (spSame n) := by
  refine def_ok (N := ["told", "due", "k", "key"]) hm Fn ⟨rfl, rfl, rfl, by decide +kernel, rfl, by decide +kernel, by decide +kernel⟩ (fun _ _ _ _ _ _ us hl => match us, hl with | [_, _], _ => rfl) (fun ds O Q E ⟨_, _, e, _⟩ => by rw [e]; rfl) fun F ds O Qd Ed ⟨t, d, e, hp, q⟩ => ?_
  subst e
  have hp : (t = d ∧ Plain n d) ∨ (∃ m q kz es, n = m + 1 ∧ d = .raw (.ref q) ∧ DicU O t kz es ∧ O q = some (.dic kz es) ∧ kz.Nodup ∧ kz.length ≤ 1000 ∧ kz.length = es.length ∧ ∀ e ∈ es, Plain m e) ∨
    ∃ m xs ys, n = m + 1 ∧ t = .lst xs ∧ d = .lst ys ∧ xs.length = ys.length ∧ xs.length ≤ 1000 ∧ ∀ (i : Nat) (x y : D), xs[i]? = some x → ys[i]? = some y → SameT m O x y := by
    cases n with
    | zero => exact .inl hp
    | succ m =>
      rcases hp with h | ⟨a, b, c, h⟩ | ⟨a, b, h⟩
      · exact .inl h
      · exact .inr (.inl ⟨m, a, b, c, rfl, h⟩)
      · exact .inr (.inr ⟨m, a, b, rfl, h⟩)
  have lstCase : ∀ (m : Nat) (xs ys : List D), n = m + 1 → t = .lst xs → d = .lst ys → xs.length = ys.length → xs.length ≤ 16777216 → (∀ (i : Nat) (x y : D), xs[i]? = some x → ys[i]? = some y → SameT m O x y) → WSs (bodyG M ["told", "due", "k", "key"] (defScope (topS 52)) n F Ed) (defBody (topS 52)) (startD ["told", "due", "k", "key"] [t, d]) O { nx := fun _ O' => Qd .non O', rt := Qd } := by
    intro m xs ys en et ed hl hz h
    subst en et ed
    have rec_ := ih m rfl
    repeat walk_at "dl"
    refine q_isn (fun v hv => nomatch hv) ?_
    repeat walk_at "dl"
    refine q_isit (bs := [.list, .tuple]) rfl ?_
    repeat walk_at "dl"
    refine q_isit (bs := [.list, .tuple]) rfl ?_
    repeat walk_at "dl"
    refine q_ned lay_bl lay_bl ?_
    repeat walk_at "dl"
    rw [hl]
    refine ift (beq_self_eq_true _) ?_
    repeat walk_at "dl"
    refine ⟨by omega, by omega, ?_⟩
    refine lc_filA (List.range ys.length) (fun i : Nat => D.int (i : Int)) (fun _ => false) (fun i => .int (i : Int)) (by rw [List.length_range]; exact hl ▸ hz) (fun F0 i hi => ?_) ?_
    · have hi := List.mem_range.mp hi
      have hx : xs[i]? = some (xs[i]'(by omega)) := List.getElem?_eq_getElem _
      have hy : ys[i]? = some ys[i] := List.getElem?_eq_getElem hi
      repeat walk_at "dl"
      refine we_call rec_ (Nat.le_refl _) rfl rfl ?_
      repeat walk_at "dl"
      refine q_ixl (at_nat rfl hx) ?_
      repeat walk_at "dl"
      refine q_ixl (at_nat rfl hy) ?_
      repeat walk_at "dl"
      refine ⟨_, _, rfl, h i _ _ hx hy, rfl, rfl, fun z => nomatch z⟩
    · rw [fil_none]
      repeat walk_at "dl"
      refine q_eqd (lay_nil (n := 63)) (lay_nil (n := 63)) ?_
      exact q
  rcases hp with ⟨rfl, hp⟩ | ⟨m, p, kz, es, rfl, rfl, hd, ho, nd, hk, hl, he⟩ | ⟨m, xs, ys, e1, e2, e3, e4, e5, e6⟩
  · cases hp with
    | non =>
      repeat walk_at "dl"
      refine q_isn (fun v hv => nomatch hv) ?_
      repeat walk_at "dl"
      refine q_isn (fun v hv => nomatch hv) ?_
      repeat walk_at "dl"
      refine q_isn (fun v hv => nomatch hv) ?_
      exact q
    | @bl _ b =>
      repeat walk_at "dl"
      refine q_isn (fun v hv => nomatch hv) ?_
      repeat walk_at "dl"
      refine q_isn (fun v hv => nomatch hv) ?_
      repeat walk_at "dl"
      refine q_isb ?_
      repeat walk_at "dl"
      refine q_isb ?_
      refine q_eqd lay_bl lay_bl ?_
      rw [eqD_bl, beq_self_eq_true]
      exact q
    | @int _ i =>
      repeat walk_at "dl"
      refine q_isn (fun v hv => nomatch hv) ?_
      repeat walk_at "dl"
      show Qd (.bl ((i - i) == 0)) O
      rw [Int.sub_self]
      exact q
    | @str _ z h =>
      have h' := Nat.le_trans h (show 100000 ≤ sizeLine by decide)
      repeat walk_at "dl"
      refine q_isn (fun v hv => nomatch hv) ?_
      repeat walk_at "dl"
      refine ift (beq_self_eq_true _) ?_
      repeat walk_at "dl"
      refine ⟨by omega, by omega, ?_⟩
      refine lc_filA (List.range z.length) (fun i : Nat => D.int (i : Int)) (fun _ => false) (fun i => .int (i : Int)) (by rw [List.length_range]; exact h') (fun F0 i hi => ?_) ?_
      · have hi := List.mem_range.mp hi
        have hx : z.cps[i]? = some (z.cps[i]'hi) := Array.getElem?_eq_getElem hi
        repeat walk_at "dl"
        refine q_ixs h' (at_nat rfl (by rw [Array.getElem?_toList]; exact hx)) ?_
        repeat walk_at "dl"
        refine ⟨?_, rfl, fun z => nomatch z⟩
        rw [cut_one hx, beq_self_eq_true]; rfl
      · rw [fil_none]
        repeat walk_at "dl"
        refine q_eqd (lay_nil (n := 63)) (lay_nil (n := 63)) ?_
        exact q
    | @tup m xs hl h =>
      have hl' : xs.length ≤ 16777216 := Nat.le_trans hl (by decide)
      have rec_ := ih m rfl
      repeat walk_at "dl"
      refine q_isn (fun v hv => nomatch hv) ?_
      repeat walk_at "dl"
      refine q_isit (bs := [.list, .tuple]) rfl ?_
      repeat walk_at "dl"
      refine q_isit (bs := [.list, .tuple]) rfl ?_
      repeat walk_at "dl"
      refine q_ned lay_bl lay_bl ?_
      repeat walk_at "dl"
      refine ift (beq_self_eq_true _) ?_
      repeat walk_at "dl"
      refine ⟨by omega, by omega, ?_⟩
      refine lc_filA (List.range xs.length) (fun i : Nat => D.int (i : Int)) (fun _ => false) (fun i => .int (i : Int)) (by rw [List.length_range]; exact hl') (fun F0 i hi => ?_) ?_
      · have hi := List.mem_range.mp hi
        have hx : xs[i]? = some xs[i] := List.getElem?_eq_getElem hi
        repeat walk_at "dl"
        refine we_call rec_ (Nat.le_refl _) rfl rfl ?_
        repeat walk_at "dl"
        refine q_ixt (at_nat rfl hx) ?_
        repeat walk_at "dl"
        refine q_ixt (at_nat rfl hx) ?_
        repeat walk_at "dl"
        refine ⟨_, _, rfl, SameT.plain (h _ (List.getElem_mem hi)), rfl, rfl, fun z => nomatch z⟩
      · rw [fil_none]
        repeat walk_at "dl"
        refine q_eqd (lay_nil (n := 63)) (lay_nil (n := 63)) ?_
        exact q
    | @lst m xs hl h =>
      exact lstCase m xs xs rfl rfl rfl rfl (Nat.le_trans hl (by decide)) fun i x y h1 h2 => by
        rw [h1] at h2; cases h2
        exact SameT.plain (h _ (List.mem_of_getElem? h1))
  · have rec_ := ih m rfl
    have hz : kz.length ≤ sizeLine := Nat.le_trans hk (by decide)
    have ty1 := hd.ty
    have hd2 : DicU O (.raw (.ref p)) kz es := .inr ⟨p, rfl, ho⟩
    have ty2 := hd2.ty
    repeat walk_at "dl"
    refine q_isr ?_
    repeat walk_at "dl"
    refine iff_ (by rw [beq_self_eq_true]; rfl) ?_
    walk_at "dl"
    walk_at "dl"
    walk_at "dl"
    walk_at "dl"
    refine we_lock ho fun od kvs => ?_
    refine we_lcLo (L := fun O1 => O1 p = some (.lkd od kvs kz es)) rfl (by kernel_rfl) ?_
    refine pi_lk (od := od) (kvs := kvs) ?_
    repeat walk_at "dl"
    refine ⟨rfl, Opens.up_same, ?_⟩
    refine lc_filL kz keyD (fun _ => false) keyD hz (fun F0 k hk => ?_) Opens.up_same ?_
    · obtain ⟨i, hi, rfl⟩ := List.mem_iff_getElem.mp hk
      have hki := List.getElem?_eq_getElem hi
      have hei : es[i]? = some (es[i]'(by omega)) := List.getElem?_eq_getElem _
      have hv := val_nodup nd hki hei
      have dt : DicO (O.up p (.lkd od kvs kz es)) t kz es := hd.lock ho rfl
      have dd : DicO (O.up p (.lkd od kvs kz es)) (.raw (.ref p)) kz es := hd2.lock ho rfl
      repeat walk_at "dl"
      refine ⟨kz, es, kz[i], dt, rfl, ?_⟩
      rw [any_mem hk]
      repeat walk_at "dl"
      refine we_call rec_ (Nat.le_refl _) rfl rfl ?_
      repeat walk_at "dl"
      refine ⟨kz, es, kz[i], es[i]'(by omega), dt, rfl, hv, ?_⟩
      repeat walk_at "dl"
      refine ⟨kz, es, kz[i], es[i]'(by omega), dd, rfl, hv, ?_⟩
      repeat walk_at "dl"
      refine ⟨_, _, rfl, SameT.plain (he _ (List.getElem_mem _)), ?_⟩
      repeat walk_at "dl"
      exact ⟨rfl, rfl, fun z => nomatch z⟩
    · rw [fil_none]
      refine q_lcf ⟨Opens.up_same, ?_⟩
      rw [Opens.up_up]
      have eO : O.up p (.dic kz es) = O := by
        funext b
        by_cases c : b = p
        · rw [c, Opens.up_same, ho]
        · rw [Opens.up_ne c]
      rw [eO]
      repeat walk_at "dl"
      refine q_eqd (lay_nil (n := 63)) (lay_nil (n := 63)) ?_
      exact q
  · exact lstCase m xs ys e1 e2 e3 e4 (Nat.le_trans e5 (by decide)) e6
theorem ok_same {M : Mo} {f : Addr} {fd : FuncData} (B : Blt M) (hm : M.mg "_law_same" = some (.ref f)) (Fn : Fun M.K "_law_same" "_law_same" (topS 52) f fd) : ∀ n, DefD M "_law_same" (topS 52) ["told", "due"] (n + 1) (spSame n)
  | 0 => same_step B hm Fn 0 fun m h => nomatch h
  | n + 1 => same_step B hm Fn (n + 1) fun m h => by cases h; exact ok_same B hm Fn n
end
section
open PySem PySem.Spec PyProof.Rows L2 DL PySem.NumText
/-! ### copies -/
inductive Tpl : Nat → D → Prop
  | flat {n d} (h : flatD d = true) : Tpl n d
  | tup {n xs} (hl : xs.length ≤ 100000) (h : ∀ x ∈ xs, Tpl n x) : Tpl (n + 1) (.tup xs)
/-- flat, a tuple, or a list of such -/
def CpE (m : Nat) (e : D) : Prop := Tpl m e ∨ ∃ m' xs, m = m' + 1 ∧ e = .lst xs ∧ xs.length ≤ 100000 ∧ ∀ x ∈ xs, Tpl m' x
def spCopy (n : Nat) : SpD := fun ds O Q _ => ∃ d, ds = [d] ∧ ((Tpl n d ∧ Q d O) ∨ (∃ m xs, n = m + 1 ∧ d = .lst xs ∧ xs.length ≤ 100000 ∧ (∀ x ∈ xs, Tpl m x) ∧ ∀ p, O p = none → Q (.raw (.ref p)) (O.up p (.lst xs))) ∨
  ∃ m q z e, n = m + 1 ∧ d = .raw (.ref q) ∧ O q = some (.dic [.inr z] [e]) ∧ CpE m e ∧ ∀ p, O p = none → Q (.raw (.ref p)) (O.up p (.dic [.inr z] [e])))
local macro_rules | `(tactic| walk_at "dlE") => `(tactic| first
  | ((with_reducible show We _ (Expr.Dict [] [] _) _ _ _); refine we_dic0 ?_)
  | ((with_reducible show We _ (Expr.Subscript (Expr.Name _ _) (Expr.Name "key" _) _) _ _ _); refine we_getK ?_))
local macro_rules | `(tactic| walk_at "dlS") => `(tactic| ((with_reducible show WS _ (Stmt.Return (some (Expr.ListComp _ _ _ _)) _) _ _ _); refine ws_ret ?_; refine we_lcOpen rfl (by kernel_rfl) ?_))
theorem copy_step {M : Mo} {f : Addr} {fd : FuncData} (B : Blt M) (hm : M.mg "_law_copy" = some (.ref f)) (Fn : Fun M.K "_law_copy" "_law_copy" (topS 53) f fd) (n : Nat) (ih : ∀ m, n = m + 1 → DefD M "_law_copy" (topS 53) ["value"] n (spCopy m)) : DefD M "_law_copy" (topS 53) ["value"] (n + 1) (spCopy n) := by
  refine def_ok (N := ["value", "item", "found", "key"]) hm Fn ⟨rfl, rfl, rfl, by decide +kernel, rfl, by decide +kernel, by decide +kernel⟩ (fun _ _ _ _ _ _ us hl => match us, hl with | [_], _ => rfl) (fun ds O Q E ⟨_, e, _⟩ => by rw [e]; rfl) fun F ds O Qd Ed ⟨d, e, h⟩ => ?_
  subst e
  refine wss_rt ?_
  rcases h with ⟨ht, q⟩ | ⟨m, xs, rfl, rfl, hl, hx, q⟩ | ⟨m, p, z, e, rfl, rfl, ho, he, q⟩
  · cases ht with
    | flat hf =>
      cases d with
      | non =>
        repeat walk_at "dl"
        refine fun p0 hp0 => ?_
        repeat walk_at "dl"
        exact ⟨O, OLe.up hp0, q⟩
      | bl b =>
        repeat walk_at "dl"
        refine fun p0 hp0 => ?_
        repeat walk_at "dl"
        exact ⟨O, OLe.up hp0, q⟩
      | int b =>
        repeat walk_at "dl"
        refine fun p0 hp0 => ?_
        repeat walk_at "dl"
        exact ⟨O, OLe.up hp0, q⟩
      | str b =>
        repeat walk_at "dl"
        refine fun p0 hp0 => ?_
        repeat walk_at "dl"
        exact ⟨O, OLe.up hp0, q⟩
      | _ => cases hf
    | @tup m xs hl hx =>
      have rec_ := ih m rfl
      repeat walk_at "dl"
      refine pi_tp ?_
      repeat walk_at "dl"
      refine ⟨_, rfl, lc_mapD xs (fun x => x) (Nat.le_trans hl (by decide)) (fun F0 x hm => ?_) ?_⟩
      · repeat walk_at "dl"
        refine we_call rec_ (Nat.le_refl _) rfl rfl ?_
        repeat walk_at "dl"
        exact ⟨x, rfl, .inl ⟨hx x hm, rfl, rfl⟩⟩
      · rw [List.map_id']
        repeat walk_at "dl"
        exact ⟨O, OLe.refl, q⟩
  · have rec_ := ih m rfl
    repeat walk_at "dl"
    refine pi_ls ?_
    repeat walk_at "dl"
    refine ⟨_, .inl rfl, lc_mapD xs (fun x => x) (Nat.le_trans hl (by decide)) (fun F0 x hm => ?_) ?_⟩
    · repeat walk_at "dl"
      refine we_call rec_ (Nat.le_refl _) rfl rfl ?_
      repeat walk_at "dl"
      exact ⟨x, rfl, .inl ⟨hx x hm, rfl, rfl⟩⟩
    · rw [List.map_id']
      exact fun p hp => ⟨_, OLe.refl, q p hp⟩
  · have rec_ := ih m rfl
    have ty : tyD O (.raw (.ref p)) = some .dict := DicU.ty (kz := [.inr z]) (ds := [e]) (.inr ⟨p, rfl, ho⟩)
    repeat walk_at "dl"
    refine fun p0 hp0 => ?_
    have hne : p ≠ p0 := fun w => by rw [w, hp0] at ho; cases ho
    have ho1 : (O.up p0 (.dic [] [])) p = some (.dic [.inr z] [e]) := by rw [Opens.up_ne hne]; exact ho
    have ty1 : tyD (O.up p0 (.dic [] [])) (.raw (.ref p)) = some .dict := DicU.ty (kz := [.inr z]) (ds := [e]) (.inr ⟨p, rfl, ho1⟩)
    repeat walk_at "dl"
    refine ws_lock ho1 fun od kvs => ?_
    obtain ⟨O1, hO1⟩ : ∃ O1, O1 = (O.up p0 (.dic [] [])).up p (.lkd od kvs [.inr z] [e]) := ⟨_, rfl⟩
    rw [← hO1]
    have l1 : O1 p = some (.lkd od kvs [.inr z] [e]) := by rw [hO1, Opens.up_same]
    have l2 : O1 p0 = some (.dic [] []) := by rw [hO1, Opens.up_ne (Ne.symm hne), Opens.up_same]
    have dd : DicO O1 (.raw (.ref p)) [.inr z] [e] := .inr ⟨p, rfl, .inr ⟨od, kvs, l1⟩⟩
    refine ws_forL (L := fun O1 => O1 p = some (.lkd od kvs [.inr z] [e])) rfl ?_
    refine pi_lk (od := od) (kvs := kvs) ?_
    repeat walk_at "dl"
    refine ⟨rfl, l1, ?_⟩
    refine for_stateL [.inr z] keyD (fun i ρ' O' => (i = 0 ∧ ρ' = [some (.raw (.ref p)), none, some (.raw (.ref p0)), none] ∧ O' = O1) ∨ (i = 1 ∧ ρ' = [some (.raw (.ref p)), none, some (.raw (.ref p0)), some (.str z)] ∧ O' = O1.up p0 (.dic [.inr z] [e]))) (.inl ⟨rfl, rfl, rfl⟩) (fun i x ρ' O' hi hx w => ?_) (fun i ρ' O' w => ?_) fun ρ' O' w => ?_
    · have hi0 : i = 0 := by simpa using hi
      subst hi0
      cases hx
      rcases w with ⟨_, rfl, rfl⟩ | ⟨h, _⟩
      rotate_left
      · cases h
      repeat walk_at "dl"
      refine ws_asg ?_
      rcases he with he | ⟨m', xs, rfl, rfl, hl, hxs⟩
      · refine we_call rec_ (Nat.le_refl _) rfl rfl ?_
        repeat walk_at "dl"
        refine ⟨_, _, .inr z, e, dd, rfl, val_nodup (i := 0) (by simp) rfl rfl, ?_⟩
        repeat walk_at "dl"
        refine ⟨e, rfl, .inl ⟨he, ?_⟩⟩
        refine wg_subD ?_
        repeat walk_at "dl"
        refine ⟨p0, [], [], z, rfl, rfl, l2, by show 0 < sizeLine; decide, ?_⟩
        repeat walk_at "dl"
        exact .inr ⟨rfl, rfl, rfl⟩
      · refine we_shut ?_
        refine we_call rec_ (Nat.le_refl _) rfl rfl ?_
        repeat walk_at "dl"
        refine ⟨_, _, .inr z, .lst xs, dd, rfl, val_nodup (i := 0) (by simp) rfl rfl, ?_⟩
        repeat walk_at "dl"
        refine ⟨.lst xs, rfl, .inr (.inl ⟨m', xs, rfl, rfl, hl, hxs, fun pp hpp => ⟨pp, xs, rfl, Opens.up_same, ?_⟩⟩)⟩
        rw [Opens.drop_up hpp]
        refine wg_subD ?_
        repeat walk_at "dl"
        refine ⟨p0, [], [], z, rfl, rfl, l2, by show 0 < sizeLine; decide, ?_⟩
        repeat walk_at "dl"
        exact .inr ⟨rfl, rfl, rfl⟩
    · rcases w with ⟨_, _, rfl⟩ | ⟨_, _, rfl⟩
      · exact l1
      · rw [Opens.up_ne hne]; exact l1
    · rcases w with ⟨h, _⟩ | ⟨_, rfl, rfl⟩
      · cases h
      have eO : (O1.up p0 (.dic [.inr z] [e])).up p (.dic [.inr z] [e]) = O.up p0 (.dic [.inr z] [e]) := by
        funext b
        by_cases c : b = p
        · rw [c, Opens.up_same, Opens.up_ne hne, ho]
        · rw [Opens.up_ne c]
          by_cases c2 : b = p0
          · rw [c2, Opens.up_same, Opens.up_same]
          · rw [Opens.up_ne c2, Opens.up_ne c2, hO1, Opens.up_ne c, Opens.up_ne c2]
      refine ⟨by rw [Opens.up_ne hne]; exact l1, ?_⟩
      rw [eO]
      have ty2 : tyD (O.up p0 (.dic [.inr z] [e])) (.raw (.ref p)) = some .dict := DicU.ty (kz := [.inr z]) (ds := [e]) (.inr ⟨p, rfl, by rw [Opens.up_ne hne]; exact ho⟩)
      repeat walk_at "dl"
      exact ⟨_, OLe.refl, q p0 hp0⟩
theorem ok_copy {M : Mo} {f : Addr} {fd : FuncData} (B : Blt M) (hm : M.mg "_law_copy" = some (.ref f)) (Fn : Fun M.K "_law_copy" "_law_copy" (topS 53) f fd) : ∀ n, DefD M "_law_copy" (topS 53) ["value"] (n + 1) (spCopy n)
  | 0 => copy_step B hm Fn 0 fun m h => nomatch h
  | n + 1 => copy_step B hm Fn (n + 1) fun m h => by cases h; exact ok_copy B hm Fn n
end
section
open PySem PySem.Spec PyProof.Rows L2 DL PySem.NumText
theorem flat_ty {O : Opens} {d : D} (h : flatD d = true) : ∃ t, tyD O d = some t ∧ t ≠ .list ∧ t ≠ .tuple ∧ t ≠ .dict := by
  cases d with
  | non => exact ⟨_, rfl, by decide, by decide, by decide⟩
  | bl b => exact ⟨_, rfl, by decide, by decide, by decide⟩
  | int b => exact ⟨_, rfl, by decide, by decide, by decide⟩
  | str b => exact ⟨_, rfl, by decide, by decide, by decide⟩
  | _ => cases h
theorem isi_not {t b : Ty} (h : t ≠ b) (h2 : b ≠ .int) : isi t b = false := by
  unfold isi
  rw [decide_eq_false h, decide_eq_false h2, Bool.and_false]; rfl
theorem any3 {t : Ty} (h1 : t ≠ .list) (h2 : t ≠ .tuple) (h3 : t ≠ .dict) : [Ty.list, .tuple, .dict].any (isi t) = false := by
  rw [List.any_cons, List.any_cons, List.any_cons, isi_not h1 (by decide), isi_not h2 (by decide), isi_not h3 (by decide)]; rfl
theorem any2 {t : Ty} (h1 : t ≠ .list) (h2 : t ≠ .tuple) : [Ty.list, .tuple].any (isi t) = false := by
  rw [List.any_cons, List.any_cons, isi_not h1 (by decide), isi_not h2 (by decide)]; rfl
theorem lst_ty {O : Opens} {q : Addr} {xs : List D} (h : O q = some (.lst xs)) : tyD O (.raw (.ref q)) = some .list := by
  show (match O q with | some (.lst _) => some Ty.list | some (.dic _ _) => some .dict | some (.lkd _ _ _ _) => some .dict | _ => none) = _
  rw [h]
theorem dic_ty {O : Opens} {q : Addr} {kz : List Key} {es : List D} (h : O q = some (.dic kz es)) : tyD O (.raw (.ref q)) = some .dict := DicU.ty (kz := kz) (ds := es) (.inr ⟨q, rfl, h⟩)
/-! ### grown -/
def spGrown : SpD := fun ds O Q _ => ∃ d, ds = [d] ∧ ((flatD d = true ∧ Q .non O) ∨ (∃ xs, d = .tup xs ∧ xs.length ≤ 1000 ∧ (∀ x ∈ xs, flatD x = true) ∧ Q .non O) ∨ (∃ q xs, d = .raw (.ref q) ∧ O q = some (.lst xs) ∧ xs.length ≤ 1000 ∧ (∀ x ∈ xs, flatD x = true) ∧ Q .non (O.up q (.lst (.str "more" :: xs)))) ∨
  ∃ q kz es, d = .raw (.ref q) ∧ O q = some (.dic kz es) ∧ kz.length ≤ 1000 ∧ Q .non (O.up q (.dic (putKs kz (.inr "more")) (putVs kz es (.inr "more") (.int 1)))))
local macro_rules | `(tactic| walk_at "dlE") => `(tactic| ((with_reducible show We _ (Expr.Call (Expr.Attribute (Expr.Name _ _) "insert" _) [_, _] [] _) _ _ _); refine we_insert ?_))
theorem ok_grown {M : Mo} {f : Addr} {fd : FuncData} (B : Blt M) (hm : M.mg "_law_grown" = some (.ref f)) (Fn : Fun M.K "_law_grown" "_law_grown" (topS 54) f fd) : DefD M "_law_grown" (topS 54) ["value"] 1 spGrown := by
  refine def_ok (N := ["value", "one"]) hm Fn ⟨rfl, rfl, rfl, by decide +kernel, rfl, by decide +kernel, by decide +kernel⟩ (fun _ _ _ _ _ _ us hl => match us, hl with | [_], _ => rfl) (fun ds O Q E ⟨_, e, _⟩ => by rw [e]; rfl) fun F ds O Qd Ed ⟨d, e, h⟩ => ?_
  subst e
  rcases h with ⟨hf, q⟩ | ⟨xs, rfl, hl, hx, q⟩ | ⟨p, xs, rfl, ho, hl, hx, q⟩ | ⟨p, kz, es, rfl, ho, hk, q⟩
  · cases d with
    | non =>
      repeat walk_at "dl"
      refine q_isit (bs := [.list, .tuple]) rfl ?_
      repeat walk_at "dl"
      exact q
    | bl b =>
      repeat walk_at "dl"
      refine q_isit (bs := [.list, .tuple]) rfl ?_
      repeat walk_at "dl"
      exact q
    | int b =>
      repeat walk_at "dl"
      refine q_isit (bs := [.list, .tuple]) rfl ?_
      repeat walk_at "dl"
      exact q
    | str b =>
      repeat walk_at "dl"
      refine q_isit (bs := [.list, .tuple]) rfl ?_
      repeat walk_at "dl"
      exact q
    | _ => cases hf
  · repeat walk_at "dl"
    refine q_isit (bs := [.list, .tuple]) rfl ?_
    repeat walk_at "dl"
    refine ws_forI rfl ?_
    refine pi_ls ?_
    repeat walk_at "dl"
    refine pi_tp ?_
    repeat walk_at "dl"
    refine ⟨xs, rfl, lc_filD xs (fun _ => false) (fun x => x) (Nat.le_trans hl (by decide)) (fun F0 x hm => ?_) ?_⟩
    · obtain ⟨t, ht, n1, n2, n3⟩ := flat_ty (O := O) (hx x hm)
      repeat walk_at "dl"
      refine q_isit (bs := [.list, .tuple, .dict]) ht ?_
      rw [any3 n1 n2 n3]
      repeat walk_at "dl"
      exact ⟨rfl, rfl, fun z => nomatch z⟩
    · rw [fil_none]
      refine q_lcf ⟨[], .inl rfl, for_stateD [] (fun _ ρ' O' => O' = O) rfl (fun i x ρ' O' hi _ _ => nomatch hi) fun ρ' O' w => ?_⟩
      subst w
      repeat walk_at "dl"
      exact q
  · have ty := lst_ty ho
    have ho2 : (O.up p (.lst (.str "more" :: xs))) p = some (.lst (.str "more" :: xs)) := Opens.up_same
    have ty2 := lst_ty ho2
    repeat walk_at "dl"
    refine ⟨p, xs, rfl, ho, ?_⟩
    repeat walk_at "dl"
    refine ⟨0, rfl, by decide, ?_⟩
    repeat walk_at "dl"
    refine ⟨xs, ho, Nat.lt_of_le_of_lt hl (by decide), ?_⟩
    show WSs _ _ _ (O.up p (.lst (.str "more" :: xs))) _
    repeat walk_at "dl"
    refine q_isit (bs := [.list, .tuple]) ty2 ?_
    repeat walk_at "dl"
    refine ws_forI rfl ?_
    refine pi_ls ?_
    refine we_lcLo (L := fun O1 => O1 p = some (.lst (.str "more" :: xs))) rfl (by kernel_rfl) ?_
    refine pi_lo (q := p) (ds := .str "more" :: xs) ?_
    repeat walk_at "dl"
    refine ⟨rfl, ho2, ?_⟩
    have hall : ∀ x ∈ (D.str "more" :: xs), flatD x = true := fun x h => by
      rcases List.mem_cons.mp h with rfl | h
      · rfl
      · exact hx x h
    refine lc_filLD (D.str "more" :: xs) (fun _ => false) (fun x => x) (by show xs.length + 1 ≤ sizeLine; exact Nat.le_trans (Nat.succ_le_succ hl) (by decide)) (fun F0 x hm => ?_) ho2 ?_
    · obtain ⟨t, ht, n1, n2, n3⟩ := flat_ty (O := O.up p (.lst (.str "more" :: xs))) (hall x hm)
      repeat walk_at "dl"
      refine q_isit (bs := [.list, .tuple, .dict]) ht ?_
      rw [any3 n1 n2 n3]
      repeat walk_at "dl"
      exact ⟨rfl, rfl, fun z => nomatch z⟩
    · rw [fil_none]
      refine q_lcf ⟨[], .inl rfl, for_stateD [] (fun _ ρ' O' => O' = O.up p (.lst (.str "more" :: xs))) rfl (fun i x ρ' O' hi _ _ => nomatch hi) fun ρ' O' w => ?_⟩
      subst w
      repeat walk_at "dl"
      exact q
  · have ty := dic_ty ho
    have ho2 : (O.up p (.dic (putKs kz (.inr "more")) (putVs kz es (.inr "more") (.int 1)))) p = some (.dic (putKs kz (.inr "more")) (putVs kz es (.inr "more") (.int 1))) := Opens.up_same
    have ty2 := dic_ty ho2
    repeat walk_at "dl"
    refine ws_asg ?_
    repeat walk_at "dl"
    refine wg_subD ?_
    repeat walk_at "dl"
    refine ⟨p, kz, es, _, rfl, rfl, ho, Nat.lt_of_le_of_lt hk (by decide), ?_⟩
    repeat walk_at "dl"
    refine q_isit (bs := [.list, .tuple]) ty2 ?_
    repeat walk_at "dl"
    exact q
end
section
open PySem PySem.Spec PyProof.Rows L2 DL PySem.NumText
/-! ### plain copies of objects; objects made anew -/
structure Cls3 (M : Mo) (CF CT CL : Addr) : Prop where
  fam : M.mg "Family" = some (.ref CF)
  tal : M.mg "Tally" = some (.ref CT)
  log : M.mg "Log" = some (.ref CL)
  isF : IsC M.K CF
  isT : IsC M.K CT
  isL : IsC M.K CL
  ins : InsC M.K CF
  kF : PySem.W.kitOne M.K (.ref CF) (.ref CF) = some true
  fc : FamC M.K CF
  mkF : PCls M "Family" CF ["events", "sets", "twins"] 9 (spFamI M.K)
def spPlain (CF : Addr) (n : Nat) : SpD := fun ds O Q _ => ∃ d, ds = [d] ∧ ((Tpl n d ∧ Q d O) ∨ (∃ m q xs, n = m + 1 ∧ d = .raw (.ref q) ∧ O q = some (.lst xs) ∧ xs.length ≤ 100000 ∧ (∀ x ∈ xs, Tpl m x) ∧ Q (.lst xs) O) ∨ (∃ g : Fam, d = famD CF g ∧ Q (.dic famK (famE g)) O) ∨ ∃ q kz es, d = .raw (.ref q) ∧ O q = some (.dic kz es) ∧ Q d O)
local macro_rules | `(tactic| walk_at "dlE") => `(tactic| first
  | ((with_reducible show We _ (Expr.Call (Expr.Name "isinstance" _) [_, Expr.Name "Family" _] [] _) _ _ _); refine we_isc (by assumption) rfl ?_)
  | ((with_reducible show We _ (Expr.Call (Expr.Name "isinstance" _) [_, Expr.Name "Tally" _] [] _) _ _ _); refine we_isc (by assumption) rfl ?_)
  | ((with_reducible show We _ (Expr.Call (Expr.Name "isinstance" _) [_, Expr.Name "Log" _] [] _) _ _ _); refine we_isc (by assumption) rfl ?_)
  | ((with_reducible show We _ (Expr.Name "Family" _) _ _ _); refine we_cls rfl (by assumption) ?_)
  | ((with_reducible show We _ (Expr.Name "Tally" _) _ _ _); refine we_cls rfl (by assumption) ?_)
  | ((with_reducible show We _ (Expr.Name "Log" _) _ _ _); refine we_cls rfl (by assumption) ?_)
  | ((with_reducible show We _ (Expr.Attribute _ _ _) _ _ _); refine we_fld ?_)
  | ((with_reducible show We _ (Expr.Dict [some _] [_] _) _ _ _); refine we_dic1 ?_))
local macro_rules | `(tactic| walk_at "dlS") => `(tactic| first
  | ((with_reducible show WS _ (Stmt.Return (some (Expr.Dict [some _] [_] _)) _) _ _ _); refine ws_ret ?_; refine we_shutD ?_)
  | ((with_reducible show WS _ (Stmt.Return (some (Expr.ListComp _ _ _ _)) _) _ _ _); refine ws_ret ?_; refine we_lcOp rfl (by kernel_rfl) ?_))
/-- isinstance(d, C) of a built-in thing -/
theorem q_iscb {K : PySem.W.Frag} {d : D} {C : Addr} {O : Opens} {Q : DK} (c : IsC K C) (h : ∃ t, tyD O d = some t) (q : Q (.bl false) O) : IscQ K [d, .raw (.ref C)] O Q := ⟨c, .inl (h.imp fun _ h => ⟨h, q⟩)⟩
theorem ok_plain {M : Mo} {CF CT CL : Addr} {f : Addr} {fd : FuncData} (B : Blt M) (C3 : Cls3 M CF CT CL) (hm : M.mg "_law_plain" = some (.ref f)) (Fn : Fun M.K "_law_plain" "_law_plain" (topS 57) f fd) (n : Nat) (ih : ∀ m, n = m + 1 → DefD M "_law_plain" (topS 57) ["value"] n (spPlain CF m)) : DefD M "_law_plain" (topS 57) ["value"] (n + 1) (spPlain CF n) := by
  obtain ⟨cF, cT, cL, iF, iT, iL, iI, kF, fc, mk⟩ := C3
  refine def_ok (N := ["value", "item"]) hm Fn ⟨rfl, rfl, rfl, by decide +kernel, rfl, by decide +kernel, by decide +kernel⟩ (fun _ _ _ _ _ _ us hl => match us, hl with | [_], _ => rfl) (fun ds O Q E ⟨_, e, _⟩ => by rw [e]; rfl) fun F ds O Qd Ed ⟨d, e, h⟩ => ?_
  subst e
  rcases h with ⟨ht, q⟩ | ⟨m, p, xs, rfl, rfl, ho, hl, hx, q⟩ | ⟨g, rfl, q⟩ | ⟨p, kz, es, rfl, ho, q⟩
  · cases ht with
    | flat hf =>
      obtain ⟨t, ht, n1, n2, n3⟩ := flat_ty (O := O) hf
      repeat walk_at "dl"
      refine q_iscb iF ⟨t, ht⟩ ?_
      repeat walk_at "dl"
      refine q_iscb iT ⟨t, ht⟩ ?_
      repeat walk_at "dl"
      refine q_iscb iL ⟨t, ht⟩ ?_
      repeat walk_at "dl"
      rw [isi_not n1 (by decide)]
      repeat walk_at "dl"
      rw [isi_not n2 (by decide)]
      repeat walk_at "dl"
      exact q
    | @tup m xs hl hx =>
      have rec_ := ih m rfl
      repeat walk_at "dl"
      refine q_iscb iF ⟨_, rfl⟩ ?_
      repeat walk_at "dl"
      refine q_iscb iT ⟨_, rfl⟩ ?_
      repeat walk_at "dl"
      refine q_iscb iL ⟨_, rfl⟩ ?_
      repeat walk_at "dl"
      refine pi_tp ?_
      repeat walk_at "dl"
      refine ⟨_, rfl, lc_mapD xs (fun x => x) (Nat.le_trans hl (by decide)) (fun F0 x hm => ?_) ?_⟩
      · repeat walk_at "dl"
        refine we_call rec_ (Nat.le_refl _) rfl rfl ?_
        repeat walk_at "dl"
        exact ⟨x, rfl, .inl ⟨hx x hm, rfl, rfl⟩⟩
      · rw [List.map_id']
        repeat walk_at "dl"
        exact q
  · have rec_ := ih m rfl
    have ty := lst_ty ho
    walk_at "dl"
    repeat walk_at "dl"
    refine q_iscb iF ⟨_, ty⟩ ?_
    repeat walk_at "dl"
    refine q_iscb iT ⟨_, ty⟩ ?_
    repeat walk_at "dl"
    refine q_iscb iL ⟨_, ty⟩ ?_
    repeat walk_at "dl"
    refine ⟨p, xs, rfl, ho, lc_mapLD xs (fun x => x) (Nat.le_trans hl (by decide)) (fun F0 x hm => ?_) ho ?_⟩
    · repeat walk_at "dl"
      refine we_call rec_ (Nat.le_refl _) rfl rfl ?_
      repeat walk_at "dl"
      exact ⟨x, rfl, .inl ⟨hx x hm, rfl, rfl⟩⟩
    · rw [List.map_id']
      exact q_lcf q
  · repeat walk_at "dl"
    refine ⟨iF, .inr ⟨CF, _, _, true, rfl, iI, kF, ?_⟩⟩
    repeat walk_at "dl"
    refine fun p hp => ?_
    repeat walk_at "dl"
    refine ⟨CF, _, _, _, rfl, fc.cl, fc.no1, rfl, ?_⟩
    repeat walk_at "dl"
    refine ⟨CF, _, _, _, rfl, fc.cl, fc.no2, rfl, ?_⟩
    repeat walk_at "dl"
    refine ⟨CF, _, _, _, rfl, fc.cl, fc.no3, rfl, ?_⟩
    repeat walk_at "dl"
    refine ⟨Opens.up_same, p, _, _, rfl, Opens.up_same, ?_⟩
    rw [Opens.up_up, Opens.drop_up hp]
    exact q
  · have ty := dic_ty ho
    repeat walk_at "dl"
    refine q_iscb iF ⟨_, ty⟩ ?_
    repeat walk_at "dl"
    refine q_iscb iT ⟨_, ty⟩ ?_
    repeat walk_at "dl"
    refine q_iscb iL ⟨_, ty⟩ ?_
    repeat walk_at "dl"
    exact q
theorem ok_plains {M : Mo} {CF CT CL : Addr} {f : Addr} {fd : FuncData} (B : Blt M) (C3 : Cls3 M CF CT CL) (hm : M.mg "_law_plain" = some (.ref f)) (Fn : Fun M.K "_law_plain" "_law_plain" (topS 57) f fd) : ∀ n, DefD M "_law_plain" (topS 57) ["value"] (n + 1) (spPlain CF n)
  | 0 => ok_plain B C3 hm Fn 0 fun m h => nomatch h
  | n + 1 => ok_plain B C3 hm Fn (n + 1) fun m h => by cases h; exact ok_plains B C3 hm Fn n
end
section
open PySem PySem.Spec PyProof.Rows L2 DL PySem.NumText
local macro_rules | `(tactic| walk_at "dl") => `(tactic| ((with_reducible show WK _ _ _ _ _); first | refine wk_cons ?_ | refine wk_nil ?_))
def spObj (CF : Addr) : SpD := fun ds O Q _ => ∃ d, ds = [d] ∧ ((∃ q g, d = .raw (.ref q) ∧ O q = some (.dic famK (famE g)) ∧ Fam.Ok g ∧ Q (famD CF g) O) ∨ (∃ t, tyD O d = some t ∧ t ≠ .dict ∧ Q d O) ∨ ∃ q z e, d = .raw (.ref q) ∧ O q = some (.dic [.inr z] [e]) ∧ z ≠ "family" ∧ z ≠ "tally" ∧ z ≠ "log" ∧ Q d O)
local macro_rules | `(tactic| walk_at "dlT") => `(tactic| ((with_reducible show WT _ (Expr.Compare (Expr.Constant _ _ _) [CmpOp.In] [_] _) _ _ _); refine wt_inK ?_))
local macro_rules | `(tactic| walk_at "dlE") => `(tactic| ((with_reducible show We _ (Expr.Subscript (Expr.Name _ _) (Expr.Constant (Const.str _) _ _) _) _ _ _); refine we_getK ?_))
theorem not_key {z w : Str} (h : z ≠ w) : ([Sum.inr z] : List Key).any (fun c => decide (c = .inr w)) = false := by
  rw [List.any_cons, decide_eq_false (fun e => h (Sum.inr.inj e))]; rfl
theorem ok_object {M : Mo} {CF CT CL : Addr} {f : Addr} {fd : FuncData} (B : Blt M) (C3 : Cls3 M CF CT CL) (hm : M.mg "_law_object" = some (.ref f)) (Fn : Fun M.K "_law_object" "_law_object" (topS 56) f fd) : DefD M "_law_object" (topS 56) ["value"] 11 (spObj CF) := by
  obtain ⟨cF, cT, cL, iF, iT, iL, iI, kF, fc, mk⟩ := C3
  refine def_ok (N := ["value"]) hm Fn ⟨rfl, rfl, rfl, by decide +kernel, rfl, by decide +kernel, by decide +kernel⟩ (fun _ _ _ _ _ _ us hl => match us, hl with | [_], _ => rfl) (fun ds O Q E ⟨_, e, _⟩ => by rw [e]; rfl) fun F ds O Qd Ed ⟨d, e, h⟩ => ?_
  subst e
  rcases h with ⟨p, g, rfl, ho, hg, q⟩ | ⟨t, ht, hne, q⟩ | ⟨p, z, e, rfl, ho, z1, z2, z3, q⟩
  · have ty := dic_ty ho
    have dd : DicO O (.raw (.ref p)) famK (famE g) := .inr ⟨p, rfl, .inl ho⟩
    repeat walk_at "dl"
    refine ⟨_, _, .inr "family", dd, rfl, ?_⟩
    repeat walk_at "dl"
    have hv : valD famK (famE g) (.inr "family") = some (.lst (famV g)) := val_nodup (i := 0) (by simp) rfl rfl
    refine we_shutI ?_
    refine we_mkO mk (Nat.le_of_ble_eq_true rfl) rfl rfl ?_
    repeat walk_at "dl"
    refine ⟨_, _, .inr "family", _, dd, rfl, hv, ?_⟩
    repeat walk_at "dl"
    refine ⟨_, _, .inr "family", _, dd, rfl, hv, ?_⟩
    repeat walk_at "dl"
    refine ⟨_, _, .inr "family", _, dd, rfl, hv, ?_⟩
    repeat walk_at "dl"
    refine fun a ha => ⟨a, CF, g, rfl, Opens.up_same, fc, hg, rfl, a, CF, _, _, rfl, Opens.up_same, ?_⟩
    rw [Opens.up_up, Opens.drop_up ha]
    exact q
  · repeat walk_at "dl"
    rw [isi_not hne (by decide)]
    repeat walk_at "dl"
    rw [isi_not hne (by decide)]
    repeat walk_at "dl"
    rw [isi_not hne (by decide)]
    repeat walk_at "dl"
    exact q
  · have ty := dic_ty ho
    have dd : DicO O (.raw (.ref p)) [.inr z] [e] := .inr ⟨p, rfl, .inl ho⟩
    repeat walk_at "dl"
    refine ⟨_, _, .inr "family", dd, rfl, ?_⟩
    rw [not_key z1]
    repeat walk_at "dl"
    refine ⟨_, _, .inr "tally", dd, rfl, ?_⟩
    rw [not_key z2]
    repeat walk_at "dl"
    refine ⟨_, _, .inr "log", dd, rfl, ?_⟩
    rw [not_key z3]
    repeat walk_at "dl"
    exact q
/-! ### calls by keywords -/
def swp {α : Type} (_ zs : List α) : List α := match zs with
  | [a, b] => [b, a]
  | l => l
def idK {α : Type} (_ zs : List α) : List α := zs
theorem kw_swap {x : Str} {st : Stmt} {p1 p2 : Str} (to : ∀ (kV doc pm : Value) (an : Option Addr) (cdv ct a b : Value), bindArgs (PySem.W.fnOf x x (defArgs st) (defBody st) (defScope st) .none kV doc pm an cdv ct) ⟨[], [(p2, b), (p1, a)]⟩ = pure [(p1, a), (p2, b)]) : KwB x st [p1, p2] [p2, p1] 0 swp where
  to := fun kV doc pm an cdv ct us ws h1 h2 => by
    match us, ws, h1, h2 with
    | [], [b, a], _, _ => exact to kV doc pm an cdv ct a b
  rel := fun {vs us zs ws} h1 h2 h3 h4 => by
    match ws, h2, h4 with
    | [b, a], .cons r1 (.cons r2 .nil), _ => exact .cons r2 (.cons r1 .nil)
  rep := fun {K F vs ds zs es} h1 h2 h3 h4 => by
    match es, h4 with
    | [b, a], _ =>
      obtain ⟨v, w, rfl, r1, r2⟩ := reps2 h2
      exact Reps.cons r2 (Reps.cons r1 Reps.nil)
theorem kw_one {x : Str} {st : Stmt} {p1 : Str} (to : ∀ (kV doc pm : Value) (an : Option Addr) (cdv ct a : Value), bindArgs (PySem.W.fnOf x x (defArgs st) (defBody st) (defScope st) .none kV doc pm an cdv ct) ⟨[], [(p1, a)]⟩ = pure [(p1, a)]) : KwB x st [p1] [p1] 0 idK where
  to := fun kV doc pm an cdv ct us ws h1 h2 => by
    match us, ws, h1, h2 with
    | [], [a], _, _ => exact to kV doc pm an cdv ct a
  rel := fun _ h2 _ _ => h2
  rep := fun _ h2 _ _ => h2
theorem kw_coin_bar : KwB "coin_bar" (topS 44) ["family"] ["family"] 0 idK := kw_one fun _ _ _ _ _ _ _ => rfl
theorem kw_is_coin_bar : KwB "is_coin_bar" (topS 45) ["family", "value"] ["value", "family"] 0 swp := kw_swap fun _ _ _ _ _ _ _ _ => rfl
theorem kw_bar_lack : KwB "bar_lack" (topS 46) ["family", "bar"] ["bar", "family"] 0 swp := kw_swap fun _ _ _ _ _ _ _ _ => rfl
structure BarDefs (M : Mo) (CB : Addr) : Prop where
  coin : DefD M "coin_bar" (topS 44) ["family"] 3 (spCoin M.K)
  is_ : DefD M "is_coin_bar" (topS 45) ["family", "value"] 2 (spIsBar M.K)
  lack : DefD M "bar_lack" (topS 46) ["family", "bar"] 3 (spLack M.K CB)
def spCalled (K : PySem.W.Frag) (CB : Addr) : SpD := fun ds O Q E => ∃ (door : Int) (b : Bool), (∃ C g, ds = [.int door, .lst [famD C g], .bl b] ∧ door = 0 ∧ spCoin K [famD C g] O Q E) ∨ ∃ C g d, ds = [.int door, .lst [famD C g, d], .bl b] ∧ ((door = 1 ∧ spIsBar K [famD C g, d] O Q E) ∨ (door = 2 ∧ spLack K CB [famD C g, d] O Q E))
theorem ok_called {M : Mo} {CB : Addr} {f : Addr} {fd : FuncData} (B : Blt M) (Bd : BarDefs M CB) (hm : M.mg "_law_called" = some (.ref f)) (Fn : Fun M.K "_law_called" "_law_called" (topS 58) f fd) : DefD M "_law_called" (topS 58) ["door", "things", "by_name"] 4 (spCalled M.K CB) := by
  obtain ⟨h1, h2, h3⟩ := Bd
  refine def_ok (N := ["door", "things", "by_name"]) hm Fn ⟨rfl, rfl, rfl, by decide +kernel, rfl, by decide +kernel, by decide +kernel⟩ (fun _ _ _ _ _ _ us hl => match us, hl with | [_, _, _], _ => rfl) (fun ds O Q E ⟨_, _, h⟩ => by rcases h with ⟨_, _, e, _⟩ | ⟨_, _, _, e, _⟩ <;> (rw [e]; rfl)) fun F ds O Qd Ed ⟨door, b, h⟩ => ?_
  rcases h with ⟨C, g, rfl, rfl, h⟩ | ⟨C, g, d, rfl, ⟨rfl, h⟩ | ⟨rfl, h⟩⟩
  · repeat walk_at "dl"
    cases b with
    | true =>
      repeat walk_at "dl"
      refine we_callK0 h1 kw_coin_bar (Nat.le_of_ble_eq_true rfl) rfl rfl ?_
      repeat walk_at "dl"
      exact ⟨rfl, h⟩
    | false =>
      repeat walk_at "dl"
      exact h
  · repeat walk_at "dl"
    cases b with
    | true =>
      repeat walk_at "dl"
      refine we_callK0 h2 kw_is_coin_bar (Nat.le_of_ble_eq_true rfl) rfl rfl ?_
      repeat walk_at "dl"
      exact ⟨rfl, h⟩
    | false =>
      repeat walk_at "dl"
      exact h
  · repeat walk_at "dl"
    cases b with
    | true =>
      repeat walk_at "dl"
      refine we_callK0 h3 kw_bar_lack (Nat.le_of_ble_eq_true rfl) rfl rfl ?_
      repeat walk_at "dl"
      exact ⟨rfl, h⟩
    | false =>
      repeat walk_at "dl"
      exact h
end
section
open PySem PySem.Spec PyProof.Rows L2 DL PySem.NumText
local macro_rules | `(tactic| walk_at "dlS") => `(tactic| ((with_reducible show WS _ (Stmt.Assign [Expr.Name _ _] (Expr.ListComp _ [_] _ _) _) _ _ _); refine ws_lc rfl rfl rfl rfl rfl (by kernel_rfl) (by kernel_rfl) ?_))
theorem asksD_name {Γ : G} {x : Str} {C : Addr} {p : Pos} (hg : GlN Γ x) (hm : Γ.M.mg x = some (.ref C)) (hd : (x == ("__debug__" : Str)) = false := by decide) : ∀ X, Γ.Has X → DLX.Asks X (.Name x p) [.ref C] := fun X hX =>
  DLX.asks_name ⟨hX.gl hg, hd, .inl (by rw [← hX.mg]; exact hm)⟩
def giv (C : Addr) (d : D) : XD := ⟨C, ["given"], [d]⟩
theorem we_given {Γ : G} {F0 : DL.Fr} {a C : Addr} {d : D} {da : Option Addr} {e : Expr} {pos : Pos} {ρ : Env'} {O : Opens} {Q : DK} (rx : RepX Γ.M.K F0 (giv C d) (.ref C) da) (rd : XfC Γ.M.K C) (no : PySem.W.findIn Γ.M.K (.ref C) "given" = some none)
    (h : We (suiteG Γ F0 a (giv C d) da) e ρ O fun y O1 => y = .raw (.ref a) ∧ Q d O1) (hb : ∀ env, attributeBase e "given" env (eval e env) = eval e env := by intro _; rfl) : We (suiteG Γ F0 a (giv C d) da) (.Attribute e "given" pos) ρ O Q := by
  obtain ⟨_, _, hx⟩ := rx
  rcases hx with hx | ⟨dd, vs, rfl, h1, h2⟩
  · cases hx
  · exact we_xp (h.imp fun y O1 ⟨hy, q⟩ => ⟨a, C, ["given"], [d], dd, d, hy, ⟨rfl, rfl, rfl⟩, ⟨vs, h1, h2⟩, rd, no, rfl, q⟩) hb
theorem isx_suite {Γ : G} {F0 : DL.Fr} {a C D' : Addr} {d : D} {da : Option Addr} {O : Opens} {Q : DK} {b : Bool} (rx : RepX Γ.M.K F0 (giv C d) (.ref C) da) (ec : ExcC Γ.M.K C) (kk : PySem.W.kitOne Γ.M.K (.ref C) (.ref D') = some b) (q : Q (.bl b) O) :
    IsXQ (suiteG Γ F0 a (giv C d) da) [.raw (.ref a), .raw (.ref D')] O Q := by
  obtain ⟨_, _, hx⟩ := rx
  rcases hx with hx | ⟨dd, vs, rfl, h1, h2⟩
  · cases hx
  · exact ⟨C, dd, _, b, ⟨rfl, rfl, rfl⟩, ⟨_, vs, h1⟩, rfl, ec, kk, q⟩
/-! ### the values of the law -/
def FlatOk (x : D) : Prop := flatD x = true ∧ ∀ z, x = .str z → z.length ≤ 1000 ∧ PyData.strOk z = true
abbrev aK : List Key := [.inr "a"]
abbrev aE : List D := [.int 1]
def V30 (O : Opens) (d : D) : Prop := FlatOk d ∨ (∃ xs, d = .tup xs ∧ xs.length ≤ 100 ∧ ∀ x ∈ xs, FlatOk x) ∨ (∃ xs, d = .lst xs ∧ xs.length ≤ 100 ∧ ∀ x ∈ xs, FlatOk x) ∨ ∃ q, d = .raw (.ref q) ∧ O q = some (.dic aK aE)
/-- a copy of it -/
def CpOf (O O' : Opens) (d d' : D) : Prop := (FlatOk d ∧ d' = d) ∨ (∃ xs, d = .tup xs ∧ xs.length ≤ 100 ∧ (∀ x ∈ xs, FlatOk x) ∧ d' = d) ∨ (∃ xs p, d = .lst xs ∧ xs.length ≤ 100 ∧ (∀ x ∈ xs, FlatOk x) ∧ d' = .raw (.ref p) ∧ O p = none ∧ O' p = some (.lst xs)) ∨ ∃ q p, d = .raw (.ref q) ∧ O q = some (.dic aK aE) ∧ d' = .raw (.ref p) ∧ O p = none ∧ O' p = some (.dic aK aE)
theorem FlatOk.tpl {n : Nat} {d : D} (h : FlatOk d) : Tpl n d := .flat h.1
theorem FlatOk.plain {n : Nat} {d : D} (h : FlatOk d) : Plain n d := by
  obtain ⟨h1, h2⟩ := h
  cases d with
  | non => exact .non
  | bl b => exact .bl
  | int b => exact .int
  | str z => exact .str (Nat.le_trans (h2 z rfl).1 (by decide))
  | _ => cases h1
theorem FlatOk.val {O : Opens} {d : D} (h : FlatOk d) : Val1 O d := by
  obtain ⟨t, ht, _⟩ := flat_ty (O := O) h.1
  exact ⟨⟨t, ht⟩, fun xs e => by subst e; cases h.1⟩
theorem CpOf.val {O O' : Opens} {d d' : D} (h : CpOf O O' d d') : Val1 O' d' ∧ ∀ ss, isBarD ss d' = isBarD ss d := by
  rcases h with ⟨h, rfl⟩ | ⟨xs, rfl, hl, hx, rfl⟩ | ⟨xs, p, rfl, hl, hx, rfl, ho, ho'⟩ | ⟨q, p, rfl, hq, rfl, ho, ho'⟩
  · exact ⟨h.val, fun _ => rfl⟩
  · refine ⟨⟨⟨_, rfl⟩, fun ys e => ?_⟩, fun _ => rfl⟩
    cases e
    exact ⟨hl, fun x hm => by obtain ⟨t, ht, _⟩ := flat_ty (O := O') (hx x hm).1; exact ⟨t, ht⟩⟩
  · exact ⟨⟨⟨_, lst_ty ho'⟩, fun ys e => by cases e⟩, fun _ => rfl⟩
  · exact ⟨⟨⟨_, dic_ty ho'⟩, fun ys e => by cases e⟩, fun _ => rfl⟩
theorem fam_tpl {g : Fam} (h : Fam.Ok g) : CpE 4 (.lst (famV g)) := by
  have t1 : ∀ {n : Nat} {l : List Int}, l.length ≤ 100 → Tpl (n + 1) (tupI l) := fun {n l} hl => .tup (by rw [List.length_map]; omega) fun x hx => by
    obtain ⟨i, _, rfl⟩ := List.mem_map.mp hx
    exact .flat rfl
  refine .inr ⟨3, famV g, rfl, rfl, by show 3 ≤ 100000; decide, fun x hx => ?_⟩
  rcases List.mem_cons.mp hx with rfl | hx
  · exact t1 h.asc.len
  rcases List.mem_cons.mp hx with rfl | hx
  · refine .tup (by rw [List.length_map]; exact Nat.le_trans h.sets.len (by decide)) fun x hx => ?_
    obtain ⟨s, hs, rfl⟩ := List.mem_map.mp hx
    refine .tup (by show 2 ≤ 100000; decide) fun x hx => ?_
    rcases List.mem_cons.mp hx with rfl | hx
    · exact t1 (h.sets.part s hs).asc.len
    · rw [List.mem_singleton.mp hx]; exact .flat rfl
  · rw [List.mem_singleton.mp hx]
    refine .tup (by rw [List.length_map]; exact Nat.le_trans h.tws.len (by decide)) fun x hx => ?_
    obtain ⟨s, hs, rfl⟩ := List.mem_map.mp hx
    exact t1 (h.tws.part s hs).asc.len
theorem fam_plain {g : Fam} (h : Fam.Ok g) : ∀ e ∈ famE g, Plain 4 e := fun e he => by
  have t1 : ∀ {n : Nat} {l : List Int}, l.length ≤ 100 → Plain (n + 1) (tupI l) := fun {n l} hl => .tup (by rw [List.length_map]; omega) fun x hx => by
    obtain ⟨i, _, rfl⟩ := List.mem_map.mp hx
    exact .int
  rw [List.mem_singleton.mp he]
  refine .lst (by show 3 ≤ 100000; decide) fun x hx => ?_
  rcases List.mem_cons.mp hx with rfl | hx
  · exact t1 h.asc.len
  rcases List.mem_cons.mp hx with rfl | hx
  · refine .tup (by rw [List.length_map]; exact Nat.le_trans h.sets.len (by decide)) fun x hx => ?_
    obtain ⟨s, hs, rfl⟩ := List.mem_map.mp hx
    refine .tup (by show 2 ≤ 100000; decide) fun x hx => ?_
    rcases List.mem_cons.mp hx with rfl | hx
    · exact t1 (h.sets.part s hs).asc.len
    · rw [List.mem_singleton.mp hx]; exact .int
  · rw [List.mem_singleton.mp hx]
    refine .tup (by rw [List.length_map]; exact Nat.le_trans h.tws.len (by decide)) fun x hx => ?_
    obtain ⟨s, hs, rfl⟩ := List.mem_map.mp hx
    exact t1 (h.tws.part s hs).asc.len
structure BarX (M : Mo) (CB CE : Addr) : Prop where
  bar : XCls M "InvalidBar" CB "given" 1
  ev : M.mg "EvenError" = some (.ref CE)
  ex : PySem.W.exmAny M.K (.ref CB) [.ref CB] = some true
  kk : PySem.W.kitOne M.K (.ref CB) (.ref CE) = some true
abbrev fSets (g : Fam) : List (List Int) := g.ss.map (·.1)
/-- what is told of a call -/
def spTold (CB CF : Addr) : SpD := fun ds O Q _ => ∃ (b : Bool) (f : Addr) (g : Fam), O f = some (.dic famK (famE g)) ∧ Fam.Ok g ∧ SetsN g.ss ∧
  ((ds = [.int 0, .lst [.raw (.ref f)], .bl b] ∧ Q (.lst [.str "told", barD g, .lst [famD CF g], .bl true]) O) ∨
  ∃ (door : Int) (d : D), ds = [.int door, .lst [.raw (.ref f), d], .bl b] ∧ V30 O d ∧ ((door = 1 ∧ ∀ d' O', CpOf O O' d d' → OLe O O' → Q (.lst [.str "told", .bl (isBarD (fSets g) d), .lst [famD CF g, d'], .bl true]) O') ∨
    (door = 2 ∧ isBarD (fSets g) d = false ∧ ∀ d' O', CpOf O O' d d' → OLe O O' → Q (.lst [.str "bar", d', .lst [famD CF g, d'], .bl true]) O') ∨
    (door = 2 ∧ ∃ l, d = tupI l ∧ isBarL (fSets g) l = true ∧ ∀ O', OLe O O' → Q (.lst [.str "told", tupI (if joinB (fSets g) l then [1, 2] else [1, 4]), .lst [famD CF g, d], .bl true]) O')))
abbrev NT : List Str := ["door", "ask", "by_name", "value", "things", "told", "e", "one"]
end
section
open PySem PySem.Spec PyProof.Rows L2 DL PySem.NumText
local macro_rules | `(tactic| walk_at "dlS") => `(tactic| ((with_reducible show WS _ (Stmt.Assign [Expr.Name _ _] (Expr.ListComp _ [_] _ _) _) _ _ _); refine ws_lc rfl rfl rfl rfl rfl (by kernel_rfl) (by kernel_rfl) ?_))
local macro_rules | `(tactic| walk_at "dlE") => `(tactic| ((with_reducible show We _ (Expr.Call (Expr.Name "isinstance" _) [Expr.Name "e" _, _] [] _) _ _ _); refine we_isx (by assumption) rfl ?_))
structure ToldDefs (M : Mo) (CB CF : Addr) : Prop where
  copy : DefD M "_law_copy" (topS 53) ["value"] 6 (spCopy 5)
  obj : DefD M "_law_object" (topS 56) ["value"] 11 (spObj CF)
  called : DefD M "_law_called" (topS 58) ["door", "things", "by_name"] 4 (spCalled M.K CB)
  plain : DefD M "_law_plain" (topS 57) ["value"] 3 (spPlain CF 2)
  same : DefD M "_law_same" (topS 52) ["told", "due"] 7 (spSame 6)
theorem same_fam {O : Opens} {f : Addr} {g : Fam} (hf : O f = some (.dic famK (famE g))) (hg : Fam.Ok g) : SameT 5 O (.dic famK (famE g)) (.raw (.ref f)) :=
  .inr (.inl ⟨f, famK, famE g, rfl, .inl rfl, hf, by simp, by show 1 ≤ 1000; decide, rfl, fam_plain hg⟩)
theorem told_end1 {M : Mo} {CB CF CT CL : Addr} {F : DL.Fr} {Ed : XD → Opens → Prop} {Z : EndsD} {O : Opens} {x0 x2 x3 x6 x7 : Option D} {f : Addr} {g : Fam} {w c : D} (B : Blt M) (Td : ToldDefs M CB CF) (hf : O f = some (.dic famK (famE g))) (hg : Fam.Ok g)
    (q : Z.rt (.lst [w, c, .lst [famD CF g], .bl true]) O) :
    WSs (bodyG M NT (defScope (topS 59)) 11 F Ed) ((defBody (topS 59)).drop 2) [x0, some (.lst [.raw (.ref f)]), x2, x3, some (.lst [famD CF g]), some (.lst [w, c]), x6, x7] O Z := by
  obtain ⟨_, _, _, hp, hs⟩ := Td
  repeat walk_at "dl"
  refine pi_ls ?_
  repeat walk_at "dl"
  refine ⟨_, .inl rfl, lc_one (fun y O1 => y = .dic famK (famE g) ∧ O1 = O) (fun F0 => ?_) (fun y1 O1 w1 => ?_)⟩
  · repeat walk_at "dl"
    exact ⟨famD CF g, rfl, .inr (.inr (.inl ⟨g, rfl, rfl, rfl⟩))⟩
  · obtain ⟨rfl, rfl⟩ := w1
    repeat walk_at "dl"
    refine ⟨_, _, rfl, .inr (.inr ⟨_, _, rfl, rfl, rfl, by show 1 ≤ 1000; decide, fun i x y h1 h2 => ?_⟩), ?_⟩
    · match i, h1, h2 with
      | 0, h1, h2 =>
        cases h1; cases h2
        exact same_fam hf hg
    repeat walk_at "dl"
    refine q_addl (by show 4 ≤ sizeLine; decide) ?_
    exact q
theorem told_end2 {M : Mo} {CB CF CT CL : Addr} {F : DL.Fr} {Ed : XD → Opens → Prop} {Z : EndsD} {O0 O : Opens} {x0 x2 x3 x6 x7 : Option D} {f : Addr} {g : Fam} {w c d d' : D} (B : Blt M) (Td : ToldDefs M CB CF) (hf : O0 f = some (.dic famK (famE g))) (hg : Fam.Ok g) (hc : CpOf O0 O d d') (le : OLe O0 O)
    (q : Z.rt (.lst [w, c, .lst [famD CF g, d'], .bl true]) O) :
    WSs (bodyG M NT (defScope (topS 59)) 11 F Ed) ((defBody (topS 59)).drop 2) [x0, some (.lst [.raw (.ref f), d]), x2, x3, some (.lst [famD CF g, d']), some (.lst [w, c]), x6, x7] O Z := by
  obtain ⟨_, _, _, hp, hs⟩ := Td
  have pl : ∃ pl, SameT 5 O pl d ∧ ∀ {Q : DK} {E}, Q pl O → spPlain CF 2 [d'] O Q E := by
    rcases hc with ⟨h, rfl⟩ | ⟨xs, rfl, hl, hx, rfl⟩ | ⟨xs, p, rfl, hl, hx, rfl, ho, ho'⟩ | ⟨qq, p, rfl, hq, rfl, ho, ho'⟩
    · exact ⟨d', .inl ⟨rfl, h.plain⟩, fun q => ⟨d', rfl, .inl ⟨h.tpl, q⟩⟩⟩
    · exact ⟨_, .inl ⟨rfl, .tup (by omega) fun x hm => (hx x hm).plain⟩, fun q => ⟨_, rfl, .inl ⟨.tup (by omega) fun x hm => (hx x hm).tpl, q⟩⟩⟩
    · exact ⟨.lst xs, .inl ⟨rfl, .lst (by omega) fun x hm => (hx x hm).plain⟩, fun q => ⟨_, rfl, .inr (.inl ⟨1, p, xs, rfl, rfl, ho', by omega, fun x hm => (hx x hm).tpl, q⟩)⟩⟩
    · refine ⟨.raw (.ref p), .inr (.inl ⟨qq, aK, aE, rfl, .inr ⟨p, rfl, ho'⟩, le _ _ hq, by simp, by show 1 ≤ 1000; decide, rfl, fun e he => ?_⟩), fun q => ⟨_, rfl, .inr (.inr (.inr ⟨p, aK, aE, rfl, ho', q⟩))⟩⟩
      rw [List.mem_singleton.mp he]; exact .int
  obtain ⟨pl, sm, spp⟩ := pl
  repeat walk_at "dl"
  refine pi_ls ?_
  repeat walk_at "dl"
  refine ⟨_, .inl rfl, lc_two (fun y O1 => y = .dic famK (famE g) ∧ O1 = O) (fun y z O1 => y = .dic famK (famE g) ∧ z = pl ∧ O1 = O) (fun F0 => ?_) (fun y1 O1 w1 F0 => ?_) (fun y1 y2 O1 w1 => ?_)⟩
  · repeat walk_at "dl"
    exact ⟨famD CF g, rfl, .inr (.inr (.inl ⟨g, rfl, rfl, rfl⟩))⟩
  · obtain ⟨rfl, rfl⟩ := w1
    repeat walk_at "dl"
    exact spp ⟨rfl, rfl, rfl⟩
  · obtain ⟨rfl, rfl, rfl⟩ := w1
    repeat walk_at "dl"
    refine ⟨_, _, rfl, .inr (.inr ⟨_, _, rfl, rfl, rfl, by show 2 ≤ 1000; decide, fun i x y h1 h2 => ?_⟩), ?_⟩
    · match i, h1, h2 with
      | 0, h1, h2 =>
        cases h1; cases h2
        exact same_fam (le _ _ hf) hg
      | 1, h1, h2 =>
        cases h1; cases h2
        exact sm
    repeat walk_at "dl"
    refine q_addl (by show 4 ≤ sizeLine; decide) ?_
    exact q
theorem ok_told {M : Mo} {CB CE CF CT CL : Addr} {f : Addr} {fd : FuncData} (B : Blt M) (C3 : Cls3 M CF CT CL) (Bx : BarX M CB CE) (Td : ToldDefs M CB CF) (hm : M.mg "_law_told" = some (.ref f)) (Fn : Fun M.K "_law_told" "_law_told" (topS 59) f fd) : DefD M "_law_told" (topS 59) ["door", "ask", "by_name"] 12 (spTold CB CF) := by
  obtain ⟨hcp, hob, hca, hp, hs⟩ := id Td
  refine def_ok (N := NT) hm Fn ⟨rfl, rfl, rfl, by decide +kernel, rfl, by decide +kernel, by decide +kernel⟩ (fun _ _ _ _ _ _ us hl => match us, hl with | [_, _, _], _ => rfl) (fun ds O Q E ⟨_, _, _, _, _, _, h⟩ => by rcases h with ⟨e, _⟩ | ⟨_, _, e, _⟩ <;> (rw [e]; rfl)) fun F ds O Qd Ed ⟨b, f, g, hf, hg, hn, h⟩ => ?_
  rcases h with ⟨rfl, q⟩ | ⟨door, d, rfl, hv, h⟩
  · repeat walk_at "dl"
    refine pi_ls ?_
    repeat walk_at "dl"
    refine ⟨_, .inl rfl, lc_one (fun y O1 => y = famD CF g ∧ O1 = O) (fun F0 => ?_) (fun y1 O1 w1 => ?_)⟩
    · walk_at "dl"
      refine we_less ?_
      repeat walk_at "dl"
      refine ⟨.raw (.ref f), rfl, .inr (.inr ⟨4, f, "family", .lst (famV g), rfl, rfl, hf, fam_tpl hg, fun p hp => ?_⟩)⟩
      repeat walk_at "dl"
      exact ⟨_, rfl, .inl ⟨p, g, rfl, Opens.up_same, hg, O, OLe.up hp, rfl, rfl⟩⟩
    · obtain ⟨rfl, rfl⟩ := w1
      repeat walk_at "dl"
      refine ws_try rfl (.cons (i := 6) (asksD_name rfl Bx.bar.g) rfl rfl .nil) (fun F1 e1 => ?_)
      repeat walk_at "dl"
      refine ⟨0, b, .inl ⟨CF, g, rfl, rfl, CF, g, rfl, C3.fc, hn, ?_⟩⟩
      repeat first | ((with_reducible show WSs _ _ _ _ _); exact told_end1 (CT := CT) (CL := CL) B Td hf hg q) | walk_at "dl"
  · repeat walk_at "dl"
    refine pi_ls ?_
    repeat walk_at "dl"
    refine ⟨_, .inl rfl, lc_two (fun y O1 => y = famD CF g ∧ O1 = O) (fun y z O1 => y = famD CF g ∧ CpOf O O1 d z ∧ OLe O O1) (fun F0 => ?_) (fun y1 O1 w1 F0 => ?_) (fun y1 d' O1 w1 => ?_)⟩
    · walk_at "dl"
      refine we_less ?_
      repeat walk_at "dl"
      refine ⟨.raw (.ref f), rfl, .inr (.inr ⟨4, f, "family", .lst (famV g), rfl, rfl, hf, fam_tpl hg, fun p hp => ?_⟩)⟩
      repeat walk_at "dl"
      exact ⟨_, rfl, .inl ⟨p, g, rfl, Opens.up_same, hg, O, OLe.up hp, rfl, rfl⟩⟩
    · obtain ⟨rfl, rfl⟩ := w1
      repeat walk_at "dl"
      rcases hv with hx | ⟨xs, rfl, hl, hx⟩ | ⟨xs, rfl, hl, hx⟩ | ⟨qq, rfl, hq⟩
      · obtain ⟨t, ht, n1, n2, n3⟩ := flat_ty (O := O1) hx.1
        refine ⟨_, rfl, .inl ⟨hx.tpl, ?_⟩⟩
        repeat walk_at "dl"
        exact ⟨_, rfl, .inr (.inl ⟨t, ht, n3, rfl, .inl ⟨hx, rfl⟩, OLe.refl⟩)⟩
      · refine ⟨_, rfl, .inl ⟨.tup (n := 4) (by omega) fun x hm => (hx x hm).tpl, ?_⟩⟩
        repeat walk_at "dl"
        exact ⟨_, rfl, .inr (.inl ⟨.tuple, rfl, by decide, rfl, .inr (.inl ⟨xs, rfl, hl, hx, rfl⟩), OLe.refl⟩)⟩
      · refine ⟨_, rfl, .inr (.inl ⟨4, xs, rfl, rfl, by omega, fun x hm => (hx x hm).tpl, fun p hp => ?_⟩)⟩
        repeat walk_at "dl"
        exact ⟨_, rfl, .inr (.inl ⟨.list, lst_ty Opens.up_same, by decide, rfl, .inr (.inr (.inl ⟨xs, p, rfl, hl, hx, rfl, hp, Opens.up_same⟩)), OLe.up hp⟩)⟩
      · refine ⟨_, rfl, .inr (.inr ⟨4, qq, "a", .int 1, rfl, rfl, hq, .inl (.flat rfl), fun p hp => ?_⟩)⟩
        repeat walk_at "dl"
        exact ⟨_, rfl, .inr (.inr ⟨p, "a", .int 1, rfl, Opens.up_same, by decide, by decide, by decide, rfl, .inr (.inr (.inr ⟨qq, p, rfl, hq, rfl, hp, Opens.up_same⟩)), OLe.up hp⟩)⟩
    · obtain ⟨rfl, hc, le⟩ := w1
      obtain ⟨v1, v2⟩ := hc.val
      repeat walk_at "dl"
      refine ws_try rfl (.cons (i := 6) (asksD_name rfl Bx.bar.g) rfl rfl .nil) (fun F1 e1 => ?_)
      rcases h with ⟨rfl, q⟩ | ⟨rfl, hb, q⟩ | ⟨rfl, l, rfl, hb, q⟩
      · repeat walk_at "dl"
        refine ⟨1, b, .inr ⟨CF, g, d', rfl, .inl ⟨rfl, CF, g, d', rfl, C3.fc, hn, v1, ?_⟩⟩⟩
        rw [v2]
        repeat first | ((with_reducible show WSs _ _ _ _ _); exact told_end2 (CT := CT) (CL := CL) B Td hf hg hc le (q d' O1 hc le)) | walk_at "dl"
      · repeat walk_at "dl"
        refine ⟨2, b, .inr ⟨CF, g, d', rfl, .inr ⟨rfl, CF, g, d', rfl, C3.fc, hn, v1, .inl ⟨by rw [v2]; exact hb, ?_⟩⟩⟩⟩
        refine ⟨true, Bx.ex, fun _ F2 a da e2 rx => ?_, fun h => nomatch h⟩
        repeat walk_at "dl"
        refine we_cls rfl Bx.ev ?_
        refine isx_suite rx Bx.bar.is Bx.kk ?_
        repeat walk_at "dl"
        refine we_given rx Bx.bar.rd Bx.bar.no ?_
        repeat walk_at "dl"
        refine ⟨rfl, ?_⟩
        repeat first | ((with_reducible show WSs _ _ _ _ _); exact told_end2 (CT := CT) (CL := CL) B Td hf hg hc le (q d' O1 hc le)) | walk_at "dl"
      · have ed : d' = tupI l := by
          rcases hc with ⟨h, rfl⟩ | ⟨xs, e, _, _, rfl⟩ | ⟨xs, p, e, _⟩ | ⟨qq, p, e, _⟩
          · exact absurd h.1 Bool.false_ne_true
          · rfl
          · cases e
          · cases e
        subst ed
        repeat walk_at "dl"
        refine ⟨2, b, .inr ⟨CF, g, tupI l, rfl, .inr ⟨rfl, CF, g, tupI l, rfl, C3.fc, hn, v1, .inr ⟨l, rfl, hb, ?_⟩⟩⟩⟩
        repeat first | ((with_reducible show WSs _ _ _ _ _); exact told_end2 (CT := CT) (CL := CL) B Td hf hg hc le (q O1 le)) | walk_at "dl"
end
section
open PySem PySem.Spec PyProof.Rows L2 DL PySem.NumText
theorem V30.mono {O O' : Opens} {d : D} (h : V30 O d) (le : OLe O O') : V30 O' d := by
  rcases h with h | h | h | ⟨q, h1, h2⟩
  · exact .inl h
  · exact .inr (.inl h)
  · exact .inr (.inr (.inl h))
  · exact .inr (.inr (.inr ⟨q, h1, le _ _ h2⟩))
def spRef : SpD := fun ds O Q _ => ∃ (b : Bool) (f : Addr) (g : Fam) (d : D), ds = [.int 2, .lst [.raw (.ref f), d], .str "bar", .int 1, .bl b] ∧ O f = some (.dic famK (famE g)) ∧ Fam.Ok g ∧ SetsN g.ss ∧ V30 O d ∧ isBarD (fSets g) d = false ∧ Q (.bl true) O
structure RefDefs (M : Mo) (CB CF : Addr) : Prop where
  told : DefD M "_law_told" (topS 59) ["door", "ask", "by_name"] 12 (spTold CB CF)
  grown : DefD M "_law_grown" (topS 54) ["value"] 1 spGrown
  plain : DefD M "_law_plain" (topS 57) ["value"] 3 (spPlain CF 2)
  same : DefD M "_law_same" (topS 52) ["told", "due"] 7 (spSame 6)
abbrev moreK : List Key := [.inr "a", .inr "more"]
abbrev moreE : List D := [.int 1, .int 1]
theorem more_k : putKs aK (.inr "more") = moreK := by decide +kernel
theorem more_e : putVs aK aE (.inr "more") (.int 1) = moreE := by
  unfold putVs
  rw [if_neg (by decide +kernel)]; rfl
theorem ok_refused {M : Mo} {CB CF : Addr} {f : Addr} {fd : FuncData} (B : Blt M) (Rd : RefDefs M CB CF) (hm : M.mg "_law_refused" = some (.ref f)) (Fn : Fun M.K "_law_refused" "_law_refused" (topS 60) f fd) : DefD M "_law_refused" (topS 60) ["door", "ask", "word", "at", "by_name"] 13 spRef := by
  obtain ⟨ht, hgr, hp, hs⟩ := Rd
  refine def_ok (N := ["door", "ask", "word", "at", "by_name", "told"]) hm Fn ⟨rfl, rfl, rfl, by decide +kernel, rfl, by decide +kernel, by decide +kernel⟩ (fun _ _ _ _ _ _ us hl => match us, hl with | [_, _, _, _, _], _ => rfl) (fun ds O Q E ⟨_, _, _, _, e, _⟩ => by rw [e]; rfl) fun F ds O Qd Ed ⟨b, f, g, d, e, hf, hg, hn, hv, hb, q⟩ => ?_
  subst e
  refine wss_rt ?_
  repeat walk_at "dl"
  refine ⟨b, f, g, hf, hg, hn, .inr ⟨2, d, rfl, hv, .inr (.inl ⟨rfl, hb, fun d' O' hc le => ?_⟩)⟩⟩
  repeat walk_at "dl"
  rcases hc with ⟨hx, rfl⟩ | ⟨xs, rfl, hl, hx, rfl⟩ | ⟨xs, p, rfl, hl, hx, rfl, ho, ho'⟩ | ⟨qq, p, rfl, hq, rfl, ho, ho'⟩
  · refine ⟨_, rfl, .inl ⟨hx.1, ?_⟩⟩
    repeat walk_at "dl"
    refine ⟨_, rfl, .inl ⟨hx.tpl, ?_⟩⟩
    repeat walk_at "dl"
    refine ⟨_, rfl, .inl ⟨hx.tpl, ?_⟩⟩
    repeat walk_at "dl"
    exact ⟨_, _, rfl, SameT.plain hx.plain, O, le, q⟩
  · refine ⟨_, rfl, .inr (.inl ⟨xs, rfl, by omega, fun x hm => (hx x hm).1, ?_⟩)⟩
    repeat walk_at "dl"
    refine ⟨_, rfl, .inl ⟨.tup (by omega) fun x hm => (hx x hm).tpl, ?_⟩⟩
    repeat walk_at "dl"
    refine ⟨_, rfl, .inl ⟨.tup (by omega) fun x hm => (hx x hm).tpl, ?_⟩⟩
    repeat walk_at "dl"
    exact ⟨_, _, rfl, SameT.plain (.tup (by omega) fun x hm => (hx x hm).plain), O, le, q⟩
  · have hall : ∀ x ∈ (D.str "more" :: xs), FlatOk x := fun x h => by
      rcases List.mem_cons.mp h with rfl | h
      · exact ⟨rfl, fun z e => by cases e; exact ⟨by decide +kernel, by decide +kernel⟩⟩
      · exact hx x h
    have hlen : (D.str "more" :: xs).length ≤ 1000 := by rw [List.length_cons]; omega
    refine ⟨_, rfl, .inr (.inr (.inl ⟨p, xs, rfl, ho', by omega, fun x hm => (hx x hm).1, ?_⟩))⟩
    repeat walk_at "dl"
    refine ⟨_, rfl, .inr (.inl ⟨1, p, _, rfl, rfl, Opens.up_same, by omega, fun x hm => (hall x hm).tpl, ?_⟩)⟩
    repeat walk_at "dl"
    refine ⟨_, rfl, .inr (.inl ⟨1, p, _, rfl, rfl, Opens.up_same, by omega, fun x hm => (hall x hm).tpl, ?_⟩)⟩
    repeat walk_at "dl"
    exact ⟨_, _, rfl, SameT.plain (.lst (by omega) fun x hm => (hall x hm).plain), O, le.up2 ho, q⟩
  · refine ⟨_, rfl, .inr (.inr (.inr ⟨p, aK, aE, rfl, ho', by decide, ?_⟩))⟩
    rw [more_k, more_e]
    have hm : (O'.up p (.dic moreK moreE)) p = some (.dic moreK moreE) := Opens.up_same
    repeat walk_at "dl"
    refine ⟨_, rfl, .inr (.inr (.inr ⟨p, _, _, rfl, hm, ?_⟩))⟩
    repeat walk_at "dl"
    refine ⟨_, rfl, .inr (.inr (.inr ⟨p, _, _, rfl, hm, ?_⟩))⟩
    repeat walk_at "dl"
    refine ⟨_, _, rfl, .inr (.inl ⟨p, moreK, moreE, rfl, .inr ⟨p, rfl, hm⟩, hm, by decide +kernel, by decide, rfl, fun e he => ?_⟩), O, le.up2 ho, q⟩
    rcases List.mem_cons.mp he with rfl | he
    · exact .int
    · rw [List.mem_singleton.mp he]; exact .int
/-! ### told twice -/
def spTS : SpD := fun ds O Q _ => ∃ (b : Bool) (f : Addr) (g : Fam) (d : D) (door : Int) (due : D), ds = [.int door, .lst [.raw (.ref f), d], due, .bl b] ∧ O f = some (.dic famK (famE g)) ∧ Fam.Ok g ∧ SetsN g.ss ∧ V30 O d ∧
  ((door = 1 ∧ due = .bl (isBarD (fSets g) d)) ∨ (door = 2 ∧ ∃ l, d = tupI l ∧ isBarL (fSets g) l = true ∧ due = tupI (if joinB (fSets g) l then [1, 2] else [1, 4]))) ∧ Q (.bl true) O
theorem ok_told_same {M : Mo} {CB CF : Addr} {f : Addr} {fd : FuncData} (B : Blt M) (Rd : RefDefs M CB CF) (hm : M.mg "_law_told_same" = some (.ref f)) (Fn : Fun M.K "_law_told_same" "_law_told_same" (topS 61) f fd) : DefD M "_law_told_same" (topS 61) ["door", "ask", "due", "by_name"] 13 spTS := by
  obtain ⟨ht, hgr, hp, hs⟩ := Rd
  refine def_ok (N := ["door", "ask", "due", "by_name", "turn", "told"]) hm Fn ⟨rfl, rfl, rfl, by decide +kernel, rfl, by decide +kernel, by decide +kernel⟩ (fun _ _ _ _ _ _ us hl => match us, hl with | [_, _, _, _], _ => rfl) (fun ds O Q E ⟨_, _, _, _, _, _, e, _⟩ => by rw [e]; rfl) fun F ds O Qd Ed ⟨b, f, g, d, door, due, e, hf, hg, hn, hv, hd, q⟩ => ?_
  subst e
  refine wss_rt ?_
  repeat walk_at "dl"
  refine ws_forI rfl ?_
  repeat walk_at "dl"
  refine ⟨by decide, by decide, ?_⟩
  refine for_stateA (List.range 2) (fun i : Nat => D.int (i : Int)) (fun i ρ' O' => (∃ x4 x5, ρ' = [some (.int door), some (.lst [.raw (.ref f), d]), some due, some (.bl b), x4, x5]) ∧ OLe O O') ⟨⟨_, _, rfl⟩, OLe.refl⟩ (fun i x ρ' O' hi hx w => ?_) fun ρ' O' w => ?_
  · obtain ⟨⟨x4, x5, rfl⟩, le⟩ := w
    repeat walk_at "dl"
    refine q_eqd lay_bl lay_bl ?_
    rw [eqD_bl]
    repeat walk_at "dl"
    refine ⟨_, f, g, le _ _ hf, hg, hn, .inr ⟨door, d, rfl, hv.mono le, ?_⟩⟩
    rcases hd with ⟨rfl, rfl⟩ | ⟨rfl, l, rfl, hb, rfl⟩
    · refine .inl ⟨rfl, fun d' O2 hc le2 => ?_⟩
      repeat walk_at "dl"
      refine ⟨_, rfl, .inl ⟨.flat rfl, ?_⟩⟩
      repeat walk_at "dl"
      refine ⟨_, _, rfl, SameT.plain .bl, ?_⟩
      repeat walk_at "dl"
      refine ⟨_, rfl, .inl ⟨rfl, ?_⟩⟩
      repeat walk_at "dl"
      exact ⟨⟨_, _, rfl⟩, le.trans le2⟩
    · refine .inr (.inr ⟨rfl, l, rfl, hb, fun O2 le2 => ?_⟩)
      have e2 : ∃ m : List Int, m.length = 2 ∧ (if joinB (fSets g) l = true then [1, 2] else [1, 4]) = m := ⟨_, by split <;> rfl, rfl⟩
      obtain ⟨m, hm2, e2⟩ := e2
      rw [e2]
      have fl : ∀ x ∈ m.map D.int, FlatOk x := fun x h => by
        obtain ⟨i, _, rfl⟩ := List.mem_map.mp h
        exact ⟨rfl, fun z e => by cases e⟩
      have fl2 : (m.map D.int).length ≤ 100 := by rw [List.length_map]; omega
      repeat walk_at "dl"
      refine ⟨_, rfl, .inl ⟨.tup (by omega) fun x hm => (fl x hm).tpl, ?_⟩⟩
      repeat walk_at "dl"
      refine ⟨_, _, rfl, SameT.plain (.tup (by omega) fun x hm => (fl x hm).plain), ?_⟩
      repeat walk_at "dl"
      refine ⟨_, rfl, .inr (.inl ⟨_, rfl, by omega, fun x hm => (fl x hm).1, ?_⟩)⟩
      repeat walk_at "dl"
      exact ⟨⟨_, _, rfl⟩, le.trans le2⟩
  · obtain ⟨⟨x4, x5, rfl⟩, le⟩ := w
    repeat walk_at "dl"
    exact ⟨O, le, q⟩
end
section
open PySem PySem.Spec PyProof.Rows L2 DL PySem.NumText
/-! ### bars by the law's own judging -/
/-- a value asked, its parts flat -/
structure Val2 (O : Opens) (d : D) : Prop where
  v1 : Val1 O d
  lay : ∀ xs, d = .tup xs → ∀ x ∈ xs, Lay 60 x
theorem fil_all {O : Opens} {xs : List D} : (xs.filter fun x => !isIntO O x) = [] ↔ (xs.map (isIntO O)).all id = true := by
  induction xs with
  | nil => exact ⟨fun _ => rfl, fun _ => rfl⟩
  | cons x xs ih =>
    rw [List.filter_cons, List.map_cons, List.all_cons]
    cases h : isIntO O x with
    | true => simpa using ih
    | false => simp
theorem nil_eqv : ∀ {xs : List D}, LayS 60 xs → eqD (.lst xs) (.lst []) = xs.isEmpty
  | [], _ => rfl
  | x :: xs, h => by
    rw [eqD_lst, eqDs_cn]; rfl
def spLBar : SpD := fun ds O Q _ => ∃ (g : Fam) (d : D), ds = [lawFam g, d] ∧ SetsN g.ss ∧ Val2 O d ∧ Q (.bl (isBarD (g.ss.map (·.1)) d)) O
theorem ok_law_is_bar {M : Mo} {f : Addr} {fd : FuncData} (B : Blt M) (hm : M.mg "_law_is_bar" = some (.ref f)) (Fn : Fun M.K "_law_is_bar" "_law_is_bar" (topS 65) f fd) : DefD M "_law_is_bar" (topS 65) ["family", "value"] 1 spLBar := by
  refine def_ok (N := ["family", "value", "x", "i", "j", "a", "b", "e", "one", "other"]) hm Fn ⟨rfl, rfl, rfl, by decide +kernel, rfl, by decide +kernel, by decide +kernel⟩ (fun _ _ _ _ _ _ us hl => match us, hl with | [_, _], _ => rfl) (fun ds O Q E ⟨_, _, e, _⟩ => by rw [e]; rfl) fun F ds O Qd Ed ⟨g, d, e, hn, hv, q⟩ => ?_
  subst e
  obtain ⟨t, ht⟩ := hv.v1.ty
  have fin0 : isBarD (g.ss.map (·.1)) d = false → Qd (.bl false) O := fun e => e ▸ q
  by_cases hi' : t = .tuple
  · subst hi'
    obtain ⟨xs, rfl⟩ := ty_tup ht
    obtain ⟨hl, hx⟩ := hv.v1.tup xs rfl
    have hz : xs.length ≤ sizeLine := Nat.le_trans hl (by decide)
    repeat walk_at "dl"
    refine if2 (fun h5 => ?_) (fun h5 => ?_)
    · repeat walk_at "dl"
      refine fin0 ?_
      have h5 : xs.length ≠ 5 := fun w => by rw [w] at h5; exact absurd h5 (by decide)
      show (match intsD xs with | some l => isBarL _ l | none => false) = false
      cases hd : intsD xs with
      | none => rfl
      | some l =>
        have e := intsD_some hd
        have hl5 : l.length ≠ 5 := fun w => h5 (by rw [e, List.length_map, w])
        show isBarL (g.ss.map (·.1)) l = false
        cases hb : isBarL (g.ss.map (·.1)) l with
        | false => rfl
        | true => exact absurd (isBarL_len hb) hl5
    · have h5 : xs.length = 5 := by
        have h5 : ((xs.length : Int) == 5) = true := by
          cases w : ((xs.length : Int) == 5) with
          | true => rfl
          | false => rw [w] at h5; exact absurd h5 (by decide)
        have := eq_of_beq h5
        omega
      repeat walk_at "dl"
      refine pi_tp ?_
      repeat walk_at "dl"
      refine ⟨_, rfl, lc_filD xs (fun x => !isIntO O x) (fun x => x) hz (fun F0 x hm => ?_) ?_⟩
      · obtain ⟨tx, htx⟩ := hx x hm
        have ei : isIntO O x = decide (tx = .int) := by
          unfold isIntO
          rw [htx]
          exact decide_eq_decide.mpr ⟨fun e => Option.some.inj e, fun e => e ▸ rfl⟩
        rw [ei]
        cases tx
        all_goals
          repeat walk_at "dl"
          refine ⟨rfl, rfl, fun _ => ?_⟩
          repeat walk_at "dl"
          exact ⟨rfl, rfl⟩
      rw [List.map_id']
      repeat walk_at "dl"
      have hfl : ∀ d ∈ xs.filter (fun x => !isIntO O x), Lay 60 d := fun d hd => hv.lay xs rfl d (List.mem_filter.mp hd).1
      refine q_ned (Lay.le (lay_lst (n := 60) hfl) (by decide)) (lay_nil (n := 63)) ?_
      rw [nil_eqv (layS_of hfl)]
      cases ha : (xs.map (isIntO O)).all id with
      | false =>
        have hne : (xs.filter fun x => !isIntO O x).isEmpty = false := by
          cases w : (xs.filter fun x => !isIntO O x) with
          | nil => rw [fil_all.mp w] at ha; cases ha
          | cons _ _ => rfl
        rw [hne]
        repeat walk_at "dl"
        refine fin0 ?_
        show (match intsD xs with | some l => isBarL _ l | none => false) = false
        rw [ints_not ha]
      | true =>
        rw [fil_all.mpr ha]
        obtain ⟨l, rfl⟩ := ints_all ha
        rw [List.length_map] at h5
        obtain ⟨i, j, a, b, e, rfl⟩ := len5 h5
        repeat walk_at "dl"
        have eB : isBarD (g.ss.map (·.1)) (.tup ([i, j, a, b, e].map .int)) = isBarL (g.ss.map (·.1)) [i, j, a, b, e] := by
          show (match intsD ([i, j, a, b, e].map .int) with | some l => isBarL _ l | none => false) = _
          rw [intsD_map]
        rw [eB] at fin0 q
        have eL : isBarL (g.ss.map (·.1)) [i, j, a, b, e] = (decide (0 ≤ i) && decide (i < (g.ss.length : Int)) && (decide (0 ≤ j) && decide (j < (g.ss.length : Int))) && (decide (a ∈ (g.ss.map (·.1)).getD i.toNat []) && !decide (a ∈ (g.ss.map (·.1)).getD j.toNat []) && decide (b ∈ (g.ss.map (·.1)).getD j.toNat []) && !decide (b ∈ (g.ss.map (·.1)).getD i.toNat []) && (decide (e ∈ (g.ss.map (·.1)).getD i.toNat []) && decide (e ∈ (g.ss.map (·.1)).getD j.toNat [])))) := by
          show (decide (0 ≤ i) && decide (i < ((g.ss.map (·.1)).length : Int)) && (decide (0 ≤ j) && decide (j < ((g.ss.map (·.1)).length : Int))) && _) = _
          rw [List.length_map]
        rw [eL] at fin0 q
        refine if2 (fun h1 => ?_) (fun h1 => ?_)
        case refine_2 =>
          repeat walk_at "dl"
          exact fin0 (by rw [h1]; rfl)
        repeat walk_at "dl"
        rw [List.length_map]
        cases h2 : decide (i < (g.ss.length : Int)) with
        | false =>
          repeat walk_at "dl"
          exact fin0 (by rw [h1, h2]; rfl)
        | true =>
        repeat walk_at "dl"
        refine if2 (fun h3 => ?_) (fun h3 => ?_)
        case refine_2 =>
          repeat walk_at "dl"
          exact fin0 (by rw [h1, h2, h3]; rfl)
        repeat walk_at "dl"
        rw [List.length_map]
        cases h4 : decide (j < (g.ss.length : Int)) with
        | false =>
          repeat walk_at "dl"
          exact fin0 (by rw [h1, h2, h3, h4]; rfl)
        | true =>
        rw [h1, h2, h3, h4] at fin0 q
        simp only [Bool.true_and] at fin0 q
        obtain ⟨n, rfl⟩ := Int.eq_ofNat_of_zero_le (of_decide_eq_true h1)
        obtain ⟨m, rfl⟩ := Int.eq_ofNat_of_zero_le (of_decide_eq_true h3)
        have hn1 : n < g.ss.length := by have := of_decide_eq_true h2; omega
        have hm1 : m < g.ss.length := by have := of_decide_eq_true h4; omega
        have gd : ∀ k (hk : k < g.ss.length), (setsL g.ss)[k]? = some (setD (g.ss[k]'hk).1 (g.ss[k]'hk).2) := fun k hk => by rw [List.getElem?_map, List.getElem?_eq_getElem hk]; rfl
        have si : (g.ss.map (·.1)).getD (Int.toNat (n : Int)) [] = (g.ss[n]'hn1).1 := by rw [Int.toNat_natCast, List.getD_eq_getElem?_getD, List.getElem?_map, List.getElem?_eq_getElem hn1]; rfl
        have sj : (g.ss.map (·.1)).getD (Int.toNat (m : Int)) [] = (g.ss[m]'hm1).1 := by rw [Int.toNat_natCast, List.getD_eq_getElem?_getD, List.getElem?_map, List.getElem?_eq_getElem hm1]; rfl
        rw [si, sj] at fin0 q
        have gi := gd n hn1
        have gj := gd m hm1
        repeat walk_at "dl"
        refine q_ixl (at_nat rfl gi) ?_
        repeat walk_at "dl"
        refine q_ixl (at_nat rfl gj) ?_
        repeat walk_at "dl"
        refine q_int rfl flat_ints ?_
        rw [inD_int]
        repeat walk_at "dl"
        cases h5 : decide (a ∈ (g.ss[n]'hn1).1) with
        | false =>
          rw [h5] at fin0
          repeat walk_at "dl"
          exact fin0 (by simp)
        | true =>
        rw [h5] at fin0 q
        repeat walk_at "dl"
        refine q_nint rfl flat_ints ?_
        rw [inD_int]
        repeat walk_at "dl"
        cases h6 : decide (a ∈ (g.ss[m]'hm1).1) with
        | true =>
          rw [h6] at fin0
          repeat walk_at "dl"
          exact fin0 (by simp)
        | false =>
        rw [h6] at fin0 q
        repeat walk_at "dl"
        refine q_int rfl flat_ints ?_
        rw [inD_int]
        repeat walk_at "dl"
        cases h7 : decide (b ∈ (g.ss[m]'hm1).1) with
        | false =>
          rw [h7] at fin0
          repeat walk_at "dl"
          exact fin0 (by simp)
        | true =>
        rw [h7] at fin0 q
        repeat walk_at "dl"
        refine q_nint rfl flat_ints ?_
        rw [inD_int]
        repeat walk_at "dl"
        cases h8 : decide (b ∈ (g.ss[n]'hn1).1) with
        | true =>
          rw [h8] at fin0
          repeat walk_at "dl"
          exact fin0 (by simp)
        | false =>
        rw [h8] at fin0 q
        repeat walk_at "dl"
        refine q_int rfl flat_ints ?_
        rw [inD_int]
        repeat walk_at "dl"
        cases h9 : decide (e ∈ (g.ss[n]'hn1).1) with
        | false =>
          rw [h9] at fin0
          repeat walk_at "dl"
          exact fin0 (by simp)
        | true =>
        rw [h9] at fin0 q
        repeat walk_at "dl"
        refine q_int rfl flat_ints ?_
        rw [inD_int]
        repeat walk_at "dl"
        simpa using q
  · have e : isBarD (g.ss.map (·.1)) d = false := by
      cases d with
      | tup xs => exact absurd (Option.some.inj (show some Ty.tuple = some t from ht)).symm hi'
      | _ => rfl
    repeat walk_at "dl"
    refine ift (by cases t <;> first | rfl | exact absurd rfl hi') ?_
    repeat walk_at "dl"
    exact fin0 e
end
section
open PySem PySem.Spec PyProof.Rows L2 DL PySem.NumText
local macro_rules | `(tactic| walk_at "dlE") => `(tactic| first
  | ((with_reducible show We _ (Expr.List [] _) _ _ _); refine we_lstO ?_)
  | ((with_reducible show We _ (Expr.Call (Expr.Attribute (Expr.Name _ _) "extend" _) [_] [] _) _ _ _); refine we_extend ?_))
local macro_rules | `(tactic| walk_at "dlS") => `(tactic| ((with_reducible show WS _ (Stmt.Return (some (Expr.Name "found" _)) _) _ _ _); refine ws_ret ?_; refine we_shut ?_))
/-! ### all bars -/
def barsA (i j : Nat) (one other : List Int) (a b : Int) : List (List Int) := (one.filter fun e => decide (e ∈ other)).map fun e => [(i : Int), (j : Int), a, b, e]
def barsB (i j : Nat) (one other : List Int) (a : Int) : List (List Int) := (other.filter fun x => !decide (x ∈ one)).flatMap fun b => barsA i j one other a b
def barsC (i j : Nat) (one other : List Int) : List (List Int) := (one.filter fun x => !decide (x ∈ other)).flatMap fun a => barsB i j one other a
def barsJ (ss : List (List Int)) (i : Nat) : List (List Int) := (List.range ss.length).flatMap fun j => barsC i j (ss.getD i []) (ss.getD j [])
def barsL (ss : List (List Int)) : List (List Int) := (List.range ss.length).flatMap fun i => barsJ ss i
theorem flat_len {α β : Type} {f : α → List β} {c : Nat} : ∀ {xs : List α}, (∀ x ∈ xs, (f x).length ≤ c) → (xs.flatMap f).length ≤ xs.length * c
  | [], _ => Nat.zero_le _
  | x :: xs, h => by
    rw [List.flatMap_cons, List.length_append, List.length_cons, Nat.succ_mul, Nat.add_comm]
    exact Nat.add_le_add (flat_len fun y hy => h y (List.mem_cons_of_mem _ hy)) (h x List.mem_cons_self)
theorem flat_take {α β : Type} {f : α → List β} {xs : List α} {i : Nat} {x : α} (h : xs[i]? = some x) : (xs.take (i + 1)).flatMap f = (xs.take i).flatMap f ++ f x := by
  rw [List.take_add_one, h, List.flatMap_append]
  simp
theorem lenA {i j : Nat} {one other : List Int} {a b : Int} (h : one.length ≤ 8) : (barsA i j one other a b).length ≤ 8 := by
  unfold barsA
  rw [List.length_map]
  exact Nat.le_trans (List.length_filter_le _ _) h
theorem lenB {i j : Nat} {one other : List Int} {a : Int} (h : one.length ≤ 8) (h2 : other.length ≤ 8) : (barsB i j one other a).length ≤ 64 := by
  have := flat_len (f := fun b => barsA i j one other a b) (c := 8) (xs := other.filter fun x => !decide (x ∈ one)) fun x _ => lenA h
  have h3 := List.length_filter_le (fun x => !decide (x ∈ one)) other
  unfold barsB
  omega
theorem lenC {i j : Nat} {one other : List Int} (h : one.length ≤ 8) (h2 : other.length ≤ 8) : (barsC i j one other).length ≤ 512 := by
  have := flat_len (f := fun a => barsB i j one other a) (c := 64) (xs := one.filter fun x => !decide (x ∈ other)) fun x _ => lenB h h2
  have h3 := List.length_filter_le (fun x => !decide (x ∈ other)) one
  unfold barsC
  omega
/-- few sets, small ones -/
structure SetsS (ss : List (List Int × Int)) : Prop where
  len : ss.length ≤ 12
  sz : ∀ s ∈ ss, s.1.length ≤ 8
theorem SetsS.get {ss : List (List Int × Int)} (h : SetsS ss) (i : Nat) : ((ss.map (·.1)).getD i []).length ≤ 8 := by
  rw [List.getD_eq_getElem?_getD, List.getElem?_map]
  cases w : ss[i]? with
  | none => exact Nat.zero_le _
  | some s => exact h.sz s (List.mem_of_getElem? w)
theorem lenJ {ss : List (List Int × Int)} (h : SetsS ss) (i : Nat) : (barsJ (ss.map (·.1)) i).length ≤ 6144 := by
  have := flat_len (f := fun j => barsC i j ((ss.map (·.1)).getD i []) ((ss.map (·.1)).getD j [])) (c := 512) (xs := List.range (ss.map (·.1)).length) fun j _ => lenC (h.get i) (h.get j)
  have h2 := h.len
  rw [List.length_range, List.length_map] at this
  unfold barsJ
  rw [List.length_map] at *
  omega
theorem lenL {ss : List (List Int × Int)} (h : SetsS ss) : (barsL (ss.map (·.1))).length ≤ 73728 := by
  have := flat_len (f := fun i => barsJ (ss.map (·.1)) i) (c := 6144) (xs := List.range (ss.map (·.1)).length) fun j _ => lenJ h j
  have h2 := h.len
  rw [List.length_range, List.length_map] at this
  unfold barsL
  rw [List.length_map] at *
  omega
def spBars : SpD := fun ds O Q _ => ∃ g : Fam, ds = [lawFam g] ∧ SetsS g.ss ∧ Q (.lst ((barsL (fSets g)).map tupI)) O
abbrev NB : List Str := ["family", "found", "i", "j", "one", "other", "a", "x", "b", "e"]
theorem set_at {g : Fam} {i : Nat} (h : i < g.ss.length) : ∃ hh : Int, (setsL g.ss)[i]? = some (setD ((fSets g).getD i []) hh) := by
  refine ⟨(g.ss[i]'h).2, ?_⟩
  rw [List.getElem?_map, List.getElem?_eq_getElem h, List.getD_eq_getElem?_getD, List.getElem?_map, List.getElem?_eq_getElem h]; rfl
theorem ok_bars {M : Mo} {f : Addr} {fd : FuncData} (B : Blt M) (hm : M.mg "_law_bars" = some (.ref f)) (Fn : Fun M.K "_law_bars" "_law_bars" (topS 66) f fd) : DefD M "_law_bars" (topS 66) ["family"] 1 spBars := by
  refine def_ok (N := NB) hm Fn ⟨rfl, rfl, rfl, by decide +kernel, rfl, by decide +kernel, by decide +kernel⟩ (fun _ _ _ _ _ _ us hl => match us, hl with | [_], _ => rfl) (fun ds O Q E ⟨_, e, _⟩ => by rw [e]; rfl) fun F ds O Qd Ed ⟨g, e, hS, q⟩ => ?_
  subst e
  have hsz : sizeLine = 16777216 := rfl
  have hlen := hS.len
  repeat walk_at "dl"
  refine fun p hp => ?_
  repeat walk_at "dl"
  refine ws_forI rfl ?_
  repeat walk_at "dl"
  refine ⟨by omega, by rw [List.length_map]; omega, ?_⟩
  have eN : (((setsL g.ss).length : Nat) : Int).toNat = (fSets g).length := by rw [List.length_map, List.length_map, Int.toNat_natCast]
  rw [eN]
  have hN : (fSets g).length ≤ 12 := by rw [List.length_map]; exact hlen
  refine for_stateA (List.range (fSets g).length) (fun i : Nat => D.int (i : Int)) (fun i ρ' O' => (∃ x2 x3 x4 x5 x6 x7 x8 x9, ρ' = [some (lawFam g), some (.raw (.ref p)), x2, x3, x4, x5, x6, x7, x8, x9]) ∧ O' = O.up p (.lst ((((List.range (fSets g).length).take i).flatMap fun i => barsJ (fSets g) i).map tupI))) ⟨⟨_, _, _, _, _, _, _, _, rfl⟩, rfl⟩ (fun i x ρ' O' hi hx w => ?_) fun ρ' O' w => ?_
  · obtain ⟨⟨x2, x3, x4, x5, x6, x7, x8, x9, rfl⟩, rfl⟩ := w
    have hxm := List.mem_range.mp (List.mem_of_getElem? hx)
    rw [flat_take hx]
    have l1 : (((List.range (fSets g).length).take i).flatMap fun i => barsJ (fSets g) i).length ≤ 73728 := by
      have := flat_len (f := fun i => barsJ (fSets g) i) (c := 6144) (xs := (List.range (fSets g).length).take i) fun j _ => lenJ hS j
      rw [List.length_take, List.length_range] at this
      have : min i (fSets g).length ≤ 12 := by omega
      omega
    generalize (((List.range (fSets g).length).take i).flatMap fun i => barsJ (fSets g) i) = A1 at *
    obtain ⟨h1, g1⟩ := set_at (g := g) (i := x) (by rw [List.length_map] at hxm; exact hxm)
    repeat walk_at "dl"
    refine ws_forI rfl ?_
    repeat walk_at "dl"
    refine ⟨by omega, by rw [List.length_map]; omega, ?_⟩
    rw [eN]
    refine for_stateA (List.range (fSets g).length) (fun i : Nat => D.int (i : Int)) (fun j ρ' O' => (∃ x3 x4 x5 x6 x7 x8 x9, ρ' = [some (lawFam g), some (.raw (.ref p)), some (.int (x : Int)), x3, x4, x5, x6, x7, x8, x9]) ∧ O' = O.up p (.lst ((A1 ++ ((List.range (fSets g).length).take j).flatMap fun j => barsC x j ((fSets g).getD x []) ((fSets g).getD j [])).map tupI))) ⟨⟨_, _, _, _, _, _, _, rfl⟩, by simp⟩ (fun j y ρ' O' hj hy w => ?_) fun ρ' O' w => ?_
    · obtain ⟨⟨x3, x4, x5, x6, x7, x8, x9, rfl⟩, rfl⟩ := w
      have hym := List.mem_range.mp (List.mem_of_getElem? hy)
      obtain ⟨h2, g2⟩ := set_at (g := g) (i := y) (by rw [List.length_map] at hym; exact hym)
      rw [flat_take hy]
      have s1 := hS.get x
      have s2 := hS.get y
      have l2 : (((List.range (fSets g).length).take j).flatMap fun j => barsC x j ((fSets g).getD x []) ((fSets g).getD j [])).length ≤ 6144 := by
        have := flat_len (f := fun j => barsC x j ((fSets g).getD x []) ((fSets g).getD j [])) (c := 512) (xs := (List.range (fSets g).length).take j) fun j _ => lenC (hS.get x) (hS.get j)
        rw [List.length_take, List.length_range] at this
        have : min j (fSets g).length ≤ 12 := by omega
        omega
      generalize (((List.range (fSets g).length).take j).flatMap fun j => barsC x j ((fSets g).getD x []) ((fSets g).getD j [])) = A2 at *
      have e1 : (g.ss.map (·.1)).getD x [] = (fSets g).getD x [] := rfl
      have e2 : (g.ss.map (·.1)).getD y [] = (fSets g).getD y [] := rfl
      generalize (fSets g).getD x [] = one at *
      generalize (fSets g).getD y [] = other at *
      have z1 : one.length ≤ sizeLine := by omega
      have z2 : other.length ≤ sizeLine := by omega
      repeat walk_at "dl"
      refine ws_asg ?qa ?hsa ?hwa
      case hsa => (intro env he; obtain ⟨⟩ := env; cases he; kernel_rfl)
      case hwa => (intro env he; obtain ⟨⟩ := env; cases he; kernel_rfl)
      repeat walk_at "dl"
      refine q_ixl (at_nat rfl g1) ?_
      repeat walk_at "dl"
      refine q_ixl (at_nat rfl g2) ?_
      repeat walk_at "dl"
      refine ws_forI rfl ?_
      refine pi_ls ?_
      repeat walk_at "dl"
      refine pi_tp ?_
      repeat walk_at "dl"
      refine ⟨_, rfl, lc_filA one D.int (fun x => !decide (x ∈ other)) D.int z1 (fun F0 c hc => ?_) ?_⟩
      · repeat walk_at "dl"
        refine q_nint rfl flat_ints ?_
        rw [inD_int]
        repeat walk_at "dl"
        refine ⟨rfl, rfl, fun _ => ?_⟩
        repeat walk_at "dl"
        exact ⟨rfl, rfl⟩
      refine q_lcf ?_
      have l3 : (one.filter fun x => !decide (x ∈ other)).length ≤ 8 := Nat.le_trans (List.length_filter_le _ _) s1
      refine ⟨_, .inl rfl, for_stateA (one.filter fun x => !decide (x ∈ other)) D.int (fun k ρ' O' => (∃ x6 x7 x8 x9, ρ' = [some (lawFam g), some (.raw (.ref p)), some (.int (x : Int)), some (.int (y : Int)), some (tupI one), some (tupI other), x6, x7, x8, x9]) ∧ O' = O.up p (.lst ((A1 ++ A2 ++ ((one.filter fun x => !decide (x ∈ other)).take k).flatMap fun a => barsB x y one other a).map tupI))) ⟨⟨_, _, _, _, rfl⟩, by simp⟩ (fun k a ρ' O' hk ha w => ?_) fun ρ' O' w => ?_⟩
      · obtain ⟨⟨x6, x7, x8, x9, rfl⟩, rfl⟩ := w
        rw [flat_take ha]
        have l4 : (((one.filter fun x => !decide (x ∈ other)).take k).flatMap fun a => barsB x y one other a).length ≤ 512 := by
          have := flat_len (f := fun a => barsB x y one other a) (c := 64) (xs := (one.filter fun x => !decide (x ∈ other)).take k) fun j _ => lenB s1 s2
          rw [List.length_take] at this
          have : min k (one.filter fun x => !decide (x ∈ other)).length ≤ 8 := by omega
          omega
        generalize (((one.filter fun x => !decide (x ∈ other)).take k).flatMap fun a => barsB x y one other a) = A3 at *
        repeat walk_at "dl"
        refine ws_forI rfl ?_
        refine pi_ls ?_
        repeat walk_at "dl"
        refine pi_tp ?_
        repeat walk_at "dl"
        refine ⟨_, rfl, lc_filA other D.int (fun x => !decide (x ∈ one)) D.int z2 (fun F0 c hc => ?_) ?_⟩
        · repeat walk_at "dl"
          refine q_nint rfl flat_ints ?_
          rw [inD_int]
          repeat walk_at "dl"
          refine ⟨rfl, rfl, fun _ => ?_⟩
          repeat walk_at "dl"
          exact ⟨rfl, rfl⟩
        refine q_lcf ?_
        have l5 : (other.filter fun x => !decide (x ∈ one)).length ≤ 8 := Nat.le_trans (List.length_filter_le _ _) s2
        refine ⟨_, .inl rfl, for_stateA (other.filter fun x => !decide (x ∈ one)) D.int (fun k ρ' O' => (∃ x7 x8 x9, ρ' = [some (lawFam g), some (.raw (.ref p)), some (.int (x : Int)), some (.int (y : Int)), some (tupI one), some (tupI other), some (.int a), x7, x8, x9]) ∧ O' = O.up p (.lst ((A1 ++ A2 ++ A3 ++ ((other.filter fun x => !decide (x ∈ one)).take k).flatMap fun b => barsA x y one other a b).map tupI))) ⟨⟨_, _, _, rfl⟩, by simp⟩ (fun k b ρ' O' hk hb w => ?_) fun ρ' O' w => ?_⟩
        · obtain ⟨⟨x7, x8, x9, rfl⟩, rfl⟩ := w
          rw [flat_take hb]
          have l6 : (((other.filter fun x => !decide (x ∈ one)).take k).flatMap fun b => barsA x y one other a b).length ≤ 64 := by
            have := flat_len (f := fun b => barsA x y one other a b) (c := 8) (xs := (other.filter fun x => !decide (x ∈ one)).take k) fun j _ => lenA s1
            rw [List.length_take] at this
            have : min k (other.filter fun x => !decide (x ∈ one)).length ≤ 8 := by omega
            omega
          generalize (((other.filter fun x => !decide (x ∈ one)).take k).flatMap fun b => barsA x y one other a b) = A4 at *
          repeat walk_at "dl"
          refine ⟨p, _, rfl, Opens.up_same, ?_⟩
          repeat walk_at "dl"
          refine pi_tp ?_
          repeat walk_at "dl"
          refine ⟨_, rfl, lc_filA one D.int (fun e => decide (e ∈ other)) (fun e => tupI [(x : Int), (y : Int), a, b, e]) z1 (fun F0 c hc => ?_) ?_⟩
          · repeat walk_at "dl"
            refine q_int rfl flat_ints ?_
            rw [inD_int]
            repeat walk_at "dl"
            refine ⟨rfl, rfl, fun _ => ?_⟩
            repeat walk_at "dl"
            exact ⟨rfl, rfl⟩
          refine q_lcf ?_
          have l7 : (one.filter fun e => decide (e ∈ other)).length ≤ 8 := Nat.le_trans (List.length_filter_le _ _) s1
          refine ⟨_, _, Opens.up_same, rfl, by rw [List.length_map, List.length_map, List.length_append, List.length_append, List.length_append]; omega, ?_⟩
          rw [Opens.up_up]
          refine wss_nil ?_
          refine ⟨⟨_, _, _, rfl⟩, ?_⟩
          unfold barsA
          simp only [List.map_append, List.map_map, List.append_assoc]
          rfl
        · obtain ⟨⟨x7, x8, x9, rfl⟩, rfl⟩ := w
          refine wss_nil ?_
          refine ⟨⟨_, _, _, _, rfl⟩, ?_⟩
          rw [List.take_of_length_le (Nat.le_refl _), List.append_assoc (A1 ++ A2)]; rfl
      · obtain ⟨⟨x6, x7, x8, x9, rfl⟩, rfl⟩ := w
        refine wss_nil ?_
        refine ⟨⟨_, _, _, _, _, _, _, rfl⟩, ?_⟩
        rw [List.take_of_length_le (Nat.le_refl _), List.append_assoc A1]; rfl
    · obtain ⟨⟨x3, x4, x5, x6, x7, x8, x9, rfl⟩, rfl⟩ := w
      refine wss_nil ?_
      refine ⟨⟨_, _, _, _, _, _, _, _, rfl⟩, ?_⟩
      rw [List.length_range, List.take_of_length_le (by rw [List.length_range]; exact Nat.le_refl _)]; rfl
  · obtain ⟨⟨x2, x3, x4, x5, x6, x7, x8, x9, rfl⟩, rfl⟩ := w
    repeat walk_at "dl"
    refine ⟨p, _, rfl, Opens.up_same, ?_⟩
    rw [Opens.drop_up hp, List.length_range, List.take_of_length_le (by rw [List.length_range]; exact Nat.le_refl _)]
    exact q
end
section
open PySem PySem.Spec PyProof.Rows L2 DL PySem.NumText
local macro_rules | `(tactic| walk_at "dlCall") => `(tactic| ((with_reducible show We _ (Expr.Call (Expr.Name "list" _) [Expr.Call (Expr.Name "range" _) _ _ _] [] _) _ _ _); refine we_listRg (by assumption) rfl rfl rfl ?_))
theorem q_mini {i j : Int} {O : Opens} {Q : DK} (h : Q (.int (if j < i then j else i)) O) : MinQ [.int i, .int j] O Q := h
/-! ### the least lack -/
def spLLack : SpD := fun ds O Q _ => ∃ (g : Fam) (l : List Int), ds = [lawFam g, tupI l] ∧ SetsN g.ss ∧ isBarL (fSets g) l = true ∧ Q (tupI (if joinB (fSets g) l then [1, 2] else [1, 4])) O
abbrev NLk : List Str := ["family", "bar", "members", "height", "joined", "best", "x", "cases", "left", "lack", "weight", "sets", "come"]
theorem ok_lack {M : Mo} {f : Addr} {fd : FuncData} (B : Blt M) (h_low : DefD M "_law_low" (topS 63) ["top", "base"] 1 spLow) (hm : M.mg "_law_lack" = some (.ref f)) (Fn : Fun M.K "_law_lack" "_law_lack" (topS 67) f fd) : DefD M "_law_lack" (topS 67) ["family", "bar"] 2 spLLack := by
  refine def_ok (N := NLk) hm Fn ⟨rfl, rfl, rfl, by decide +kernel, rfl, by decide +kernel, by decide +kernel⟩ (fun _ _ _ _ _ _ us hl => match us, hl with | [_, _], _ => rfl) (fun ds O Q E ⟨_, _, e, _⟩ => by rw [e]; rfl) fun F ds O Qd Ed ⟨g, l, e, hn, hb, q⟩ => ?_
  subst e
  have hz : g.ss.length ≤ sizeLine := Nat.le_trans hn.len (by decide)
  obtain ⟨i_, j, a, b, e, rfl⟩ := len5 (isBarL_len hb)
  repeat walk_at "dl"
  refine pi_ls ?_
  repeat walk_at "dl"
  refine ⟨_, .inl rfl, lc_filA g.ss (fun s => setD s.1 s.2) (fun s => decide (a ∈ s.1) && decide (b ∈ s.1)) (fun s => tupI s.1) hz (fun F0 x hm => ?_) ?_⟩
  · repeat walk_at "dl"
    refine q_int rfl flat_ints ?_
    rw [inD_int]
    repeat walk_at "dl"
    cases h1 : decide (a ∈ x.1) with
    | false =>
      repeat walk_at "dl"
      refine ⟨rfl, rfl, fun _ => ?_⟩
      repeat walk_at "dl"
      exact ⟨rfl, rfl⟩
    | true =>
      repeat walk_at "dl"
      refine q_int rfl flat_ints ?_
      rw [inD_int]
      repeat walk_at "dl"
      refine ⟨rfl, rfl, fun _ => ?_⟩
      repeat walk_at "dl"
      exact ⟨rfl, rfl⟩
  refine q_lcf ?_
  repeat walk_at "dl"
  have hfl : ∀ d ∈ (g.ss.filter fun s => decide (a ∈ s.1) && decide (b ∈ s.1)).map (fun s => tupI s.1), Lay 60 d := fun d hd => by
    obtain ⟨s, _, rfl⟩ := List.mem_map.mp hd
    exact Lay.le (lay_tup (n := 0) lays_ints) (by decide)
  refine q_ned (Lay.le (lay_lst (n := 60) hfl) (by decide)) (lay_nil (n := 63)) ?_
  have ej : (!eqD (.lst ((g.ss.filter fun s => decide (a ∈ s.1) && decide (b ∈ s.1)).map fun s => tupI s.1)) (.lst [])) = joinB (fSets g) [i_, j, a, b, e] := by
    have h1 : eqD (.lst ((g.ss.filter fun s => decide (a ∈ s.1) && decide (b ∈ s.1)).map fun s => tupI s.1)) (.lst []) = ((g.ss.filter fun s => decide (a ∈ s.1) && decide (b ∈ s.1)).map fun s => tupI s.1).isEmpty := by
      cases w : (g.ss.filter fun s => decide (a ∈ s.1) && decide (b ∈ s.1)).map fun s => tupI s.1 with
      | nil => rfl
      | cons x xs => rw [eqD_lst, eqDs_cn]; rfl
    rw [h1]
    show _ = (g.ss.map (·.1)).any fun m => decide (a ∈ m) && decide (b ∈ m)
    rw [List.any_map]
    cases w : (g.ss.any ((fun m => decide (a ∈ m) && decide (b ∈ m)) ∘ (·.1))) with
    | true =>
      obtain ⟨s, hs, hp⟩ := List.any_eq_true.mp w
      have : s ∈ g.ss.filter fun s => decide (a ∈ s.1) && decide (b ∈ s.1) := List.mem_filter.mpr ⟨hs, hp⟩
      cases v : g.ss.filter fun s => decide (a ∈ s.1) && decide (b ∈ s.1) with
      | nil => rw [v] at this; cases this
      | cons _ _ => rfl
    | false =>
      have : (g.ss.filter fun s => decide (a ∈ s.1) && decide (b ∈ s.1)) = [] := List.filter_eq_nil_iff.mpr fun s hs hp => by
        have : (g.ss.any ((fun m => decide (a ∈ m) && decide (b ∈ m)) ∘ (·.1))) = true := List.any_eq_true.mpr ⟨s, hs, hp⟩
        rw [w] at this; cases this
      rw [this]; rfl
  rw [ej]
  repeat walk_at "dl"
  obtain ⟨jb, hjb⟩ : ∃ jb, jb = joinB (fSets g) [i_, j, a, b, e] := ⟨_, rfl⟩
  rw [← hjb] at q ⊢
  obtain ⟨xs, hxs⟩ : ∃ xs : List Nat, xs = if jb = true then List.range 21 else [10] := ⟨_, rfl⟩
  obtain ⟨r, hr⟩ : ∃ r : Int, r = if jb = true then 20 else 10 := ⟨_, rfl⟩
  have hx20 : ∀ x ∈ xs, x ≤ 20 ∧ (if jb = true then (x : Int) else 0) + 20 - x = r := fun x h => by
    rw [hxs] at h
    rw [hr]
    cases jb with
    | true =>
      rw [if_pos rfl] at h
      have := List.mem_range.mp h
      rw [if_pos rfl, if_pos rfl]; omega
    | false =>
      rw [if_neg (by decide)] at h
      rw [List.mem_singleton.mp h]; decide
  have hne : 0 < xs.length := by rw [hxs]; split <;> decide
  refine ws_forI rfl ?_
  refine pi_ls ?_
  repeat walk_at "dl"
  refine we_both (.lst (xs.map fun i : Nat => D.int (i : Int))) (fun hc => ?_) (fun hc => ?_) ?_
  · repeat walk_at "dl"
    exact ⟨21, rfl, by decide, by rw [hxs, hc, if_pos rfl], rfl⟩
  · repeat walk_at "dl"
    exact ⟨by rw [hxs, hc]; rfl, rfl⟩
  refine ⟨_, .inl rfl, for_stateA xs (fun i : Nat => D.int (i : Int)) (fun i ρ' O' => (∃ x2 x3 x6 x7 x8 x9 x10 x11 x12, ρ' = [some (lawFam g), some (tupI [i_, j, a, b, e]), x2, x3, some (.bl jb), some (if i = 0 then .non else .int r), x6, x7, x8, x9, x10, x11, x12]) ∧ O = O') ⟨⟨_, _, _, _, _, _, _, _, _, rfl⟩, rfl⟩ (fun i x ρ' O' hi hx w => ?_) fun ρ' O' w => ?_⟩
  · obtain ⟨⟨x2, x3, x6, x7, x8, x9, x10, x11, x12, rfl⟩, rfl⟩ := w
    obtain ⟨h20, hL⟩ := hx20 x (List.mem_of_getElem? hx)
    obtain ⟨L, eL⟩ : ∃ L : Int, L = if jb = true then (x : Int) else 0 := ⟨_, rfl⟩
    rw [← eL] at hL
    have L0 : 0 ≤ L ∧ L ≤ 20 := by rw [eL]; split <;> omega
    repeat walk_at "dl"
    refine we_both (.int L) (fun hc => ?_) (fun hc => ?_) ?_
    · repeat walk_at "dl"
      exact ⟨by rw [eL, hc, if_pos rfl], rfl⟩
    · repeat walk_at "dl"
      exact ⟨by rw [eL, hc, if_neg (by decide)], rfl⟩
    repeat walk_at "dl"
    refine ws_forI rfl ?_
    refine pi_ls ?_
    repeat walk_at "dl"
    refine ⟨_, .inl rfl, for_stateD _ (fun k ρ' O' => (∃ x10 x11 x12, ρ' = [some (lawFam g), some (tupI [i_, j, a, b, e]), x2, x3, some (.bl jb), some (if i = 0 then .non else .int r), some (.int (x : Int)), some (.lst [.tup [.int (x : Int), .int 0], .tup [.int (20 - (x : Int)), .int 1], .tup [.int (20 - (x : Int)), .int 1], .tup [.int (x : Int), .int 2]]), some (.int (if k = 0 then 20 else if k = 1 then 20 - (x : Int) else 0)), some (.int (if k ≤ 2 then L else L + 20 - x)), x10, x11, x12]) ∧ O = O') ⟨⟨_, _, _, rfl⟩, rfl⟩ (fun k y ρ' O' hk hy w => ?_) fun ρ' O' w => ?_⟩
    · obtain ⟨⟨x10, x11, x12, rfl⟩, rfl⟩ := w
      obtain ⟨wt, st, rfl, hw, hs, hs0, hw0, hl0, hl1⟩ : ∃ wt st : Int, y = .tup [.int wt, .int st] ∧ (if (if k = 0 then 20 else if k = 1 then 20 - (x : Int) else 0) > wt then wt else (if k = 0 then 20 else if k = 1 then 20 - (x : Int) else 0)) = (if k = 0 then 20 else if k = 1 then 20 - (x : Int) else 0) - (if k + 1 = 0 then 20 else if k + 1 = 1 then 20 - (x : Int) else 0) ∧ (if k ≤ 2 then L else L + 20 - x) + st * (wt - ((if k = 0 then 20 else if k = 1 then 20 - (x : Int) else 0) - (if k + 1 = 0 then 20 else if k + 1 = 1 then 20 - (x : Int) else 0))) = (if k + 1 ≤ 2 then L else L + 20 - x) ∧ (0 ≤ st ∧ st ≤ 2) ∧ (0 ≤ wt ∧ wt ≤ 20) ∧ (0 ≤ (if k = 0 then 20 else if k = 1 then 20 - (x : Int) else 0) ∧ (if k = 0 then 20 else if k = 1 then 20 - (x : Int) else 0) ≤ 20) ∧ (0 ≤ (if k + 1 = 0 then 20 else if k + 1 = 1 then 20 - (x : Int) else 0) ∧ (if k + 1 = 0 then 20 else if k + 1 = 1 then 20 - (x : Int) else 0) ≤ 20) := by
        have hk : k < 4 := hk
        rcases (show k = 0 ∨ k = 1 ∨ k = 2 ∨ k = 3 by omega) with rfl | rfl | rfl | rfl
        all_goals
          cases hy
          refine ⟨_, _, rfl, ?_, ?_, by decide, by omega, ?_, ?_⟩
          all_goals
            simp
            try omega
      generalize (if k = 0 then (20 : Int) else if k = 1 then 20 - (x : Int) else 0) = lf at *
      generalize (if k + 1 = 0 then (20 : Int) else if k + 1 = 1 then 20 - (x : Int) else 0) = lf1 at *
      generalize (if k ≤ 2 then L else L + 20 - (x : Int)) = lc at *
      generalize (if k + 1 ≤ 2 then L else L + 20 - (x : Int)) = lc1 at *
      repeat walk_at "dl"
      refine q_mini ?_
      rw [hw]
      repeat walk_at "dl"
      refine q_muli (wide_mul (a := 64) (b := 64) (by omega) (by omega) (by decide) (by decide) (by decide)) ?_
      repeat walk_at "dl"
      rw [hs, show lf - (lf - lf1) = lf1 by omega]
      exact ⟨⟨_, _, _, rfl⟩, rfl⟩
    · obtain ⟨⟨x10, x11, x12, e4⟩, rfl⟩ := w
      have e4 : ρ' = [some (lawFam g), some (tupI [i_, j, a, b, e]), x2, x3, some (.bl jb), some (if i = 0 then .non else .int r), some (.int (x : Int)), some (.lst [.tup [.int (x : Int), .int 0], .tup [.int (20 - (x : Int)), .int 1], .tup [.int (20 - (x : Int)), .int 1], .tup [.int (x : Int), .int 2]]), some (.int 0), some (.int (L + 20 - x)), x10, x11, x12] := e4
      subst e4
      rw [hL]
      have en : (if i + 1 = 0 then D.non else .int r) = .int r := if_neg (by omega)
      rw [en]
      by_cases hi0 : i = 0
      · rw [if_pos hi0]
        repeat walk_at "dl"
        refine q_isn (fun v e => nomatch e) ?_
        repeat walk_at "dl"
        exact ⟨⟨_, _, _, _, _, _, _, _, _, rfl⟩, rfl⟩
      · rw [if_neg hi0]
        repeat walk_at "dl"
        refine q_isn (fun v e => nomatch e) ?_
        repeat walk_at "dl"
        refine iff_ (decide_eq_false (Int.lt_irrefl r)) ?_
        repeat walk_at "dl"
        exact ⟨⟨_, _, _, _, _, _, _, _, _, rfl⟩, rfl⟩
  · obtain ⟨⟨x2, x3, x6, x7, x8, x9, x10, x11, x12, rfl⟩, rfl⟩ := w
    rw [if_neg (by omega)]
    repeat walk_at "dl"
    refine ⟨r, rfl, ?_⟩
    rw [hr]
    cases jb with
    | true => exact .inl ⟨rfl, q⟩
    | false => exact .inr ⟨rfl, q⟩
end
/-! K30U: families of the law: plain facts. -/
section
open PySem PySem.Spec PyProof.Rows L2 DL PySem.NumText
theorem asc_of_pw {l : List Int} (h : l.Pairwise (· < ·)) : ascI l = true := by
  unfold ascI
  refine List.all_eq_true.mpr fun i hi => decide_eq_true ?_
  have hi := List.mem_range.mp hi
  have h1 : i < l.length := by omega
  have h2 : i + 1 < l.length := by omega
  rw [List.getD_eq_getElem?_getD, List.getD_eq_getElem?_getD, List.getElem?_eq_getElem h1, List.getElem?_eq_getElem h2]
  exact List.pairwise_iff_getElem.mp h i (i + 1) h1 h2 (Nat.lt_succ_self i)
theorem pw_nodup {l : List Int} (h : l.Pairwise (· < ·)) : l.Nodup := h.imp fun {a b} h => Int.ne_of_lt h
theorem pw_lt {l : List Int} (h : l.Pairwise (· ≤ ·)) (n : l.Nodup) : l.Pairwise (· < ·) := (h.and n).imp fun {a b} ⟨h1, h2⟩ => by
  have : a ≠ b := h2
  omega
/-- events of the law -/
structure EvOk (ev : List Int) : Prop where
  pw : ev.Pairwise (· < ·)
  in_ : ∀ n ∈ ev, 0 ≤ n ∧ n ≤ 99
  len : ev.length ≤ 8
theorem EvOk.asc {ev : List Int} (h : EvOk ev) : Asc ev := ⟨h.in_, asc_of_pw h.pw, Nat.le_trans h.len (by decide)⟩
theorem sorted_part {ev zs ms : List Int} (he : EvOk ev) (hp : ∀ z ∈ zs, z ∈ ev) (hn : zs.Nodup) (hne : zs ≠ []) (hm : ms.Perm zs) (hs : ms.Pairwise (· ≤ ·)) : Part ev ms ∧ ms.Nodup := by
  have nd : ms.Nodup := hm.nodup_iff.mpr hn
  have hsub : ∀ m ∈ ms, m ∈ ev := fun m h => hp m (hm.mem_iff.mp h)
  have hl : ms.length ≤ ev.length := List.Nodup.length_le_of_subset nd hsub
  refine ⟨⟨⟨fun n h => he.in_ n (hsub n h), asc_of_pw (pw_lt hs nd), ?_⟩, hsub, ?_⟩, nd⟩
  · have := he.len; omega
  · intro e
    have := hm.length_eq
    rw [e] at this
    exact hne (List.eq_nil_of_length_eq_zero this.symm)
theorem perm_map {α : Type} {f : α → D} : ∀ {l : List α} {ys : List D}, ys.Perm (l.map f) → ∃ zs : List α, zs.Perm l ∧ ys = zs.map f := by
  intro l ys h
  obtain ⟨n, hn⟩ : ∃ n, n = l.map f := ⟨_, rfl⟩
  rw [← hn] at h
  induction h generalizing l with
  | nil =>
    cases l with
    | nil => exact ⟨[], List.Perm.refl _, rfl⟩
    | cons a l => cases hn
  | cons x h ih =>
    cases l with
    | nil => cases hn
    | cons a l =>
      rw [List.map_cons] at hn
      cases hn
      obtain ⟨zs, h1, rfl⟩ := ih rfl
      exact ⟨a :: zs, h1.cons a, rfl⟩
  | swap x y t =>
    cases l with
    | nil => cases hn
    | cons a l =>
      cases l with
      | nil => cases hn
      | cons b l =>
        rw [List.map_cons, List.map_cons] at hn
        cases hn
        exact ⟨b :: a :: l, List.Perm.swap a b l, rfl⟩
  | trans h1 h2 ih1 ih2 =>
    obtain ⟨zs, p1, rfl⟩ := ih2 hn
    obtain ⟨ws, p2, rfl⟩ := ih1 (l := zs) rfl
    exact ⟨ws, p2.trans p1, rfl⟩
abbrev pairL (p : Int × Int) : List Int := [p.1, p.2]
theorem lex_pair {p q : Int × Int} (h : SrtO.lexB q p = false) (n : p ≠ q) : HT.lexLt (pairL p) (pairL q) = true := by
  have h := SrtO.lexB_no.mp h
  show (if p.1 = q.1 then (if p.2 = q.2 then false else decide (p.2 < q.2)) else decide (p.1 < q.1)) = true
  by_cases e : p.1 = q.1
  · rw [if_pos e]
    by_cases e2 : p.2 = q.2
    · exact absurd (Prod.ext e e2) n
    · rw [if_neg e2]; exact decide_eq_true (by omega)
  · rw [if_neg e]; exact decide_eq_true (by omega)
theorem asc_pairs {ys : List (Int × Int)} (h : ys.Pairwise fun a b => SrtO.lexB b a = false) (n : ys.Nodup) : ascL (ys.map pairL) = true := by
  unfold ascL
  refine List.all_eq_true.mpr fun i hi => ?_
  have hi := List.mem_range.mp hi
  rw [List.length_map] at hi
  have h1 : i < ys.length := by omega
  have h2 : i + 1 < ys.length := by omega
  rw [List.getD_eq_getElem?_getD, List.getD_eq_getElem?_getD, List.getElem?_map, List.getElem?_map, List.getElem?_eq_getElem h1, List.getElem?_eq_getElem h2]
  exact lex_pair (List.pairwise_iff_getElem.mp h i (i + 1) h1 h2 (Nat.lt_succ_self i)) (List.pairwise_iff_getElem.mp n i (i + 1) h1 h2 (Nat.lt_succ_self i))
/-- a family of the law -/
structure GoodF (g : Fam) : Prop where
  ev : EvOk g.ev
  ne : g.ev ≠ []
  few : SetsS g.ss
  sets : ∀ s ∈ g.ss, Part g.ev s.1 ∧ s.1.Nodup ∧ 1 ≤ s.2
  tws : ∃ ps : List (Int × Int), g.ts = ps.map pairL ∧ ps.length ≤ 6 ∧ ps.Nodup ∧ ps.Pairwise (fun a b => SrtO.lexB b a = false) ∧ ∀ p ∈ ps, Part g.ev (pairL p)
theorem GoodF.ok {g : Fam} (h : GoodF g) : Fam.Ok g := by
  obtain ⟨ps, e, h1, h2, h3, h4⟩ := h.tws
  refine ⟨h.ev.asc, h.ne, ⟨fun s hs => (h.sets s hs).1, fun s hs => (h.sets s hs).2.2, Nat.le_trans h.few.len (by decide)⟩, ?_⟩
  rw [e]
  refine ⟨fun t ht => ?_, fun t ht => ?_, asc_pairs h3 h2, by rw [List.length_map]; omega⟩
  · obtain ⟨p, hp, rfl⟩ := List.mem_map.mp ht
    exact h4 p hp
  · obtain ⟨p, hp, rfl⟩ := List.mem_map.mp ht
    rfl
theorem GoodF.setsN {g : Fam} (h : GoodF g) : SetsN g.ss := ⟨Nat.le_trans h.few.len (by decide), fun s hs => (h.sets s hs).2.1, fun s hs => Nat.le_trans (h.few.sz s hs) (by decide)⟩
/-- all that is open but the box is kept -/
def Keep (a : Addr) (O O' : Opens) : Prop := ∀ b o, b ≠ a → O b = some o → O' b = some o
theorem Keep.refl {a : Addr} {O : Opens} : Keep a O O := fun _ _ _ h => h
theorem Keep.but {a : Addr} {O O1 O2 : Opens} (h : Keep a O O1) (k : But a O1 O2) : Keep a O O2 := fun b o hb e => by rw [k b hb]; exact h b o hb e
theorem Keep.up {a p : Addr} {O O1 : Opens} {u : OO} (h : Keep a O O1) (hp : O p = none) : Keep a O (O1.up p u) := fun b o hb e => by
  rw [Opens.up_ne (fun z => by rw [z, hp] at e; cases e)]
  exact h b o hb e
theorem Keep.drop {a p : Addr} {O O1 : Opens} (h : Keep a O O1) (hp : O p = none) : Keep a O (O1.drop p) := fun b o hb e => by
  rw [Opens.drop_ne (fun z => by rw [z, hp] at e; cases e)]
  exact h b o hb e
/-- back to what was open, the box as it is -/
def backO (a : Addr) (O O1 : Opens) : Opens := fun b => if b = a then O1 a else O b
theorem backO_le {a : Addr} {O O1 : Opens} (h : Keep a O O1) : OLe (backO a O O1) O1 := fun b o e => by
  by_cases c : b = a
  · rw [c] at e ⊢
    have e : (if a = a then O1 a else O a) = some o := e
    rw [if_pos rfl] at e; exact e
  · have e : (if b = a then O1 a else O b) = some o := e
    rw [if_neg c] at e
    exact h b o c e
theorem backO_but {a : Addr} {O O1 : Opens} : But a O (backO a O O1) := fun b hb => if_neg hb
theorem backO_bx {a : Addr} {n : Nat} {O O1 : Opens} (h : Bx a n O1) : Bx a n (backO a O O1) := h.ext (if_pos rfl)
end
section
open PySem PySem.Spec PyProof.Rows L2 DL PySem.NumText
local macro_rules | `(tactic| walk_at "dlE") => `(tactic| first
  | ((with_reducible show We _ (Expr.List [] _) _ _ _); refine we_lstO ?_)
  | ((with_reducible show We _ (Expr.Call (Expr.Attribute (Expr.Name _ _) "append" _) [_] [] _) _ _ _); refine we_append ?_))
local macro_rules | `(tactic| walk_at "dlT") => `(tactic| ((with_reducible show WT _ (Expr.Compare (Expr.Name _ _) [CmpOp.NotIn] [Expr.Name _ _] _) _ _ _); refine wt_ninE ?_))
local macro_rules | `(tactic| walk_at "dlCall") => `(tactic| ((with_reducible show We _ (Expr.Call (Expr.Name "sorted" _) [Expr.Subscript _ _ _] [] _) _ _ _); refine we_sortI (by assumption) rfl ?_))
theorem q_minV {i j : Int} {O : Opens} {Q : DK} (h : Q (.int (if j < i then j else i)) O) : MinQ [.int i, .int j] O Q := h
theorem cutD_take {xs : List D} {k : Nat} : DL.cutD xs none (some (k : Int)) = xs.take k := by
  unfold DL.cutD
  have e1 : HT.sIx xs.length 0 none = 0 := rfl
  have e2 : HT.sIx xs.length xs.length (some (k : Int)) = min k xs.length := HT.sIx_nat _ _ _
  rw [e1, e2, Nat.sub_zero, List.drop_zero]
  rw [← List.take_take, List.take_length]
theorem keep_none {a p : Addr} {O O1 : Opens} (h : Keep a O O1) (hp : O1 p = none) (hb : p ≠ a) : O p = none := by
  cases w : O p with
  | none => rfl
  | some u => rw [h p u hb w] at hp; cases hp
abbrev NFa : List Str := ["box", "many", "most", "tallest", "couples", "events", "node", "turn", "sets", "twins", "some", "pair"]
def spFamily : SpD := fun ds O Q _ => ∃ (a : Addr) (n many most tallest couples : Nat), ds = [.raw (.ref a), .int many, .int most, .int tallest, .int couples] ∧ Bx a n O ∧ n + 400 ≤ 1000000 ∧ 2 ≤ many ∧ many ≤ 8 ∧ most ≤ 12 ∧ 1 ≤ tallest ∧ tallest ≤ 100 ∧ couples ≤ 6 ∧
  ∀ g O', GoodF g → g.ev.length = many → g.ss.length ≤ most → Bx a (n + 300) O' → But a O O' → Q (lawFam g) O'
theorem ok_family {M : Mo} {f : Addr} {fd : FuncData} (B : Blt M) (h_take : DefD M "_law_take" (topS 50) ["box", "many"] 1 spTake) (h_mixed : DefD M "_law_mixed" (topS 51) ["box", "items"] 2 spMixed) (hm : M.mg "_law_family" = some (.ref f)) (Fn : Fun M.K "_law_family" "_law_family" (topS 55) f fd) : DefD M "_law_family" (topS 55) ["box", "many", "most", "tallest", "couples"] 3 spFamily := by
  refine def_ok (N := NFa) hm Fn ⟨rfl, rfl, rfl, by decide +kernel, rfl, by decide +kernel, by decide +kernel⟩ (fun _ _ _ _ _ _ us hl => match us, hl with | [_, _, _, _, _], _ => rfl) (fun ds O Q E ⟨_, _, _, _, _, _, e, _⟩ => by rw [e]; rfl) fun F ds O Qd Ed ⟨a, n, many, most, tallest, couples, e, hb, hn, m2, m8, mo, t1, t2, co, q⟩ => ?_
  subst e
  refine wss_rt ?_
  have hsz : sizeLine = 16777216 := rfl
  have oa : O a ≠ none := by obtain ⟨L, h1, _⟩ := hb; rw [h1]; exact fun z => nomatch z
  repeat walk_at "dl"
  refine fun p1 hp1 => ?_
  have na1 : a ≠ p1 := fun z => oa (z ▸ hp1)
  have hb1 : Bx a n (O.up p1 (.lst [])) := hb.ext (Opens.up_ne na1)
  repeat walk_at "dl"
  refine ⟨a, 20, n, rfl, hb1, by omega, by decide, by decide, fun r O1 r0 r1 b1 bt => ?_⟩
  have k1 : Keep a O O1 := (Keep.refl.up hp1).but bt
  have e1 : O1 p1 = some (.lst (([] : List Int).map D.int)) := by rw [bt p1 (Ne.symm na1), Opens.up_same]; rfl
  repeat walk_at "dl"
  refine ws_forI rfl ?_
  repeat walk_at "dl"
  refine ⟨by omega, by omega, ?_⟩
  rw [Int.toNat_natCast]
  refine for_stateA (List.range many) (fun i : Nat => D.int (i : Int)) (fun i ρ' O' => ∃ (ev : List Int) (nd : Int) (x7 x8 x9 x10 x11 : Option D), ρ' = [some (.raw (.ref a)), some (.int (many : Int)), some (.int (most : Int)), some (.int (tallest : Int)), some (.int (couples : Int)), some (.raw (.ref p1)), some (.int nd), x7, x8, x9, x10, x11] ∧ ev.length = i ∧ ev.Pairwise (· < ·) ∧ (∀ x ∈ ev, 0 ≤ x ∧ x < nd) ∧ 0 ≤ nd ∧ nd ≤ 19 + 9 * (i : Int) ∧ O' p1 = some (.lst (ev.map D.int)) ∧ Bx a (n + 1 + i) O' ∧ Keep a O O')
    ⟨[], r, none, none, none, none, none, rfl, rfl, List.Pairwise.nil, (fun x h => nomatch h), r0, by omega, e1, b1, k1⟩ (fun i x ρ' O' hi hx w => ?_) fun ρ' O' w => ?_
  · obtain ⟨ev, nd, x7, x8, x9, x10, x11, rfl, w1, w2, w3, w4, w5, w6, w7, w8⟩ := w
    rw [List.length_range] at hi
    repeat walk_at "dl"
    refine ⟨p1, _, rfl, w6, ?_⟩
    repeat walk_at "dl"
    refine ⟨_, w6, by rw [List.length_map]; omega, ?_⟩
    repeat walk_at "dl"
    refine ⟨a, 9, n + 1 + i, rfl, w7.ext (Opens.up_ne na1), by omega, by decide, by decide, fun r O2 r0 r1 b2 bt2 => ?_⟩
    repeat walk_at "dl"
    refine ⟨ev ++ [nd], nd + 1 + r, _, _, _, _, _, rfl, by rw [List.length_append, w1]; rfl, ?_, ?_, by omega, by omega, by rw [bt2 p1 (Ne.symm na1), Opens.up_same, List.map_append]; rfl, b2.le (by omega), (w8.up hp1).but bt2⟩
    · exact List.pairwise_append.mpr ⟨w2, List.pairwise_singleton _ _, fun x hx y hy => by rw [List.mem_singleton.mp hy]; exact (w3 x hx).2⟩
    · intro x hx
      rcases List.mem_append.mp hx with h | h
      · have := w3 x h; omega
      · rw [List.mem_singleton.mp h]; omega
  · obtain ⟨ev, nd, x7, x8, x9, x10, x11, rfl, w1, w2, w3, w4, w5, w6, w7, w8⟩ := w
    rw [List.length_range] at w1 w5 w7
    have hev : EvOk ev := ⟨w2, fun x hx => by have := w3 x hx; omega, by omega⟩
    have evn : ev.Nodup := pw_nodup w2
    repeat walk_at "dl"
    refine fun p2 hp2 => ?_
    repeat walk_at "dl"
    refine fun p3 hp3 => ?_
    have nOa : O' a ≠ none := by obtain ⟨L, h1, _⟩ := w7; rw [h1]; exact fun z => nomatch z
    have np2a : p2 ≠ a := fun z => nOa (z ▸ hp2)
    have np21 : p2 ≠ p1 := fun z => by rw [z, w6] at hp2; cases hp2
    have np32 : p3 ≠ p2 := fun z => by rw [z, Opens.up_same] at hp3; cases hp3
    have hp3' : O' p3 = none := by rw [Opens.up_ne np32] at hp3; exact hp3
    have np3a : p3 ≠ a := fun z => nOa (z ▸ hp3')
    have np31 : p3 ≠ p1 := fun z => by rw [z, w6] at hp3'; cases hp3'
    have o2 : O p2 = none := keep_none w8 hp2 np2a
    have o3 : O p3 = none := keep_none w8 hp3' np3a
    have b3 : Bx a (n + 1 + many) ((O'.up p2 (.lst [])).up p3 (.lst [])) := w7.ext (by rw [Opens.up_ne (Ne.symm np3a), Opens.up_ne (Ne.symm np2a)])
    repeat walk_at "dl"
    refine ws_forI rfl ?_
    repeat walk_at "dl"
    refine ⟨a, _, n + 1 + many, rfl, b3, by omega, by omega, by omega, fun r O4 r0 r1 b4 bt4 => ?_⟩
    repeat walk_at "dl"
    obtain ⟨m, rfl⟩ := Int.eq_ofNat_of_zero_le r0
    refine ⟨by omega, by omega, ?_⟩
    rw [Int.toNat_natCast]
    have hm12 : m ≤ most := by omega
    refine for_stateA (List.range m) (fun i : Nat => D.int (i : Int)) (fun i ρ' O' => ∃ (ss : List (List Int × Int)) (x7 x10 x11 : Option D), ρ' = [some (.raw (.ref a)), some (.int (many : Int)), some (.int (most : Int)), some (.int (tallest : Int)), some (.int (couples : Int)), some (.raw (.ref p1)), some (.int nd), x7, some (.raw (.ref p2)), some (.raw (.ref p3)), x10, x11] ∧ ss.length = i ∧ (∀ s ∈ ss, (Part ev s.1 ∧ s.1.Nodup ∧ 1 ≤ s.2) ∧ s.1.length ≤ 8) ∧ O' p1 = some (.lst (ev.map D.int)) ∧ O' p2 = some (.lst (setsL ss)) ∧ O' p3 = some (.lst []) ∧ Bx a (n + 2 + many + i * 12) O' ∧ Keep a O O')
      ⟨[], x7, x10, x11, rfl, rfl, (fun s h => nomatch h), by rw [bt4 p1 (Ne.symm na1), Opens.up_ne (Ne.symm np31), Opens.up_ne (Ne.symm np21)]; exact w6, by rw [bt4 p2 np2a, Opens.up_ne (Ne.symm np32), Opens.up_same]; rfl, by rw [bt4 p3 np3a, Opens.up_same], b4.le (by omega), ((w8.up o2).up o3).but bt4⟩ (fun i x ρ' O' hi hx w => ?_) fun ρ' O' w => ?_
    · obtain ⟨ss, x7, x10, x11, rfl, v1, v2, v3, v4, v5, v6, v7⟩ := w
      rw [List.length_range] at hi
      repeat walk_at "dl"
      refine ⟨_, v3, ?_⟩
      repeat walk_at "dl"
      refine ⟨a, _, ev.map D.int, _, rfl, .inl rfl, fun d hd => Lay.le (lays_ints (n := 0) d hd) (by decide), v6, by rw [List.length_map]; omega, fun ys O5 hp b5 bt5 => ?_⟩
      rw [List.length_map] at b5
      obtain ⟨zs, hz, rfl⟩ := perm_map hp
      repeat walk_at "dl"
      refine q_minV ?_
      repeat walk_at "dl"
      refine ⟨a, _, _, rfl, b5, by omega, by split <;> omega, by split <;> omega, fun r O6 r0 r1 b6 bt6 => ?_⟩
      obtain ⟨k, rfl⟩ := Int.eq_ofNat_of_zero_le r0
      repeat walk_at "dl"
      rw [show (1 + (k : Int)) = ((k + 1 : Nat) : Int) by omega, cutD_take, ← List.map_take]
      refine ⟨zs.take (k + 1), rfl, fun ms pm ps => ?_⟩
      have hzn : zs.Nodup := hz.nodup_iff.mpr evn
      have hzl : zs.length = many := by rw [hz.length_eq, w1]
      obtain ⟨hpt, hnd⟩ := sorted_part (zs := zs.take (k + 1)) hev (fun z h => hz.mem_iff.mp (List.mem_of_mem_take h)) (hzn.sublist (List.take_sublist _ _)) (fun z => by have h := congrArg List.length z; rw [List.length_take, hzl] at h; have h : min (k + 1) many = 0 := h; omega) pm ps
      have hml : ms.length ≤ 8 := by rw [pm.length_eq, List.length_take]; omega
      repeat walk_at "dl"
      refine ⟨p2, _, rfl, by rw [bt6 p2 np2a, bt5 p2 np2a]; exact v4, ?_⟩
      repeat walk_at "dl"
      refine ⟨a, _, _, rfl, b6, by omega, by omega, by omega, fun h O7 h0 h1 b7 bt7 => ?_⟩
      repeat walk_at "dl"
      refine ⟨_, by rw [bt7 p2 np2a, bt6 p2 np2a, bt5 p2 np2a]; exact v4, by rw [List.length_map]; omega, ?_⟩
      repeat walk_at "dl"
      refine ⟨ss ++ [(ms, 1 + h)], _, _, _, rfl, by rw [List.length_append, v1]; rfl, fun s hs => ?_, by rw [Opens.up_ne (Ne.symm np21), bt7 p1 (Ne.symm na1), bt6 p1 (Ne.symm na1), bt5 p1 (Ne.symm na1)]; exact v3, by rw [Opens.up_same]; unfold setsL; rw [List.map_append]; rfl, by rw [Opens.up_ne np32, bt7 p3 np3a, bt6 p3 np3a, bt5 p3 np3a]; exact v5, (b7.ext (Opens.up_ne (Ne.symm np2a))).le (by omega), (((v7.but bt5).but bt6).but bt7).up o2⟩
      rcases List.mem_append.mp hs with hs | hs
      · exact v2 s hs
      · rw [List.mem_singleton.mp hs]; exact ⟨⟨hpt, hnd, by show 1 ≤ 1 + h; omega⟩, hml⟩
    · obtain ⟨ss, x7, x10, x11, rfl, v1, v2, v3, v4, v5, v6, v7⟩ := w
      rw [List.length_range] at v1 v6
      repeat walk_at "dl"
      refine ws_forI rfl ?_
      repeat walk_at "dl"
      refine ift (decide_eq_true (by omega)) ?_
      repeat walk_at "dl"
      refine ⟨a, _, _, rfl, v6, by omega, by omega, by omega, fun r O4 r0 r1 b4 bt4 => ?_⟩
      obtain ⟨c, rfl⟩ := Int.eq_ofNat_of_zero_le r0
      repeat walk_at "dl"
      refine ⟨by omega, by omega, ?_⟩
      rw [Int.toNat_natCast]
      have hc6 : c ≤ 6 := by omega
      refine for_stateA (List.range c) (fun i : Nat => D.int (i : Int)) (fun i ρ' O' => ∃ (ps : List (Int × Int)) (x7 x10 x11 : Option D), ρ' = [some (.raw (.ref a)), some (.int (many : Int)), some (.int (most : Int)), some (.int (tallest : Int)), some (.int (couples : Int)), some (.raw (.ref p1)), some (.int nd), x7, some (.raw (.ref p2)), some (.raw (.ref p3)), x10, x11] ∧ ps.length ≤ i ∧ ps.Nodup ∧ (∀ p ∈ ps, Part ev (pairL p)) ∧ O' p1 = some (.lst (ev.map D.int)) ∧ O' p2 = some (.lst (setsL ss)) ∧ O' p3 = some (.lst (ps.map DL.pairD)) ∧ Bx a (n + 11 + m * 12 + i * 9) O' ∧ Keep a O O')
        ⟨[], x7, x10, x11, rfl, Nat.le_refl _, List.nodup_nil, (fun s h => nomatch h), by rw [bt4 p1 (Ne.symm na1)]; exact v3, by rw [bt4 p2 np2a]; exact v4, by rw [bt4 p3 np3a]; exact v5, b4.le (by omega), v7.but bt4⟩ (fun i x ρ' O' hi hx w => ?_) fun ρ' O' w => ?_
      · obtain ⟨ps, x7, x10, x11, rfl, u1, u2, u3, u4, u5, u6, u7, u8⟩ := w
        rw [List.length_range] at hi
        repeat walk_at "dl"
        refine ⟨_, u4, ?_⟩
        repeat walk_at "dl"
        refine ⟨a, _, ev.map D.int, _, rfl, .inl rfl, fun d hd => Lay.le (lays_ints (n := 0) d hd) (by decide), u7, by rw [List.length_map]; omega, fun ys O5 hp b5 bt5 => ?_⟩
        rw [List.length_map] at b5
        obtain ⟨zs, hz, rfl⟩ := perm_map hp
        repeat walk_at "dl"
        have hzn : zs.Nodup := hz.nodup_iff.mpr evn
        have hzl : zs.length = many := by rw [hz.length_eq, w1]
        rw [show (2 : Int) = ((2 : Nat) : Int) from rfl, cutD_take, ← List.map_take]
        refine ⟨zs.take 2, rfl, fun ms pm psd => ?_⟩
        obtain ⟨hpt, hnd⟩ := sorted_part (zs := zs.take 2) hev (fun z h => hz.mem_iff.mp (List.mem_of_mem_take h)) (hzn.sublist (List.take_sublist _ _)) (fun z => by have h := congrArg List.length z; rw [List.length_take, hzl] at h; have h : min 2 many = 0 := h; omega) pm psd
        have hml : ms.length = 2 := by rw [pm.length_eq, List.length_take]; omega
        obtain ⟨pr, rfl⟩ : ∃ pr : Int × Int, ms = pairL pr := by
          match ms, hml with
          | [u, v], _ => exact ⟨(u, v), rfl⟩
        have ein : inE (.tup ((pairL pr).map D.int)) (ps.map DL.pairD) = decide (pr ∈ ps) := by
          unfold inE
          rw [List.any_map]
          cases w : decide (pr ∈ ps) with
          | true => exact List.any_eq_true.mpr ⟨pr, of_decide_eq_true w, by show eqD (.tup ((pairL pr).map D.int)) (.tup ((pairL pr).map D.int)) = true; rw [eqD_tup, eqDs_ints]; exact decide_eq_true rfl⟩
          | false =>
            refine Bool.eq_false_iff.mpr fun z => ?_
            obtain ⟨y, hy, he⟩ := List.any_eq_true.mp z
            have he : eqD (.tup ((pairL y).map D.int)) (.tup ((pairL pr).map D.int)) = true := he
            rw [eqD_tup, eqDs_ints] at he
            have he := of_decide_eq_true he
            have e1 : y.1 = pr.1 := List.cons.inj he |>.1
            have e2 : y.2 = pr.2 := List.cons.inj (List.cons.inj he |>.2) |>.1
            have : y = pr := Prod.ext e1 e2
            rw [this] at hy
            exact of_decide_eq_false w hy
        have hlp : ∀ d ∈ ps.map DL.pairD, Lay 60 d := fun d hd => by
          obtain ⟨y, _, rfl⟩ := List.mem_map.mp hd
          exact Lay.le (lay_tup (n := 0) (ds := (pairL y).map D.int) lays_ints) (by decide)
        repeat walk_at "dl"
        refine ⟨ps.map DL.pairD, .inr ⟨p3, rfl, by rw [bt5 p3 np3a]; exact u6⟩, Lay.le (lay_tup (n := 0) lays_ints) (by decide), hlp, ?_⟩
        rw [ein]
        have f1 : O5 p1 = some (.lst (ev.map D.int)) := by rw [bt5 p1 (Ne.symm na1)]; exact u4
        have f2 : O5 p2 = some (.lst (setsL ss)) := by rw [bt5 p2 np2a]; exact u5
        have f3 : O5 p3 = some (.lst (ps.map DL.pairD)) := by rw [bt5 p3 np3a]; exact u6
        cases w : decide (pr ∈ ps) with
        | true =>
          repeat walk_at "dl"
          exact ⟨ps, _, _, _, rfl, by omega, u2, u3, f1, f2, f3, b5.le (by omega), u8.but bt5⟩
        | false =>
          repeat walk_at "dl"
          refine ⟨p3, _, rfl, f3, ?_⟩
          repeat walk_at "dl"
          refine ⟨_, f3, by rw [List.length_map]; omega, ?_⟩
          repeat walk_at "dl"
          refine ⟨ps ++ [pr], _, _, _, rfl, by rw [List.length_append]; simp; omega, ?_, fun p hp => ?_, by rw [Opens.up_ne (Ne.symm np31)]; exact f1, by rw [Opens.up_ne (Ne.symm np32)]; exact f2, by rw [Opens.up_same, List.map_append]; rfl, (b5.ext (Opens.up_ne (Ne.symm np3a))).le (by omega), (u8.but bt5).up o3⟩
          · exact List.nodup_append.mpr ⟨u2, by simp, fun x hx y hy e => by rw [List.mem_singleton.mp hy] at e; rw [e] at hx; exact of_decide_eq_false w hx⟩
          · rcases List.mem_append.mp hp with h | h
            · exact u3 p h
            · rw [List.mem_singleton.mp h]; exact hpt
      · obtain ⟨ps, x7, x10, x11, rfl, u1, u2, u3, u4, u5, u6, u7, u8⟩ := w
        rw [List.length_range] at u1 u7
        refine wss_shut (i := 8) (p := p2) rfl u5 ?_
        have g1 : (O'.drop p2) p1 = some (.lst (ev.map D.int)) := by rw [Opens.drop_ne (Ne.symm np21)]; exact u4
        have g3 : (O'.drop p2) p3 = some (.lst (ps.map DL.pairD)) := by rw [Opens.drop_ne np32]; exact u6
        repeat walk_at "dl"
        refine ⟨_, g1, ?_⟩
        repeat walk_at "dl"
        refine we_srtP (by assumption) rfl ?_
        repeat walk_at "dl"
        refine ⟨_, ps, rfl, .inr ⟨p3, rfl, g3⟩, fun ys py sy => ?_⟩
        repeat walk_at "dl"
        have kp : Keep a O (O'.drop p2) := u8.drop o2
        refine ⟨backO a O (O'.drop p2), backO_le kp, ?_⟩
        have eg : (D.lst [.tup (ev.map D.int), .lst (setsL ss), .lst (ys.map DL.pairD)]) = lawFam ⟨ev, ss, ys.map pairL⟩ := by
          show _ = D.lst [tupI ev, .lst (setsL ss), .lst ((ys.map pairL).map tupI)]
          rw [List.map_map]; rfl
        rw [eg]
        refine q ⟨ev, ss, ys.map pairL⟩ _ ⟨hev, fun z => by have z : ev = [] := z; rw [z] at w1; simp at w1; omega, ⟨by show ss.length ≤ 12; omega, fun s hs => (v2 s hs).2⟩, fun s hs => (v2 s hs).1, ys, rfl, by rw [py.length_eq]; omega, py.nodup_iff.mpr u2, sy, fun p hp => u3 p (py.mem_iff.mp hp)⟩ w1 (by show ss.length ≤ most; omega) ?_ backO_but
        exact backO_bx ((u7.ext (Opens.drop_ne (Ne.symm np2a))).le (by omega))
end
section
open PySem PySem.Spec PyProof.Rows L2 DL PySem.NumText
local macro_rules | `(tactic| walk_at "dlE") => `(tactic| first
  | ((with_reducible show We _ (Expr.BinOp (Expr.Name "waits" _) Operator.Add _ _) _ _ _); refine we_addO ?_)
  | ((with_reducible show We _ (Expr.Call (Expr.Attribute (Expr.Name _ _) "append" _) [_] [] _) _ _ _); refine we_append ?_)
  | ((with_reducible show We _ (Expr.Call (Expr.Attribute (Expr.Name _ _) "pop" _) [_] [] _) _ _ _); refine we_popAt ?_))
local macro_rules | `(tactic| walk_at "dlT") => `(tactic| ((with_reducible show WT _ (Expr.Compare (Expr.Name _ _) [CmpOp.NotEq] [Expr.List [] _] _) _ _ _); refine wt_neE ?_))
local macro_rules | `(tactic| walk_at "dlCall") => `(tactic| ((with_reducible show We _ (Expr.Call (Expr.Name "sorted" _) [Expr.Subscript _ _ _] [] _) _ _ _); refine we_sortI (by assumption) rfl ?_))
theorem cutD_both {xs : List D} {l h : Nat} (h1 : l ≤ h) (h2 : h ≤ xs.length) : DL.cutD xs (some (l : Int)) (some (h : Int)) = (xs.drop l).take (h - l) := by
  unfold DL.cutD
  have e1 : HT.sIx xs.length 0 (some (l : Int)) = min l xs.length := HT.sIx_nat _ _ _
  have e2 : HT.sIx xs.length xs.length (some (h : Int)) = min h xs.length := HT.sIx_nat _ _ _
  rw [e1, e2, Nat.min_eq_left h2, Nat.min_eq_left (Nat.le_trans h1 h2)]
abbrev pN (p : Nat × Nat) : D := .tup [.int (p.1 : Int), .int (p.2 : Int)]
def wN (p : Nat × Nat) : Nat := 2 * (p.2 - p.1) - 1
def wsum (ws : List (Nat × Nat)) : Nat := (ws.map wN).sum
theorem wsum_erase : ∀ {ws : List (Nat × Nat)} {k : Nat} {p : Nat × Nat}, ws[k]? = some p → wsum (ws.eraseIdx k) + wN p = wsum ws
  | [], _, _, h => by cases h
  | q :: ws, 0, p, h => by
    cases h
    show wsum ws + wN q = wN q + wsum ws
    omega
  | q :: ws, k + 1, p, h => by
    have ih := wsum_erase (ws := ws) (k := k) (p := p) (by simpa using h)
    show wN q + wsum (ws.eraseIdx k) + wN p = wN q + wsum ws
    omega
theorem wsum_app {ws vs : List (Nat × Nat)} : wsum (ws ++ vs) = wsum ws + wsum vs := by
  unfold wsum
  rw [List.map_append, List.sum_append]
theorem lay_sets (ss : List (List Int × Int)) : ∀ d ∈ setsL ss, Lay 60 d := fun d hd => by
  obtain ⟨y, _, rfl⟩ := List.mem_map.mp hd
  refine Lay.le (lay_tup (n := 1) fun e he => ?_) (by decide)
  rcases List.mem_cons.mp he with rfl | he
  · exact lay_tup lays_ints
  · rw [List.mem_singleton.mp he]; exact lay_int
theorem lay_pN (ws : List (Nat × Nat)) : ∀ d ∈ ws.map pN, Lay 60 d := fun d hd => by
  obtain ⟨y, _, rfl⟩ := List.mem_map.mp hd
  exact Lay.le (lay_tup (n := 0) (ds := ([(y.1 : Int), (y.2 : Int)]).map D.int) lays_ints) (by decide)
/-- sets of the law so far -/
def SSo (ev : List Int) (most : Nat) (ss : List (List Int × Int)) : Prop := ss.length ≤ most ∧ ∀ s ∈ ss, (Part ev s.1 ∧ s.1.Nodup ∧ 1 ≤ s.2) ∧ s.1.length ≤ 8
theorem map_erase {α : Type} {f : α → D} : ∀ {l : List α} {k : Nat}, (l.map f).eraseIdx k = (l.eraseIdx k).map f
  | [], _ => rfl
  | a :: l, 0 => rfl
  | a :: l, k + 1 => congrArg (f a :: ·) (map_erase (l := l) (k := k))
def whB (l : List Stmt) : List Stmt := match l with
  | .While _ b _ _ :: _ => b
  | _ => []
abbrev NNe : List Str := ["box", "many", "most", "events", "row", "sets", "waits", "low", "high", "cut", "twins"]
def spNest : SpD := fun ds O Q _ => ∃ (a : Addr) (n many most : Nat), ds = [.raw (.ref a), .int many, .int most] ∧ Bx a n O ∧ n + 500 ≤ 1000000 ∧ 2 ≤ many ∧ many ≤ 8 ∧ 1 ≤ most ∧ most ≤ 12 ∧
  ∀ g O', GoodF g → g.ev.length = many → g.ss.length ≤ most → Bx a (n + 450) O' → But a O O' → Q (lawFam g) O'
theorem ok_nest {M : Mo} {f : Addr} {fd : FuncData} (B : Blt M) (h_take : DefD M "_law_take" (topS 50) ["box", "many"] 1 spTake) (h_mixed : DefD M "_law_mixed" (topS 51) ["box", "items"] 2 spMixed) (h_family : DefD M "_law_family" (topS 55) ["box", "many", "most", "tallest", "couples"] 3 spFamily) (hm : M.mg "_law_nest" = some (.ref f)) (Fn : Fun M.K "_law_nest" "_law_nest" (topS 64) f fd) : DefD M "_law_nest" (topS 64) ["box", "many", "most"] 4 spNest := by
  refine def_ok (N := NNe) hm Fn ⟨rfl, rfl, rfl, by decide +kernel, rfl, by decide +kernel, by decide +kernel⟩ (fun _ _ _ _ _ _ us hl => match us, hl with | [_, _, _], _ => rfl) (fun ds O Q E ⟨_, _, _, _, e, _⟩ => by rw [e]; rfl) fun F ds O Qd Ed ⟨a, n, many, most, e, hb, hn, m2, m8, mo1, mo, q⟩ => ?_
  subst e
  refine wss_rt ?_
  have hsz : sizeLine = 16777216 := rfl
  have oa : O a ≠ none := by obtain ⟨L, h1, _⟩ := hb; rw [h1]; exact fun z => nomatch z
  repeat walk_at "dl"
  refine ⟨a, n, many, 0, 1, 0, rfl, hb, by omega, m2, m8, by decide, by decide, by decide, by decide, fun g0 O1 G0 gl _ b1 bt1 => ?_⟩
  obtain ⟨ev, ss0, ts0⟩ := g0
  have hev : EvOk ev := G0.ev
  have gl : ev.length = many := gl
  have evn : ev.Nodup := pw_nodup hev.pw
  have ene : ev ≠ [] := fun z => by rw [z] at gl; simp at gl; omega
  repeat walk_at "dl"
  refine ws_par3 (i := 4) (j := 5) (l := 6) rfl rfl rfl rfl (by decide) (by decide) (by decide) rfl rfl rfl ?qa ?hwa
  case hwa => (intro env he; obtain ⟨⟩ := env; cases he; kernel_rfl)
  repeat walk_at "dl"
  refine ⟨a, _, ev.map D.int, _, rfl, .inl rfl, fun d hd => Lay.le (lays_ints (n := 0) d hd) (by decide), b1, by rw [List.length_map]; omega, fun ys O2 hp b2 bt2 => ?_⟩
  rw [List.length_map] at b2
  obtain ⟨zs, hz, rfl⟩ := perm_map hp
  have hzn : zs.Nodup := hz.nodup_iff.mpr evn
  have hzl : zs.length = many := by rw [hz.length_eq, gl]
  have hsub : ∀ z ∈ zs, z ∈ ev := fun z h => hz.mem_iff.mp h
  have k2 : Keep a O O2 := (Keep.refl.but bt1).but bt2
  have nOa : O2 a ≠ none := by obtain ⟨L, h1, _⟩ := b2; rw [h1]; exact fun z => nomatch z
  refine we_lstO ?_
  repeat walk_at "dl"
  refine fun p2 hp2 => ?_
  have np2a : p2 ≠ a := fun z => nOa (z ▸ hp2)
  have o2 : O p2 = none := keep_none k2 hp2 np2a
  refine we_lstO ?_
  repeat walk_at "dl"
  refine fun p3 hp3 => ?_
  have np32 : p3 ≠ p2 := fun z => by rw [z, Opens.up_same] at hp3; cases hp3
  have hp3' : O2 p3 = none := by rw [Opens.up_ne np32] at hp3; exact hp3
  have np3a : p3 ≠ a := fun z => nOa (z ▸ hp3')
  have o3 : O p3 = none := keep_none k2 hp3' np3a
  repeat walk_at "dl"
  have fin3 : ∀ (x7 x8 x9 : Option D) (p3 : Addr) (ss : List (List Int × Int)) (ps : List (Int × Int)) (O' : Opens), SSo ev most ss → ps.length ≤ 1 → (∀ p ∈ ps, Part ev (pairL p)) → O' p2 = some (.lst (setsL ss)) → Bx a (n + 390) O' → Keep a O O' →
      WSs (bodyG M NNe (defScope (topS 64)) 3 F Ed) ((defBody (topS 64)).drop 5) [some (.raw (.ref a)), some (.int (many : Int)), some (.int (most : Int)), some (tupI ev), some (.lst (zs.map D.int)), some (.raw (.ref p2)), some (.raw (.ref p3)), x7, x8, x9, some (.lst (twsL (ps.map pairL)))] O' { nx := fun _ O' => Qd .non O', rt := fun d O1 => ∃ O2, OLe O2 O1 ∧ Qd d O2 } := by
    intro x7 x8 x9 p3 ss ps O' hs hpl hpp ho bx kp
    repeat walk_at "dl"
    refine ⟨a, _, setsL ss, _, rfl, .inr (.inr ⟨p2, rfl, ho⟩), lay_sets ss, bx, by rw [List.length_map]; have := hs.1; omega, fun ys O5 hp b5 bt5 => ?_⟩
    rw [List.length_map] at b5
    obtain ⟨ss', hp', rfl⟩ := perm_map hp
    repeat walk_at "dl"
    refine ⟨backO a O O5, backO_le (kp.but bt5), ?_⟩
    refine q ⟨ev, ss', ps.map pairL⟩ _ ⟨hev, ene, ⟨by show ss'.length ≤ 12; rw [hp'.length_eq]; have := hs.1; omega, fun s h => (hs.2 s (hp'.mem_iff.mp h)).2⟩, fun s h => (hs.2 s (hp'.mem_iff.mp h)).1, ps, rfl, by omega, ?_, ?_, hpp⟩ gl (by show ss'.length ≤ most; rw [hp'.length_eq]; exact hs.1) (backO_bx (b5.le (by have := hs.1; omega))) backO_but
    · match ps, hpl with
      | [], _ => exact List.nodup_nil
      | [p], _ => exact List.nodup_cons.mpr ⟨fun h => (nomatch h), List.nodup_nil⟩
    · match ps, hpl with
      | [], _ => exact List.Pairwise.nil
      | [p], _ => exact List.pairwise_singleton _ _
  have fin2 : ∀ (x7 x8 x9 x10 : Option D) (p3 : Addr) (ss : List (List Int × Int)) (O' : Opens), SSo ev most ss → O' p2 = some (.lst (setsL ss)) → Bx a (n + 389) O' → Keep a O O' →
      WSs (bodyG M NNe (defScope (topS 64)) 3 F Ed) ((defBody (topS 64)).drop 4) [some (.raw (.ref a)), some (.int (many : Int)), some (.int (most : Int)), some (tupI ev), some (.lst (zs.map D.int)), some (.raw (.ref p2)), some (.raw (.ref p3)), x7, x8, x9, x10] O' { nx := fun _ O' => Qd .non O', rt := fun d O1 => ∃ O2, OLe O2 O1 ∧ Qd d O2 } := by
    intro x7 x8 x9 x10 p3 ss O' hs ho bx kp
    repeat walk_at "dl"
    refine ift (decide_eq_true (by omega)) ?_
    repeat walk_at "dl"
    refine ⟨a, _, _, rfl, bx, by omega, by decide, by decide, fun r O4 r0 r1 b4 bt4 => ?_⟩
    have ho4 : O4 p2 = some (.lst (setsL ss)) := by rw [bt4 p2 np2a]; exact ho
    repeat walk_at "dl"
    cases hr : (r == 0) with
    | true =>
      repeat walk_at "dl"
      rw [show (2 : Int) = ((2 : Nat) : Int) from rfl, cutD_take, ← List.map_take]
      refine ⟨zs.take 2, rfl, fun ms pm psd => ?_⟩
      obtain ⟨hpt, hnd⟩ := sorted_part (zs := zs.take 2) hev (fun z h => hsub z (List.mem_of_mem_take h)) (hzn.sublist (List.take_sublist _ _)) (fun z => by have h := congrArg List.length z; rw [List.length_take, hzl] at h; have h : min 2 many = 0 := h; omega) pm psd
      have hml : ms.length = 2 := by rw [pm.length_eq, List.length_take]; omega
      obtain ⟨pr, rfl⟩ : ∃ pr : Int × Int, ms = pairL pr := by
        match ms, hml with
        | [u, v], _ => exact ⟨(u, v), rfl⟩
      repeat first | ((with_reducible show WSs _ _ _ _ _); exact fin3 x7 x8 x9 p3 ss [pr] O4 hs (Nat.le_refl _) (fun p hp => by rw [List.mem_singleton.mp hp]; exact hpt) ho4 b4 (kp.but bt4)) | walk_at "dl"
    | false =>
      repeat first | ((with_reducible show WSs _ _ _ _ _); exact fin3 x7 x8 x9 p3 ss [] O4 hs (Nat.zero_le _) (fun p hp => nomatch hp) ho4 b4 (kp.but bt4)) | walk_at "dl"
  have fin : ∀ (x7 x8 x9 x10 : Option D) (p3 : Addr) (ss : List (List Int × Int)) (O' : Opens), SSo ev most ss → O' p2 = some (.lst (setsL ss)) → Bx a (n + 380) O' → Keep a O O' →
      WSs (bodyG M NNe (defScope (topS 64)) 3 F Ed) ((defBody (topS 64)).drop 3) [some (.raw (.ref a)), some (.int (many : Int)), some (.int (most : Int)), some (tupI ev), some (.lst (zs.map D.int)), some (.raw (.ref p2)), some (.raw (.ref p3)), x7, x8, x9, x10] O' { nx := fun _ O' => Qd .non O', rt := fun d O1 => ∃ O2, OLe O2 O1 ∧ Qd d O2 } := by
    intro x7 x8 x9 x10 p3 ss O' hs ho bx kp
    repeat walk_at "dl"
    refine ⟨p2, _, rfl, ho, lay_sets ss, rfl, ?_⟩
    cases hss : ss with
    | nil =>
      rw [← hss]
      have e1 : (!(setsL ss).isEmpty) = false := by rw [hss]; rfl
      rw [e1]
      repeat first | ((with_reducible show WSs _ _ _ _ _); exact fin2 x7 x8 x9 x10 p3 ss O' hs ho (bx.le (by omega)) kp) | walk_at "dl"
    | cons s0 sr =>
      rw [← hss]
      have e1 : (!(setsL ss).isEmpty) = true := by rw [hss]; rfl
      have hpos : 0 < ss.length := by rw [hss]; exact Nat.succ_pos _
      rw [e1]
      repeat walk_at "dl"
      refine ⟨a, _, _, rfl, bx, by omega, by decide, by decide, fun r O4 r0 r1 b4 bt4 => ?_⟩
      have ho4 : O4 p2 = some (.lst (setsL ss)) := by rw [bt4 p2 np2a]; exact ho
      repeat walk_at "dl"
      cases hr : (r == 0) with
      | false =>
        repeat first | ((with_reducible show WSs _ _ _ _ _); exact fin2 x7 x8 x9 x10 p3 ss O4 hs ho4 (b4.le (by omega)) (kp.but bt4)) | walk_at "dl"
      | true =>
        repeat walk_at "dl"
        refine ⟨_, ho4, ?_⟩
        repeat walk_at "dl"
        refine if2 (fun hlt => ?_) (fun hlt => ?_)
        · have hlt : ((setsL ss).length : Int) < (most : Int) := of_decide_eq_true hlt
          rw [List.length_map] at hlt
          repeat walk_at "dl"
          refine ⟨p2, _, rfl, ho4, ?_⟩
          repeat walk_at "dl"
          refine ⟨_, ho4, ?_⟩
          repeat walk_at "dl"
          refine ⟨a, _, _, rfl, b4, by omega, by rw [List.length_map]; omega, by rw [List.length_map]; have := hs.1; omega, fun r2 O5 r20 r21 b5 bt5 => ?_⟩
          rw [List.length_map] at r21
          obtain ⟨k, rfl⟩ := Int.eq_ofNat_of_zero_le r20
          have hk : k < ss.length := by omega
          have ho5 : O5 p2 = some (.lst (setsL ss)) := by rw [bt5 p2 np2a]; exact ho4
          repeat walk_at "dl"
          refine q_ixo ho5 (at_nat (a := setD (ss[k]'hk).1 (ss[k]'hk).2) rfl (by rw [List.getElem?_map, List.getElem?_eq_getElem hk]; rfl)) ?_
          repeat walk_at "dl"
          refine ⟨_, ho5, by rw [List.length_map]; omega, ?_⟩
          have hsk := hs.2 _ (List.getElem_mem hk)
          have f5 := fin2 x7 x8 x9 x10 p3 (ss ++ [((ss[k]'hk).1, 1)]) (O5.up p2 (.lst (setsL ss ++ [setD (ss[k]'hk).1 1]))) ⟨by rw [List.length_append]; show ss.length + 1 ≤ most; omega, fun s h => by
            rcases List.mem_append.mp h with h | h
            · exact hs.2 s h
            · rw [List.mem_singleton.mp h]; exact ⟨⟨hsk.1.1, hsk.1.2.1, by show (1 : Int) ≤ 1; decide⟩, hsk.2⟩⟩ (by rw [Opens.up_same]; unfold setsL; rw [List.map_append]; rfl) ((b5.ext (Opens.up_ne (Ne.symm np2a))).le (by omega)) (((kp.but bt4).but bt5).up o2)
          repeat first | ((with_reducible show WSs _ _ _ _ _); exact f5) | walk_at "dl"
        · repeat first | ((with_reducible show WSs _ _ _ _ _); exact fin2 x7 x8 x9 x10 p3 ss O4 hs ho4 (b4.le (by omega)) (kp.but bt4)) | walk_at "dl"
  refine ws_while (fun m ρ' O' => ∃ (x7 x8 x9 x10 : Option D) (p3 : Addr) (ss : List (List Int × Int)) (ws : List (Nat × Nat)), ρ' = [some (.raw (.ref a)), some (.int (many : Int)), some (.int (most : Int)), some (tupI ev), some (.lst (zs.map D.int)), some (.raw (.ref p2)), some (.raw (.ref p3)), x7, x8, x9, x10] ∧ m = wsum ws ∧ m ≤ 2 * many - 1 ∧ (∀ p ∈ ws, p.1 < p.2 ∧ p.2 ≤ many) ∧ SSo ev most ss ∧ ws.length ≤ 20 - m ∧ O' p2 = some (.lst (setsL ss)) ∧ O' p3 = some (.lst (ws.map pN)) ∧ p3 ≠ a ∧ p3 ≠ p2 ∧ O p3 = none ∧ Bx a (n + 308 + 4 * (2 * many - 1 - m)) O' ∧ Keep a O O') (2 * many - 1)
    ⟨none, none, none, none, p3, [], [(0, many)], rfl, by show _ = 2 * (many - 0) - 1 + 0; omega, Nat.le_refl _, (fun p h => by rw [List.mem_singleton.mp h]; exact ⟨by show 0 < many; omega, Nat.le_refl _⟩), ⟨Nat.zero_le _, fun s h => nomatch h⟩, by show 1 ≤ _; omega, by rw [Opens.up_ne (Ne.symm np32), Opens.up_same]; rfl, by rw [Opens.up_same]; rfl, np3a, np32, o3, (b2.ext (by rw [Opens.up_ne (Ne.symm np3a), Opens.up_ne (Ne.symm np2a)])).le (by omega), (k2.up o2).up o3⟩ fun m ρ' O' w => ?_
  obtain ⟨x7, x8, x9, x10, p3, ss, ws, rfl, rfl, w2, w3, w4, w6, w7, w8, w9, w10, w11, w12, w13⟩ := w
  repeat walk_at "dl"
  refine ⟨p3, _, rfl, w8, lay_pN ws, rfl, ?_⟩
  cases hws : ws with
  | nil =>
    subst hws
    repeat first | ((with_reducible show WSs _ _ _ _ _); exact fin x7 x8 x9 x10 p3 ss O' w4 w7 (w12.le (by omega)) w13) | walk_at "dl"
  | cons q0 qr =>
    rw [← hws]
    have e1 : (!(ws.map pN).isEmpty) = true := by rw [hws]; rfl
    have hpos : 0 < ws.length := by rw [hws]; exact Nat.succ_pos _
    rw [e1]
    repeat walk_at "dl"
    refine ⟨_, w7, ?_⟩
    repeat walk_at "dl"
    refine if2 (fun hlt => ?_) (fun hlt => ?_)
    case refine_2 =>
      repeat first | ((with_reducible show WSs _ _ _ _ _); exact fin x7 x8 x9 x10 p3 ss O' w4 w7 (w12.le (by omega)) w13) | walk_at "dl"
    have hlt : ((setsL ss).length : Int) < (most : Int) := of_decide_eq_true hlt
    rw [List.length_map] at hlt
    repeat walk_at "dl"
    refine ⟨p3, _, rfl, w8, ?_⟩
    repeat walk_at "dl"
    refine ⟨_, w8, ?_⟩
    repeat walk_at "dl"
    refine ⟨a, _, _, rfl, w12, by omega, by rw [List.length_map]; omega, by rw [List.length_map]; omega, fun r O4 r0 r1 b4 bt4 => ?_⟩
    rw [List.length_map] at r1
    obtain ⟨k, rfl⟩ := Int.eq_ofNat_of_zero_le r0
    have hk : k < ws.length := by omega
    have hgk := List.getElem?_eq_getElem hk
    have hwk := w3 _ (List.getElem_mem hk)
    have hsum := wsum_erase hgk
    generalize ws[k]'hk = pr at *
    obtain ⟨lo, hi⟩ := pr
    have hwk : lo < hi ∧ hi ≤ many := hwk
    have hsum : wsum (ws.eraseIdx k) + (2 * (hi - lo) - 1) = wsum ws := hsum
    have hle : (ws.eraseIdx k).length + 1 = ws.length := by rw [List.length_eraseIdx_of_lt hk]; omega
    refine ⟨ws.map pN, k, pN (lo, hi), by rw [bt4 p3 w9]; exact w8, rfl, by rw [List.length_map]; omega, by rw [List.getElem?_map, hgk]; rfl, ?_⟩
    have er : (ws.map pN).eraseIdx k = (ws.eraseIdx k).map pN := map_erase
    rw [er]
    obtain ⟨O5, hO5⟩ : ∃ O5, O5 = O4.up p3 (.lst ((ws.eraseIdx k).map pN)) := ⟨_, rfl⟩
    rw [← hO5]
    have c7 : O5 p2 = some (.lst (setsL ss)) := by rw [hO5, Opens.up_ne (Ne.symm w10), bt4 p2 np2a]; exact w7
    have c8 : O5 p3 = some (.lst ((ws.eraseIdx k).map pN)) := by rw [hO5, Opens.up_same]
    have c12 := b4.ext (O' := O5) (by rw [hO5, Opens.up_ne (Ne.symm w9)])
    have c13 : Keep a O O5 := by rw [hO5]; exact (w13.but bt4).up w11
    have win : ∀ p ∈ ws.eraseIdx k, p.1 < p.2 ∧ p.2 ≤ many := fun p hp => w3 p (List.mem_of_mem_eraseIdx hp)
    have step2 : ∀ (Z : EndsD) (ss' : List (List Int × Int)) (x9 : Option D) (O6 : Opens), SSo ev most ss' → O6 p2 = some (.lst (setsL ss')) → O6 p3 = some (.lst ((ws.eraseIdx k).map pN)) → Bx a (n + 308 + 4 * (2 * many - 1 - wsum ws) + 3) O6 → Keep a O O6 →
        (∀ (x9 : Option D) (p4 : Addr) (ws' : List (Nat × Nat)) (O7 : Opens), wsum ws' + 1 = wsum ws → (∀ p ∈ ws', p.1 < p.2 ∧ p.2 ≤ many) → ws'.length ≤ 20 - wsum ws' → O7 p2 = some (.lst (setsL ss')) → O7 p4 = some (.lst (ws'.map pN)) → p4 ≠ a → p4 ≠ p2 → O p4 = none → Bx a (n + 308 + 4 * (2 * many - 1 - wsum ws')) O7 → Keep a O O7 → Z.nx [some (.raw (.ref a)), some (.int (many : Int)), some (.int (most : Int)), some (tupI ev), some (.lst (zs.map D.int)), some (.raw (.ref p2)), some (.raw (.ref p4)), some (.int (lo : Int)), some (.int (hi : Int)), x9, x10] O7) →
        WSs (bodyG M NNe (defScope (topS 64)) 3 F Ed) ((whB ((defBody (topS 64)).drop 2)).drop 2) [some (.raw (.ref a)), some (.int (many : Int)), some (.int (most : Int)), some (tupI ev), some (.lst (zs.map D.int)), some (.raw (.ref p2)), some (.raw (.ref p3)), some (.int (lo : Int)), some (.int (hi : Int)), x9, x10] O6 Z := by
      intro Z ss' x9 O6 hs d7 d8 d12 d13 hZ
      repeat walk_at "dl"
      refine if2 (fun hl => ?_) (fun hl => ?_)
      · have hl : (1 : Int) < (hi : Int) - (lo : Int) := of_decide_eq_true hl
        repeat walk_at "dl"
        refine ⟨a, _, _, rfl, d12, by omega, by omega, by omega, fun r2 O7 r20 r21 b7 bt7 => ?_⟩
        obtain ⟨k2, rfl⟩ := Int.eq_ofNat_of_zero_le r20
        have e7 : O7 p3 = some (.lst ((ws.eraseIdx k).map pN)) := by rw [bt7 p3 w9]; exact d8
        repeat walk_at "dl"
        rw [show (lo : Int) + 1 + (k2 : Int) = ((lo + 1 + k2 : Nat) : Int) by omega]
        refine ⟨p3, _, _, rfl, e7, rfl, by rw [List.length_map]; show _ + 2 ≤ _; omega, fun p4 hp4 => ?_⟩
        have n4a : p4 ≠ a := fun z => by obtain ⟨L, h1, _⟩ := b7; rw [z, h1] at hp4; cases hp4
        have n42 : p4 ≠ p2 := fun z => by rw [z, bt7 p2 np2a, d7] at hp4; cases hp4
        have k7 := d13.but bt7
        have o4 : O p4 = none := keep_none k7 hp4 n4a
        repeat walk_at "dl"
        have ew : wsum (ws.eraseIdx k ++ [(lo, lo + 1 + k2), (lo + 1 + k2, hi)]) + 1 = wsum ws := by
          rw [wsum_app]
          show wsum (ws.eraseIdx k) + ((2 * (lo + 1 + k2 - lo) - 1) + ((2 * (hi - (lo + 1 + k2)) - 1) + 0)) + 1 = _
          omega
        refine hZ _ p4 (ws.eraseIdx k ++ [(lo, lo + 1 + k2), (lo + 1 + k2, hi)]) _ ew (fun p hp => ?_) (by rw [List.length_append]; show _ + 2 ≤ _; omega) (by rw [Opens.up_ne (Ne.symm n42), bt7 p2 np2a]; exact d7) (by rw [Opens.up_same, List.map_append]; rfl) n4a n42 o4 ((b7.ext (Opens.up_ne (Ne.symm n4a))).le (by omega)) (k7.up o4)
        rcases List.mem_append.mp hp with h | h
        · exact win p h
        · rcases List.mem_cons.mp h with rfl | h
          · show lo < lo + 1 + k2 ∧ lo + 1 + k2 ≤ many; omega
          · rw [List.mem_singleton.mp h]; show lo + 1 + k2 < hi ∧ hi ≤ many; omega
      · have hl : ¬ (1 : Int) < (hi : Int) - (lo : Int) := of_decide_eq_false hl
        repeat walk_at "dl"
        exact hZ _ p3 (ws.eraseIdx k) O6 (by omega) win (by omega) d7 d8 w9 w10 w11 (d12.le (by omega)) d13
    repeat walk_at "dl"
    refine ⟨a, _, _, rfl, c12, by omega, by decide, by decide, fun r1' O6 r10 r11 b6 bt6 => ?_⟩
    have d7 : O6 p2 = some (.lst (setsL ss)) := by rw [bt6 p2 np2a]; exact c7
    have d8 : O6 p3 = some (.lst ((ws.eraseIdx k).map pN)) := by rw [bt6 p3 w9]; exact c8
    have d13 := c13.but bt6
    repeat walk_at "dl"
    refine if2 (fun hg => ?_) (fun hg => ?_)
    · repeat walk_at "dl"
      refine ⟨p2, _, rfl, d7, ?_⟩
      repeat walk_at "dl"
      rw [cutD_both (Nat.le_of_lt hwk.1) (by rw [List.length_map, hzl]; exact hwk.2), ← List.map_drop, ← List.map_take]
      refine ⟨(zs.drop lo).take (hi - lo), rfl, fun ms pm psd => ?_⟩
      have hlen : ((zs.drop lo).take (hi - lo)).length = hi - lo := by rw [List.length_take, List.length_drop, hzl]; omega
      obtain ⟨hpt, hnd⟩ := sorted_part (zs := (zs.drop lo).take (hi - lo)) hev (fun z h => hsub z (List.mem_of_mem_drop (List.mem_of_mem_take h))) ((hzn.sublist (List.drop_sublist _ _)).sublist (List.take_sublist _ _)) (fun z => by rw [z] at hlen; simp at hlen; omega) pm psd
      have hml : ms.length ≤ 8 := by rw [pm.length_eq, hlen]; omega
      repeat walk_at "dl"
      refine ⟨a, _, _, rfl, b6, by omega, by decide, by decide, fun h O7 h0 h1 b7 bt7 => ?_⟩
      repeat walk_at "dl"
      refine ⟨_, by rw [bt7 p2 np2a]; exact d7, by rw [List.length_map]; omega, ?_⟩
      have f5 := fun Z x9 => step2 Z (ss ++ [(ms, 1 + h)]) x9 (O7.up p2 (.lst (setsL ss ++ [setD ms (1 + h)]))) ⟨by rw [List.length_append]; show ss.length + 1 ≤ most; omega, fun s hs => by
        rcases List.mem_append.mp hs with hs | hs
        · exact w4.2 s hs
        · rw [List.mem_singleton.mp hs]; exact ⟨⟨hpt, hnd, by show 1 ≤ 1 + h; omega⟩, hml⟩⟩ (by rw [Opens.up_same]; unfold setsL; rw [List.map_append]; rfl) (by rw [Opens.up_ne w10, bt7 p3 w9]; exact d8) ((b7.ext (Opens.up_ne (Ne.symm np2a))).le (by omega)) ((d13.but bt7).up o2)
      repeat first | ((with_reducible show WSs _ _ _ _ _); refine f5 _ _ ?_) | walk_at "dl"
      exact fun x9 p4 ws' O8 a1 a2 a3 a4 a5 a6 a7 a8 a9 a10 => ⟨wsum ws', by omega, _, _, _, _, p4, _, ws', rfl, rfl, by omega, a2, ⟨by rw [List.length_append]; show ss.length + 1 ≤ most; omega, fun s hs => by
        rcases List.mem_append.mp hs with hs | hs
        · exact w4.2 s hs
        · rw [List.mem_singleton.mp hs]; exact ⟨⟨hpt, hnd, by show 1 ≤ 1 + h; omega⟩, hml⟩⟩, a3, a4, a5, a6, a7, a8, a9, a10⟩
    · have f5 := fun Z x9 => step2 Z ss x9 O6 w4 d7 d8 (b6.le (by omega)) d13
      repeat first | ((with_reducible show WSs _ _ _ _ _); refine f5 _ _ ?_) | walk_at "dl"
      exact fun x9 p4 ws' O8 a1 a2 a3 a4 a5 a6 a7 a8 a9 a10 => ⟨wsum ws', by omega, _, _, _, _, p4, _, ws', rfl, rfl, by omega, a2, w4, a3, a4, a5, a6, a7, a8, a9, a10⟩
end
/-! K30X: bars, plainly. -/
section
open PySem PySem.Spec PyProof.Rows L2 DL PySem.NumText
/-- five numbers that are a bar -/
theorem isBar5 {ss : List (List Int)} {i j : Nat} {a b e : Int} : isBarL ss [(i : Int), (j : Int), a, b, e] = true ↔ i < ss.length ∧ j < ss.length ∧ a ∈ ss.getD i [] ∧ a ∉ ss.getD j [] ∧ b ∈ ss.getD j [] ∧ b ∉ ss.getD i [] ∧ e ∈ ss.getD i [] ∧ e ∈ ss.getD j [] := by
  have e1 : isBarL ss [(i : Int), (j : Int), a, b, e] = (decide (0 ≤ (i : Int)) && decide ((i : Int) < ss.length) && (decide (0 ≤ (j : Int)) && decide ((j : Int) < ss.length)) && (decide (a ∈ ss.getD i []) && !decide (a ∈ ss.getD j []) && decide (b ∈ ss.getD j []) && !decide (b ∈ ss.getD i []) && (decide (e ∈ ss.getD i []) && decide (e ∈ ss.getD j [])))) := rfl
  rw [e1]
  simp only [Bool.and_eq_true, decide_eq_true_eq, Bool.not_eq_true', decide_eq_false_iff_not]
  constructor
  · rintro ⟨⟨⟨h1, h2⟩, h3, h4⟩, ⟨⟨⟨h5, h6⟩, h7⟩, h8⟩, h9, h10⟩
    exact ⟨by omega, by omega, h5, h6, h7, h8, h9, h10⟩
  · rintro ⟨h1, h2, h5, h6, h7, h8, h9, h10⟩
    exact ⟨⟨⟨by omega, by omega⟩, by omega, by omega⟩, ⟨⟨⟨h5, h6⟩, h7⟩, h8⟩, h9, h10⟩
theorem bar_nat {ss : List (List Int)} {l : List Int} (h : isBarL ss l = true) : ∃ (i j : Nat) (a b e : Int), l = [(i : Int), (j : Int), a, b, e] := by
  obtain ⟨i, j, a, b, e, rfl⟩ := len5 (isBarL_len h)
  have e1 : isBarL ss [i, j, a, b, e] = (decide (0 ≤ i) && decide (i < (ss.length : Int)) && (decide (0 ≤ j) && decide (j < (ss.length : Int))) && (decide (a ∈ ss.getD i.toNat []) && !decide (a ∈ ss.getD j.toNat []) && decide (b ∈ ss.getD j.toNat []) && !decide (b ∈ ss.getD i.toNat []) && (decide (e ∈ ss.getD i.toNat []) && decide (e ∈ ss.getD j.toNat [])))) := rfl
  rw [e1] at h
  simp only [Bool.and_eq_true, decide_eq_true_eq] at h
  obtain ⟨i', rfl⟩ := Int.eq_ofNat_of_zero_le h.1.1.1
  obtain ⟨j', rfl⟩ := Int.eq_ofNat_of_zero_le h.1.2.1
  exact ⟨i', j', a, b, e, rfl⟩
theorem mem_bars {ss : List (List Int)} {l : List Int} : l ∈ barsL ss ↔ isBarL ss l = true := by
  constructor
  · intro h
    unfold barsL barsJ barsC barsB barsA at h
    obtain ⟨i, hi, h⟩ := List.mem_flatMap.mp h
    obtain ⟨j, hj, h⟩ := List.mem_flatMap.mp h
    obtain ⟨a, ha, h⟩ := List.mem_flatMap.mp h
    obtain ⟨b, hb, h⟩ := List.mem_flatMap.mp h
    obtain ⟨e, he, rfl⟩ := List.mem_map.mp h
    obtain ⟨a1, a2⟩ := List.mem_filter.mp ha
    obtain ⟨b1, b2⟩ := List.mem_filter.mp hb
    obtain ⟨c1, c2⟩ := List.mem_filter.mp he
    exact isBar5.mpr ⟨List.mem_range.mp hi, List.mem_range.mp hj, a1, by simpa using a2, b1, by simpa using b2, c1, by simpa using c2⟩
  · intro h
    obtain ⟨i, j, a, b, e, rfl⟩ := bar_nat h
    obtain ⟨h1, h2, h3, h4, h5, h6, h7, h8⟩ := isBar5.mp h
    unfold barsL barsJ barsC barsB barsA
    exact List.mem_flatMap.mpr ⟨i, List.mem_range.mpr h1, List.mem_flatMap.mpr ⟨j, List.mem_range.mpr h2, List.mem_flatMap.mpr ⟨a, List.mem_filter.mpr ⟨h3, by simpa using h4⟩, List.mem_flatMap.mpr ⟨b, List.mem_filter.mpr ⟨h5, by simpa using h6⟩, List.mem_map.mpr ⟨e, List.mem_filter.mpr ⟨h7, by simpa using h8⟩, rfl⟩⟩⟩⟩⟩
theorem fil_lt {l : List Int} {p : Int → Bool} {a : Int} (h : a ∈ l) (hp : p a = false) : (l.filter p).length < l.length := by
  induction l with
  | nil => cases h
  | cons x l ih =>
    rcases List.mem_cons.mp h with rfl | h
    · rw [List.filter_cons, if_neg (by rw [hp]; decide)]
      exact Nat.lt_succ_of_le (List.length_filter_le _ _)
    · rw [List.filter_cons]
      split
      · exact Nat.succ_lt_succ (ih h)
      · exact Nat.lt_succ_of_lt (ih h)
theorem cross_of {one other : List Int} {a b e : Int} (n : one.Nodup) (h1 : a ∈ one) (h2 : a ∉ other) (h3 : b ∈ other) (h4 : b ∉ one) (h5 : e ∈ one) (h6 : e ∈ other) : crossB one other = true := by
  unfold crossB
  rw [Bool.and_eq_true]
  refine ⟨decide_eq_true (List.length_pos_of_mem (List.mem_filter.mpr ⟨h5, decide_eq_true h6⟩)), decide_eq_true ?_⟩
  have l1 : (one.filter fun x => decide (x ∈ other)).length < one.length := fil_lt h1 (decide_eq_false h2)
  have l2 : (one.filter fun x => decide (x ∈ other)).length ≤ (other.filter fun x => decide (x ≠ b)).length := by
    refine List.Nodup.length_le_of_subset (n.sublist List.filter_sublist) fun x hx => ?_
    obtain ⟨k1, k2⟩ := List.mem_filter.mp hx
    refine List.mem_filter.mpr ⟨of_decide_eq_true k2, decide_eq_true fun z => ?_⟩
    rw [z] at k1
    exact h4 k1
  have l3 : (other.filter fun x => decide (x ≠ b)).length < other.length := fil_lt h3 (by simp)
  omega
theorem nd_get {ss : List (List Int × Int)} (h : ∀ s ∈ ss, s.1.Nodup) (i : Nat) : ((ss.map (·.1)).getD i []).Nodup := by
  rw [List.getD_eq_getElem?_getD, List.getElem?_map]
  cases w : ss[i]? with
  | none => exact List.nodup_nil
  | some s => exact h s (List.mem_of_getElem? w)
theorem in_cross {ss : List (List Int)} {i j : Nat} (hij : i < j) (hj : j < ss.length) (h : crossB (ss.getD i []) (ss.getD j []) = true) : crossP ss ≠ [] := by
  intro z
  have : [(i : Int), (j : Int)] ∈ crossP ss := by
    unfold crossP
    exact List.mem_flatMap.mpr ⟨j, List.mem_range.mpr hj, List.mem_map.mpr ⟨i, List.mem_filter.mpr ⟨List.mem_range.mpr hij, h⟩, rfl⟩⟩
  rw [z] at this
  cases this
theorem cross_some {g : Fam} (h : SetsN g.ss) {l : List Int} (hb : isBarL (fSets g) l = true) : crossP (fSets g) ≠ [] := by
  obtain ⟨i, j, a, b, e, rfl⟩ := bar_nat hb
  obtain ⟨h1, h2, h3, h4, h5, h6, h7, h8⟩ := isBar5.mp hb
  have n1 := nd_get h.nd i
  have n2 := nd_get h.nd j
  rcases Nat.lt_trichotomy i j with hij | hij | hij
  · exact in_cross hij h2 (cross_of n1 h3 h4 h5 h6 h7 h8)
  · subst hij; exact absurd h3 h4
  · exact in_cross hij h1 (cross_of n2 h5 h6 h3 h4 h8 h7)
theorem head_in {l : List Int} (h : l ≠ []) : l.headD 0 ∈ l := by
  cases l with
  | nil => exact absurd rfl h
  | cons a r => exact List.mem_cons_self
theorem bar_right {g : Fam} (h : SetsN g.ss) (hc : crossP (fSets g) ≠ []) : ∃ l, barD g = tupI l ∧ isBarL (fSets g) l = true := by
  unfold barD
  rw [if_neg hc]
  refine ⟨_, rfl, ?_⟩
  obtain ⟨i, j, hm, hij, hj, hcr⟩ := crossP_mem (minL_ok hc).1
  rw [hm]
  have e0 : (([(i : Int), (j : Int)] : List Int).getD 0 0).toNat = i := Int.toNat_natCast i
  have e1 : (([(i : Int), (j : Int)] : List Int).getD 1 0).toNat = j := Int.toNat_natCast j
  rw [e0, e1]
  obtain ⟨n1, n2, n3⟩ := cross_ne (nd_get h.nd i) (nd_get h.nd j) hcr
  have m1 := List.mem_filter.mp (head_in n1)
  have m2 := List.mem_filter.mp (head_in n2)
  have m3 := List.mem_filter.mp (head_in n3)
  exact isBar5.mpr ⟨Nat.lt_trans hij hj, hj, m1.1, by simpa using m1.2, m2.1, by simpa using m2.2, m3.1, by simpa using m3.2⟩
theorem none_iff {g : Fam} (h : SetsN g.ss) : crossP (fSets g) = [] ↔ barsL (fSets g) = [] := by
  constructor
  · intro z
    cases w : barsL (fSets g) with
    | nil => rfl
    | cons l r => exact absurd z (cross_some h (mem_bars.mp (by rw [w]; exact List.mem_cons_self)))
  · intro z
    cases w : crossP (fSets g) with
    | nil => rfl
    | cons l r =>
      obtain ⟨m, _, hb⟩ := bar_right h (by rw [w]; exact List.cons_ne_nil _ _)
      have := mem_bars.mpr hb
      rw [z] at this
      cases this
/-- small numbers as texts -/
theorem str_small : ∀ n : Nat, n < 100 → (Str.ofString (toString (n : Int))).length ≤ 1000 ∧ PyData.strOk (Str.ofString (toString (n : Int))) = true := by decide +kernel
/-- what stands in a bar -/
theorem bar_small {g : Fam} (G : GoodF g) {l : List Int} (hb : isBarL (fSets g) l = true) : ∀ x ∈ l, 0 ≤ x ∧ x ≤ 99 := by
  obtain ⟨i, j, a, b, e, rfl⟩ := bar_nat hb
  obtain ⟨h1, h2, h3, h4, h5, h6, h7, h8⟩ := isBar5.mp hb
  have hl := G.few.len
  rw [List.length_map] at h1 h2
  have mem : ∀ (k : Nat) (x : Int), x ∈ (fSets g).getD k [] → 0 ≤ x ∧ x ≤ 99 := fun k x hx => by
    rw [List.getD_eq_getElem?_getD, List.getElem?_map] at hx
    cases w : g.ss[k]? with
    | none => rw [w] at hx; cases hx
    | some s =>
      rw [w] at hx
      exact (G.sets s (List.mem_of_getElem? w)).1.asc.in_ x hx
  intro x hx
  rcases List.mem_cons.mp hx with rfl | hx
  · omega
  rcases List.mem_cons.mp hx with rfl | hx
  · omega
  rcases List.mem_cons.mp hx with rfl | hx
  · exact mem i _ h3
  rcases List.mem_cons.mp hx with rfl | hx
  · exact mem j _ h5
  rw [List.mem_singleton.mp hx]
  exact mem i _ h7
end
section
open PySem PySem.Spec PyProof.Rows L2 DL PySem.NumText
local macro_rules | `(tactic| walk_at "dlE") => `(tactic| ((with_reducible show We _ (Expr.Dict [some _] [_] _) _ _ _); refine we_dic1 ?_))
structure FrDefs (M : Mo) (CB CF : Addr) : Prop where
  take : DefD M "_law_take" (topS 50) ["box", "many"] 1 spTake
  mixed : DefD M "_law_mixed" (topS 51) ["box", "items"] 2 spMixed
  same : DefD M "_law_same" (topS 52) ["told", "due"] 7 (spSame 6)
  told : DefD M "_law_told" (topS 59) ["door", "ask", "by_name"] 12 (spTold CB CF)
  refused : DefD M "_law_refused" (topS 60) ["door", "ask", "word", "at", "by_name"] 13 spRef
  tsame : DefD M "_law_told_same" (topS 61) ["door", "ask", "due", "by_name"] 13 spTS
  f : DefD M "_law_f" (topS 62) ["family"] 1 spF
  isbar : DefD M "_law_is_bar" (topS 65) ["family", "value"] 1 spLBar
  bars : DefD M "_law_bars" (topS 66) ["family"] 1 spBars
  lack : DefD M "_law_lack" (topS 67) ["family", "bar"] 2 spLLack
abbrev NFR : List Str := ["box", "family", "by_name", "f", "own", "told", "events", "many", "values", "bar", "k", "value", "due"]
def spFR : SpD := fun ds O Q _ => ∃ (a : Addr) (n : Nat) (g : Fam) (b : Bool), ds = [.raw (.ref a), lawFam g, .bl b] ∧ Bx a n O ∧ n + 80000 ≤ 1000000 ∧ GoodF g ∧ ∀ O', Bx a (n + 74000) O' → But a O O' → Q (.bl true) O'
theorem lay_tups (ls : List (List Int)) : ∀ d ∈ ls.map tupI, Lay 60 d := fun d hd => by
  obtain ⟨y, _, rfl⟩ := List.mem_map.mp hd
  exact Lay.le (lay_tup (n := 0) lays_ints) (by decide)
theorem own_nil {ls : List (List Int)} : eqD (.lst (ls.map tupI)) (.lst []) = ls.isEmpty := by
  cases ls with
  | nil => rfl
  | cons a r => rw [List.map_cons, eqD_lst, eqDs_cn]; rfl
theorem barD_non {g : Fam} : (∀ v, barD g ≠ .raw v) ∧ isNon (barD g) = decide (crossP (fSets g) = []) := by
  unfold barD
  by_cases h : crossP (g.ss.map (·.1)) = []
  · rw [if_pos h, decide_eq_true h]; exact ⟨fun v e => (nomatch e), rfl⟩
  · rw [if_neg h, decide_eq_false h]; exact ⟨fun v e => (nomatch e), rfl⟩
theorem barD_plain {g : Fam} (h : SetsN g.ss) : Plain 6 (barD g) := by
  by_cases hc : crossP (fSets g) = []
  · unfold barD; rw [if_pos hc]; exact .non
  · obtain ⟨l, e, hb⟩ := bar_right h hc
    rw [e]
    refine .tup (by rw [List.length_map, isBarL_len hb]; decide) fun x hx => ?_
    obtain ⟨i, _, rfl⟩ := List.mem_map.mp hx
    exact .int
theorem bar_val2 {O : Opens} {l : List Int} (h : l.length ≤ 100) : Val2 O (tupI l) := by
  refine ⟨⟨⟨_, rfl⟩, fun xs e => ?_⟩, fun xs e x hx => ?_⟩
  · cases e
    refine ⟨by rw [List.length_map]; exact h, fun x hx => ?_⟩
    obtain ⟨i, _, rfl⟩ := List.mem_map.mp hx
    exact ⟨_, rfl⟩
  · cases e
    obtain ⟨i, _, rfl⟩ := List.mem_map.mp hx
    exact lay_int
theorem FlatOk.lay {x : D} (h : FlatOk x) : Lay 60 x := by
  obtain ⟨h1, h2⟩ := h
  cases x with
  | non => exact lay_non
  | bl b => exact lay_bl
  | int b => exact lay_int
  | str z => exact lay_str (h2 z rfl).2
  | _ => cases h1
theorem V30.val {O : Opens} {d : D} (h : V30 O d) : Val2 O d := by
  rcases h with h | ⟨xs, rfl, hl, hx⟩ | ⟨xs, rfl, hl, hx⟩ | ⟨q, rfl, hq⟩
  · refine ⟨h.val, fun xs e => ?_⟩
    subst e
    cases h.1
  · refine ⟨⟨⟨_, rfl⟩, fun ys e => ?_⟩, fun ys e x hm => ?_⟩
    · cases e
      exact ⟨hl, fun x hm => by obtain ⟨t, ht, _⟩ := flat_ty (O := O) (hx x hm).1; exact ⟨t, ht⟩⟩
    · cases e
      exact (hx x hm).lay
  · exact ⟨⟨⟨_, rfl⟩, fun ys e => by cases e⟩, fun ys e => by cases e⟩
  · exact ⟨⟨⟨_, dic_ty hq⟩, fun ys e => by cases e⟩, fun ys e => by cases e⟩
theorem bar_of {ss : List (List Int)} {d : D} (h : isBarD ss d = true) : ∃ l, d = tupI l ∧ isBarL ss l = true := by
  cases d with
  | tup xs =>
    have h : (match intsD xs with | some l => isBarL ss l | none => false) = true := h
    cases w : intsD xs with
    | none => rw [w] at h; cases h
    | some l =>
      rw [w] at h
      exact ⟨l, by rw [intsD_some w], h⟩
  | _ => cases h
theorem fr_end {M : Mo} {CB CF : Addr} {F : DL.Fr} {Ed : XD → Opens → Prop} {Z : EndsD} {O : Opens} {b : Bool} {a qf : Addr} {g : Fam} {vals : List D} {x4 x5 x6 x7 x9 x10 x11 x12 : Option D} (B : Blt M) (Fd : FrDefs M CB CF) (G : GoodF g) (hf : O qf = some (.dic famK (famE g))) (hv : ∀ v ∈ vals, V30 O v) (q : Z.rt (.bl true) O) :
    WSs (bodyG M NFR (defScope (topS 68)) 13 F Ed) ((defBody (topS 68)).drop 7) [some (.raw (.ref a)), some (lawFam g), some (.bl b), some (.raw (.ref qf)), x4, x5, x6, x7, some (.lst vals), x9, x10, x11, x12] O Z := by
  obtain ⟨hta, hmi, hsa, hto, hre, hts, hfm, hib, hba, hla⟩ := Fd
  have hN := G.setsN
  repeat walk_at "dl"
  refine ws_forI rfl ?_
  refine pi_ls ?_
  repeat walk_at "dl"
  refine ⟨_, .inl rfl, for_stateD vals (fun i ρ' O' => (∃ b x11 x12, ρ' = [some (.raw (.ref a)), some (lawFam g), some (.bl b), some (.raw (.ref qf)), x4, x5, x6, x7, some (.lst vals), x9, x10, x11, x12]) ∧ O = O') ⟨⟨_, _, _, rfl⟩, rfl⟩ (fun i v ρ' O' hi hx w => ?_) fun ρ' O' w => ?_⟩
  · obtain ⟨⟨b, x11, x12, rfl⟩, rfl⟩ := w
    have hvv := hv v (List.mem_of_getElem? hx)
    repeat walk_at "dl"
    refine ⟨g, v, rfl, hN, hvv.val, ?_⟩
    repeat walk_at "dl"
    refine ⟨b, qf, g, v, 1, _, rfl, hf, G.ok, hN, hvv, .inl ⟨rfl, rfl⟩, ?_⟩
    repeat walk_at "dl"
    have ef : g.ss.map (·.1) = fSets g := rfl
    rw [ef]
    cases hd : isBarD (fSets g) v with
    | true =>
      obtain ⟨l, rfl, hl⟩ := bar_of hd
      repeat walk_at "dl"
      refine ⟨g, l, rfl, hN, hl, ?_⟩
      repeat walk_at "dl"
      refine ⟨!b, qf, g, tupI l, 2, _, rfl, hf, G.ok, hN, hvv, .inr ⟨rfl, l, rfl, hl, rfl⟩, ?_⟩
      repeat walk_at "dl"
      exact ⟨⟨_, _, _, rfl⟩, rfl⟩
    | false =>
      repeat walk_at "dl"
      refine ⟨!b, qf, g, v, rfl, hf, G.ok, hN, hvv, hd, ?_⟩
      repeat walk_at "dl"
      exact ⟨⟨_, _, _, rfl⟩, rfl⟩
  · obtain ⟨⟨b, x11, x12, rfl⟩, rfl⟩ := w
    repeat walk_at "dl"
    exact q
end
section
open PySem PySem.Spec PyProof.Rows L2 DL PySem.NumText
/-! ### the values near a bar -/
structure SmT (n : Nat) (xs : List D) : Prop where
  len : xs.length ≤ n
  fl : ∀ x ∈ xs, FlatOk x
theorem FlatOk.int {i : Int} : FlatOk (.int i) := ⟨rfl, fun z e => by cases e⟩
theorem FlatOk.bl {b : Bool} : FlatOk (.bl b) := ⟨rfl, fun z e => by cases e⟩
theorem FlatOk.non : FlatOk .non := ⟨rfl, fun z e => by cases e⟩
theorem SmT.ints {n : Nat} {l : List Int} (h : l.length ≤ n) : SmT n (l.map D.int) := ⟨by rw [List.length_map]; exact h, fun x hx => by
  obtain ⟨i, _, rfl⟩ := List.mem_map.mp hx
  exact .int⟩
theorem SmT.one {x : D} (h : FlatOk x) : SmT 10 [x] := ⟨by show 1 ≤ 10; decide, fun y hy => by rw [List.mem_singleton.mp hy]; exact h⟩
theorem SmT.cut {n : Nat} {xs : List D} {lo hi : Option Int} (h : SmT n xs) : SmT n (DL.cutD xs lo hi) := by
  unfold DL.cutD
  refine ⟨Nat.le_trans ?_ h.len, fun x hx => h.fl x (List.mem_of_mem_drop (List.mem_of_mem_take hx))⟩
  rw [List.length_take, List.length_drop]; omega
theorem SmT.app {n m : Nat} {xs ys : List D} (h : SmT n xs) (k : SmT m ys) : SmT (n + m) (xs ++ ys) := ⟨by rw [List.length_append]; exact Nat.add_le_add h.len k.len, fun x hx => (List.mem_append.mp hx).elim (h.fl x) (k.fl x)⟩
theorem SmT.app2 {xs ys : List D} (h : SmT 10 xs) (k : SmT 10 ys) : SmT 20 (xs ++ ys) := h.app k
theorem SmT.app3 {xs ys zs : List D} (h : SmT 10 xs) (k : SmT 10 ys) (l : SmT 10 zs) : SmT 30 (xs ++ ys ++ zs) := (h.app k).app l
theorem q_add1 {a b : List D} {O : Opens} {Q : DK} (ha : SmT 10 a) (hb : SmT 10 b) (h : Q (.tup (a ++ b)) O) : BinQ .Add (.tup a) (.tup b) O Q := q_addt (Nat.le_trans (Nat.add_le_add ha.len hb.len) (by decide)) h
theorem q_add2 {a b : List D} {O : Opens} {Q : DK} (ha : SmT 20 a) (hb : SmT 10 b) (h : Q (.tup (a ++ b)) O) : BinQ .Add (.tup a) (.tup b) O Q := q_addt (Nat.le_trans (Nat.add_le_add ha.len hb.len) (by decide)) h
theorem V30.tp {n : Nat} {O : Opens} {xs : List D} (h : SmT n xs) (hn : n ≤ 100) : V30 O (.tup xs) := .inr (.inl ⟨xs, rfl, Nat.le_trans h.len hn, h.fl⟩)
theorem V30.ls {n : Nat} {O : Opens} {xs : List D} (h : SmT n xs) (hn : n ≤ 100) : V30 O (.lst xs) := .inr (.inr (.inl ⟨xs, rfl, Nat.le_trans h.len hn, h.fl⟩))
local macro_rules | `(tactic| walk_at "fl") => `(tactic| first | exact FlatOk.int | exact FlatOk.bl | exact FlatOk.non | assumption)
local macro_rules | `(tactic| walk_at "sm") => `(tactic| first | assumption | exact SmT.cut (by assumption) | exact SmT.one (by walk_at "fl"))
local macro_rules | `(tactic| walk_at "dlQ") => `(tactic| ((with_reducible show BinQ Operator.Add (D.tup _) (D.tup _) _ _); first | refine q_add1 (by walk_at "sm") (by walk_at "sm") ?_ | refine q_add2 (SmT.app2 (by walk_at "sm") (by walk_at "sm")) (by walk_at "sm") ?_))
local macro_rules | `(tactic| walk_at "v30") => `(tactic| first
  | exact V30.tp (n := 10) (by walk_at "sm") (by decide)
  | exact V30.ls (n := 10) (by walk_at "sm") (by decide)
  | exact V30.tp (n := 10) (SmT.ints (l := [_, _, _, _, _]) (Nat.le_of_ble_eq_true rfl)) (by decide)
  | exact V30.tp (n := 20) (SmT.app2 (by walk_at "sm") (by walk_at "sm")) (by decide)
  | exact V30.tp (n := 30) (SmT.app3 (by walk_at "sm") (by walk_at "sm") (by walk_at "sm")) (by decide))
theorem log_small {i : Int} (h0 : 0 ≤ i) (h1 : i ≤ 99) : i.natAbs.log2 < 1920 := by
  have h : i.natAbs < 2 ^ 7 := by show i.natAbs < 128; omega
  by_cases z : i.natAbs = 0
  · rw [z]; decide
  · exact (Nat.log2_lt z).mpr (Nat.lt_of_lt_of_le h (Nat.pow_le_pow_right (by decide) (by decide)))
theorem fr_vals {M : Mo} {CB CF : Addr} {F : DL.Fr} {Ed : XD → Opens → Prop} {Z : EndsD} {O : Opens} {b : Bool} {a qf : Addr} {n : Nat} {g : Fam} {vals0 : List D} {x5 x6 x7 x9 x10 x11 x12 : Option D} (B : Blt M) (Fd : FrDefs M CB CF) (G : GoodF g) (hf : O qf = some (.dic famK (famE g))) (hb : Bx a n O) (hn : n + 73800 ≤ 1000000) (hl0 : vals0.length ≤ 10) (hv : ∀ v ∈ vals0, V30 O v) (hqf : qf ≠ a) (hvb : ∀ v O', V30 O v → But a O O' → V30 O' v)
    (q : ∀ O', Bx a (n + 73740) O' → But a O O' → Z.rt (.bl true) O') :
    WSs (bodyG M NFR (defScope (topS 68)) 13 F Ed) ((defBody (topS 68)).drop 6) [some (.raw (.ref a)), some (lawFam g), some (.bl b), some (.raw (.ref qf)), some (.lst ((barsL (fSets g)).map tupI)), x5, x6, x7, some (.lst vals0), x9, x10, x11, x12] O Z := by
  obtain ⟨hta, hmi, hsa, hto, hre, hts, hfm, hib, hba, hla⟩ := id Fd
  have hsz : sizeLine = 16777216 := rfl
  have hN := G.setsN
  have hlen := lenL G.few
  repeat walk_at "dl"
  refine ws_forI rfl ?_
  refine pi_ls ?_
  repeat walk_at "dl"
  refine ⟨a, n, _, _, rfl, .inl rfl, lay_tups _, hb, by rw [List.length_map]; show n + (barsL (g.ss.map (·.1))).length ≤ _; omega, fun ys O1 hp b1 bt1 => ?_⟩
  rw [List.length_map] at b1
  obtain ⟨zs, hz, rfl⟩ := perm_map hp
  repeat walk_at "dl"
  rw [show (4 : Int) = ((4 : Nat) : Int) from rfl, cutD_take, ← List.map_take]
  have b1' : Bx a (n + 73728) O1 := b1.le (by show n + (barsL (g.ss.map (·.1))).length ≤ _; omega)
  refine ⟨_, .inl rfl, for_stateA (zs.take 4) tupI (fun i ρ' O' => (∃ vals x9 x10, ρ' = [some (.raw (.ref a)), some (lawFam g), some (.bl b), some (.raw (.ref qf)), some (.lst ((barsL (fSets g)).map tupI)), x5, x6, x7, some (.lst vals), x9, x10, x11, x12] ∧ vals.length ≤ 10 + 13 * i ∧ ∀ v ∈ vals, V30 O v) ∧ Bx a (n + 73728 + 2 * i) O' ∧ But a O O') ⟨⟨_, _, _, rfl, hl0, hv⟩, b1', bt1⟩ (fun i l ρ' O' hi hx w => ?_) fun ρ' O' w => ?_⟩
  · obtain ⟨⟨vals, x9, x10, rfl, v1, v2⟩, w2, w3⟩ := w
    have hi4 : i < 4 := by rw [List.length_take] at hi; omega
    have hlb : isBarL (fSets g) l = true := mem_bars.mp (hz.mem_iff.mp (List.mem_of_mem_take (List.mem_of_getElem? hx)))
    have sm := bar_small G hlb
    obtain ⟨i0, i1, i2, i3, i4, rfl⟩ := len5 (isBarL_len hlb)
    have hX : SmT 10 (List.map D.int [i0, i1, i2, i3, i4]) := SmT.ints (Nat.le_of_ble_eq_true rfl)
    repeat walk_at "dl"
    refine ⟨a, 5, _, rfl, w2, by omega, by decide, by decide, fun r O2 r0 r1 b2 bt2 => ?_⟩
    obtain ⟨k, rfl⟩ := Int.eq_ofNat_of_zero_le r0
    have hk : k < [i0, i1, i2, i3, i4].length := by show k < 5; omega
    have hkd : [i0, i1, i2, i3, i4].getD k 0 = [i0, i1, i2, i3, i4][k]'hk := by rw [List.getD_eq_getElem?_getD, List.getElem?_eq_getElem hk]; rfl
    have hkm : 0 ≤ [i0, i1, i2, i3, i4].getD k 0 ∧ [i0, i1, i2, i3, i4].getD k 0 ≤ 99 := by rw [hkd]; exact sm _ (List.getElem_mem hk)
    have hstr : FlatOk (.str (Str.ofString (toString ([i0, i1, i2, i3, i4].getD k 0)))) := by
      obtain ⟨m, hm⟩ := Int.eq_ofNat_of_zero_le hkm.1
      rw [hm]
      have := str_small m (by omega)
      exact ⟨rfl, fun z e => by cases e; exact this⟩
    repeat walk_at "dl"
    refine ⟨a, 99, _, rfl, b2, by omega, by decide, by decide, fun r2 O3 r20 r21 b3 bt3 => ?_⟩
    repeat walk_at "dl"
    refine q_addl (by show _ + 7 ≤ _; omega) ?_
    repeat walk_at "dl"
    refine q_ixt (at_getI rfl hk) ?_
    repeat walk_at "dl"
    refine q_stri (log_small hkm.1 hkm.2) ?_
    repeat walk_at "dl"
    refine q_addl ?_ ?_
    · rw [List.length_append]; show vals.length + 7 + 6 ≤ _; omega
    repeat walk_at "dl"
    refine ⟨⟨_, _, _, rfl, by rw [List.length_append, List.length_append]; show vals.length + 7 + 6 ≤ _; omega, fun v hv => ?_⟩, b3.le (by omega), (w3.trans bt2).trans bt3⟩
    rcases List.mem_append.mp hv with hv | hv
    · rcases List.mem_append.mp hv with hv | hv
      · exact v2 v hv
      · simp only [List.mem_cons, List.not_mem_nil, or_false] at hv
        rcases hv with rfl | rfl | rfl | rfl | rfl | rfl | rfl <;> walk_at "v30"
    · simp only [List.mem_cons, List.not_mem_nil, or_false] at hv
      rcases hv with rfl | rfl | rfl | rfl | rfl | rfl <;> walk_at "v30"
  · obtain ⟨⟨vals, x9, x10, rfl, v1, v2⟩, w2, w3⟩ := w
    refine fr_end B Fd G (by rw [w3 qf hqf]; exact hf) (fun v h => hvb v _ (v2 v h) w3) (q _ (w2.le ?_) w3)
    rw [List.length_take]; omega
end
section
open PySem PySem.Spec PyProof.Rows L2 DL PySem.NumText
local macro_rules | `(tactic| walk_at "dlE") => `(tactic| ((with_reducible show We _ (Expr.Dict [some _] [_] _) _ _ _); refine we_dic1 ?_))
local macro_rules | `(tactic| walk_at "dlS") => `(tactic| first
  | ((with_reducible show WS _ (Stmt.Assign [Expr.Name _ _] _ _) _ _ _); (refine ws_nm ?a ?v ?hq ?hs; (case a => rfl); (case v => walk_at "loc"); (case hs => (intro env he; rfl)))))
local macro_rules | `(tactic| walk_at "fl") => `(tactic| first | exact FlatOk.int | exact FlatOk.bl | exact FlatOk.non | assumption)
theorem last_at {l : List Int} (h : l ≠ []) : ∃ x : Int, atI (l.map D.int) (-1) = some (.int x) := by
  have hp : 0 < l.length := List.length_pos_iff.mpr h
  refine ⟨l[l.length - 1]'(by omega), ?_⟩
  unfold atI
  refine Option.bind_eq_some_iff.mpr ⟨l.length - 1, ?_, by rw [List.getElem?_map, List.getElem?_eq_getElem (by omega)]; rfl⟩
  unfold ixN
  rw [List.length_map]
  have h1 : (-1 : Int) + (l.length : Int) = ((l.length - 1 : Nat) : Int) := by omega
  simp
  omega
theorem V30.but {a : Addr} {O O' : Opens} {n : Nat} (hb : Bx a n O) (bt : But a O O') {v : D} (h : V30 O v) : V30 O' v := by
  rcases h with h | h | h | ⟨q, rfl, hq⟩
  · exact .inl h
  · exact .inr (.inl h)
  · exact .inr (.inr (.inl h))
  · obtain ⟨L, hL, _⟩ := hb
    have ne : q ≠ a := fun z => by rw [z, hL] at hq; cases hq
    exact .inr (.inr (.inr ⟨q, rfl, by rw [bt q ne]; exact hq⟩))
theorem sm_cons {n : Nat} {x : D} {xs : List D} (h : FlatOk x) (k : SmT n xs) : SmT (n + 1) (x :: xs) := ⟨Nat.succ_le_succ k.len, fun y hy => (List.mem_cons.mp hy).elim (fun e => e ▸ h) (k.fl y)⟩
theorem sm_nil : SmT 0 [] := ⟨Nat.le_refl _, fun x h => nomatch h⟩
local macro_rules | `(tactic| walk_at "smc") => `(tactic| first | exact sm_nil | exact sm_cons (by walk_at "fl") (by walk_at "smc"))
theorem fr_mid {M : Mo} {CB CF : Addr} {F : DL.Fr} {Ed : XD → Opens → Prop} {Z : EndsD} {O : Opens} {b : Bool} {a qf : Addr} {n : Nat} {g : Fam} {x6 x7 x8 x9 x10 x11 x12 : Option D} (B : Blt M) (Fd : FrDefs M CB CF) (G : GoodF g) (hf : O qf = some (.dic famK (famE g))) (hb : Bx a n O) (hn : n + 73800 ≤ 1000000) (hqf : qf ≠ a)
    (q : ∀ qd O', O qd = none → Bx a (n + 73740) O' → But a (O.up qd (.dic aK aE)) O' → Z.rt (.bl true) O') :
    WSs (bodyG M NFR (defScope (topS 68)) 13 F Ed) ((defBody (topS 68)).drop 3) [some (.raw (.ref a)), some (lawFam g), some (.bl b), some (.raw (.ref qf)), some (.lst ((barsL (fSets g)).map tupI)), some (.lst [.str "told", barD g, .lst [famD CF g], .bl true]), x6, x7, x8, x9, x10, x11, x12] O Z := by
  obtain ⟨hta, hmi, hsa, hto, hre, hts, hfm, hib, hba, hla⟩ := id Fd
  have hN := G.setsN
  have oa : O a ≠ none := by obtain ⟨L, h1, _⟩ := hb; rw [h1]; exact fun z => nomatch z
  repeat walk_at "dl"
  refine ⟨!b, qf, g, hf, G.ok, hN, .inl ⟨rfl, ?_⟩⟩
  repeat walk_at "dl"
  refine ⟨_, _, rfl, SameT.plain (barD_plain hN), ?_⟩
  repeat walk_at "dl"
  refine fun qd hqd => ?_
  repeat walk_at "dl"
  refine ⟨Opens.up_same, ?_⟩
  rw [Opens.up_up]
  repeat walk_at "dl"
  obtain ⟨lx, hlx⟩ := last_at G.ne
  have hd0 := head_at G.ne
  refine q_ixt hd0 ?_
  repeat walk_at "dl"
  refine q_ixt hd0 ?_
  repeat walk_at "dl"
  refine q_ixt hd0 ?_
  repeat walk_at "dl"
  refine q_ixt hd0 ?_
  repeat walk_at "dl"
  refine q_ixt hlx ?_
  repeat walk_at "dl"
  refine q_ixt hd0 ?_
  repeat walk_at "dl"
  refine q_ixt hd0 ?_
  repeat walk_at "dl"
  refine q_ixt hlx ?_
  repeat walk_at "dl"
  refine q_ixt hd0 ?_
  have hf' : (O.up qd (.dic aK aE)) qf = some (.dic famK (famE g)) := by
    rw [Opens.up_ne (fun z => by rw [← z, hf] at hqd; cases hqd)]; exact hf
  have hb' : Bx a n (O.up qd (.dic aK aE)) := hb.ext (Opens.up_ne (fun z => oa (z ▸ hqd)))
  have fv := fun vals0 x7 hl hv => fr_vals (Z := Z) (F := F) (Ed := Ed) (b := b) (x5 := some (.lst [.str "told", barD g, .lst [famD CF g], .bl true])) (x6 := some (tupI g.ev)) (x7 := x7) (x9 := x9) (x10 := x10) (x11 := x11) (x12 := x12) (vals0 := vals0) B Fd G hf' hb' hn hl hv hqf (fun v O' h bt => V30.but hb' bt h) fun O' bx bt => q qd O' hqd bx bt
  repeat first | ((with_reducible show WSs _ _ _ _ _); refine fv _ _ (Nat.le_of_ble_eq_true rfl) ?_) | walk_at "dl"
  intro v hv
  simp only [List.mem_cons, List.not_mem_nil, or_false] at hv
  rcases hv with rfl | rfl | rfl | rfl | rfl | rfl | rfl | rfl | rfl | rfl
  · exact .inl .non
  · exact .inl .int
  · exact .inl ⟨rfl, fun z e => by cases e; exact ⟨by decide +kernel, by decide +kernel⟩⟩
  · exact .inr (.inr (.inr ⟨qd, rfl, Opens.up_same⟩))
  · exact V30.tp (n := 0) (by walk_at "smc") (by decide)
  · exact V30.tp (n := 2) (by walk_at "smc") (by decide)
  · exact V30.tp (n := 5) (by walk_at "smc") (by decide)
  · exact V30.ls (n := 5) (by walk_at "smc") (by decide)
  · exact V30.tp (n := 5) (by walk_at "smc") (by decide)
  · exact V30.tp (n := 5) (by walk_at "smc") (by decide)
theorem ok_family_right {M : Mo} {CB CF : Addr} {f : Addr} {fd : FuncData} (B : Blt M) (Fd : FrDefs M CB CF) (hm : M.mg "_law_family_right" = some (.ref f)) (Fn : Fun M.K "_law_family_right" "_law_family_right" (topS 68) f fd) : DefD M "_law_family_right" (topS 68) ["box", "family", "by_name"] 14 spFR := by
  obtain ⟨hta, hmi, hsa, hto, hre, hts, hfm, hib, hba, hla⟩ := id Fd
  refine def_ok (N := NFR) hm Fn ⟨rfl, rfl, rfl, by decide +kernel, rfl, by decide +kernel, by decide +kernel⟩ (fun _ _ _ _ _ _ us hl => match us, hl with | [_, _, _], _ => rfl) (fun ds O Q E ⟨_, _, _, _, e, _⟩ => by rw [e]; rfl) fun F ds O Qd Ed ⟨a, n, g, b, e, hb, hn, G, q⟩ => ?_
  subst e
  refine wss_rt ?_
  have hsz : sizeLine = 16777216 := rfl
  have oa : O a ≠ none := by obtain ⟨L, h1, _⟩ := hb; rw [h1]; exact fun z => nomatch z
  have hN := G.setsN
  repeat walk_at "dl"
  refine ⟨g, rfl, fun qf hqf => ?_⟩
  have naf : a ≠ qf := fun z => oa (z ▸ hqf)
  repeat walk_at "dl"
  refine ⟨g, rfl, G.few, ?_⟩
  repeat walk_at "dl"
  refine ⟨b, qf, g, Opens.up_same, G.ok, hN, .inl ⟨rfl, ?_⟩⟩
  repeat walk_at "dl"
  refine q_isn barD_non.1 ?_
  rw [barD_non.2]
  repeat walk_at "dl"
  refine q_eqd (Lay.le (lay_lst (lay_tups _)) (by decide)) (lay_nil (n := 63)) ?_
  rw [own_nil]
  have e1 : decide (crossP (fSets g) = []) = (barsL (fSets g)).isEmpty := by
    cases w : barsL (fSets g) with
    | nil => rw [decide_eq_true ((none_iff hN).mpr w)]; rfl
    | cons x r => rw [decide_eq_false fun z => by have := (none_iff hN).mp z; rw [w] at this; cases this]; rfl
  rw [e1]
  refine q_ned lay_bl lay_bl ?_
  rw [eqD_bl, beq_self_eq_true]
  repeat walk_at "dl"
  refine q_ned (Lay.le (lay_lst (lay_tups _)) (by decide)) (lay_nil (n := 63)) ?_
  rw [own_nil]
  have mid := fr_mid (Z := { nx := fun _ O' => Qd .non O', rt := fun d O1 => ∃ O2, OLe O2 O1 ∧ Qd d O2 }) (O := O.up qf (.dic famK (famE g))) (b := b) (x6 := none) (x7 := none) (x8 := none) (x9 := none) (x10 := none) (x11 := none) (x12 := none) (F := F) (Ed := Ed) B Fd G Opens.up_same (hb.ext (Opens.up_ne naf)) (by omega) (Ne.symm naf) fun qd O' hqd bx bt => ?_
  · cases w : barsL (fSets g) with
    | nil =>
      rw [← w]
      have ew : (barsL (fSets g)).isEmpty = true := by rw [w]; rfl
      rw [ew]
      repeat first | ((with_reducible show WSs _ _ _ _ _); exact mid) | walk_at "dl"
    | cons l0 lr =>
      rw [← w]
      have ew : (barsL (fSets g)).isEmpty = false := by rw [w]; rfl
      have hc : crossP (fSets g) ≠ [] := fun z => by have := (none_iff hN).mp z; rw [w] at this; cases this
      obtain ⟨l, el, hl⟩ := bar_right hN hc
      rw [ew]
      repeat walk_at "dl"
      refine ⟨g, barD g, rfl, hN, by rw [el]; exact bar_val2 (by rw [isBarL_len hl]; decide), ?_⟩
      have et : isBarD (g.ss.map (·.1)) (barD g) = true := by
        rw [el]
        show (match intsD (l.map .int) with | some l => isBarL _ l | none => false) = true
        rw [intsD_map]; exact hl
      rw [et]
      repeat first | ((with_reducible show WSs _ _ _ _ _); exact mid) | walk_at "dl"
  · have hqd' : O qd = none := by
      cases w : O qd with
      | none => rfl
      | some u =>
        have : qd ≠ qf := fun z => by rw [z, hqf] at w; cases w
        rw [Opens.up_ne this, w] at hqd; cases hqd
    have kp : Keep a O O' := (((Keep.refl (a := a) (O := O)).up hqf).up hqd').but bt
    exact ⟨backO a O O', backO_le kp, q _ (backO_bx (bx.le (by omega))) backO_but⟩
end
section
open PySem PySem.Spec PyProof.Rows L2 DL PySem.NumText
local macro_rules | `(tactic| walk_at "dlS") => `(tactic| first
  | ((with_reducible show WS _ (Stmt.Assign [Expr.Name _ _] _ _) _ _ _); (refine ws_nm ?a ?v ?hq ?hs; (case a => rfl); (case v => walk_at "loc"); (case hs => (intro env he; rfl)))))
local macro_rules | `(tactic| walk_at "dlCall") => `(tactic| ((with_reducible show We _ (Expr.Call (Expr.Name "sorted" _) [Expr.Subscript _ _ _] [] _) _ _ _); refine we_sortI (by assumption) rfl ?_))
structure CrDefs (M : Mo) : Prop where
  take : DefD M "_law_take" (topS 50) ["box", "many"] 1 spTake
  mixed : DefD M "_law_mixed" (topS 51) ["box", "items"] 2 spMixed
  family : DefD M "_law_family" (topS 55) ["box", "many", "most", "tallest", "couples"] 3 spFamily
  nest : DefD M "_law_nest" (topS 64) ["box", "many", "most"] 4 spNest
  fr : DefD M "_law_family_right" (topS 68) ["box", "family", "by_name"] 14 spFR
abbrev NCR : List Str := ["box", "by_name", "nest", "more", "crossed", "wide", "family"]
def spCR : SpD := fun ds O Q _ => ∃ a : Addr, ds = [.raw (.ref a)] ∧ Bx a 0 O ∧ ∀ O', Q (.bl true) O'
theorem cr_end {M : Mo} {F : DL.Fr} {Ed : XD → Opens → Prop} {Z : EndsD} {O : Opens} {b : Bool} {a : Addr} {n : Nat} {g1 g2 g3 : Fam} {x3 x6 : Option D} (B : Blt M) (Cd : CrDefs M) (G1 : GoodF g1) (G2 : GoodF g2) (G3 : GoodF g3) (hb : Bx a n O) (hn : n + 300000 ≤ 1000000) (q : ∀ O', Z.rt (.bl true) O') :
    WSs (bodyG M NCR (defScope (topS 69)) 14 F Ed) ((defBody (topS 69)).drop 5) [some (.raw (.ref a)), some (.bl b), some (lawFam g1), x3, some (lawFam g2), some (lawFam g3), x6] O Z := by
  obtain ⟨hta, hmi, hfa, hne, hfr⟩ := Cd
  repeat walk_at "dl"
  refine ws_forI rfl ?_
  refine pi_ls ?_
  repeat walk_at "dl"
  refine ⟨_, .inl rfl, for_stateD [lawFam g1, lawFam g2, lawFam g3] (fun i ρ' O' => (∃ b x6, ρ' = [some (.raw (.ref a)), some (.bl b), some (lawFam g1), x3, some (lawFam g2), some (lawFam g3), x6]) ∧ Bx a (n + 74000 * i) O') ⟨⟨_, _, rfl⟩, hb⟩ (fun i v ρ' O' hi hx w => ?_) fun ρ' O' w => ?_⟩
  · obtain ⟨⟨b, x6, rfl⟩, w2⟩ := w
    have hi : i < 3 := hi
    obtain ⟨g, rfl, G⟩ : ∃ g, v = lawFam g ∧ GoodF g := by
      rcases (show i = 0 ∨ i = 1 ∨ i = 2 by omega) with rfl | rfl | rfl
      · cases hx; exact ⟨g1, rfl, G1⟩
      · cases hx; exact ⟨g2, rfl, G2⟩
      · cases hx; exact ⟨g3, rfl, G3⟩
    repeat walk_at "dl"
    refine ⟨a, _, g, b, rfl, w2, by omega, G, fun O2 b2 _ => ?_⟩
    repeat walk_at "dl"
    exact ⟨⟨_, _, rfl⟩, b2.le (by omega)⟩
  · obtain ⟨⟨b, x6, rfl⟩, w2⟩ := w
    repeat walk_at "dl"
    exact q _
theorem ok_cell_right {M : Mo} {f : Addr} {fd : FuncData} (B : Blt M) (Cd : CrDefs M) (hm : M.mg "_law_cell_right" = some (.ref f)) (Fn : Fun M.K "_law_cell_right" "_law_cell_right" (topS 69) f fd) : DefD M "_law_cell_right" (topS 69) ["box"] 15 spCR := by
  obtain ⟨hta, hmi, hfa, hne, hfr⟩ := id Cd
  refine def_ok (N := NCR) hm Fn ⟨rfl, rfl, rfl, by decide +kernel, rfl, by decide +kernel, by decide +kernel⟩ (fun _ _ _ _ _ _ us hl => match us, hl with | [_], _ => rfl) (fun ds O Q E ⟨_, e, _⟩ => by rw [e]; rfl) fun F ds O Qd Ed ⟨a, e, hb, q⟩ => ?_
  subst e
  repeat walk_at "dl"
  refine ⟨a, 2, 0, rfl, hb, by omega, by decide, by decide, fun r O1 r0 r1 b1 bt1 => ?_⟩
  repeat walk_at "dl"
  generalize (r == 1) = nm
  refine ⟨a, 4, _, rfl, b1, by omega, by decide, by decide, fun r2 O2 r20 r21 b2 bt2 => ?_⟩
  obtain ⟨k, rfl⟩ := Int.eq_ofNat_of_zero_le r20
  repeat walk_at "dl"
  refine ⟨a, _, 2 + k, 5, rfl, b2, by omega, by omega, by omega, by decide, by decide, fun g O3 G gl gs b3 bt3 => ?_⟩
  obtain ⟨ev, ss, ts⟩ := g
  have hev : EvOk ev := G.ev
  have gl : ev.length = 2 + k := gl
  have gs : ss.length ≤ 5 := gs
  have evn : ev.Nodup := pw_nodup hev.pw
  repeat walk_at "dl"
  refine ⟨a, _, ev.map D.int, _, rfl, .inl rfl, fun d hd => Lay.le (lays_ints (n := 0) d hd) (by decide), b3, by rw [List.length_map]; omega, fun ys O4 hp b4 bt4 => ?_⟩
  rw [List.length_map] at b4
  obtain ⟨zs, hz, rfl⟩ := perm_map hp
  repeat walk_at "dl"
  refine ⟨a, _, _, rfl, b4, by omega, by rw [List.length_map]; show 1 ≤ ((ev.length : Nat) : Int) - 1; omega, by rw [List.length_map]; show ((ev.length : Nat) : Int) - 1 < _; omega, fun r3 O5 r30 r31 b5 bt5 => ?_⟩
  obtain ⟨k3, rfl⟩ := Int.eq_ofNat_of_zero_le r30
  repeat walk_at "dl"
  rw [show (2 + (k3 : Int)) = ((2 + k3 : Nat) : Int) by omega, cutD_take, ← List.map_take]
  refine ⟨zs.take (2 + k3), rfl, fun ms pm psd => ?_⟩
  have hzn : zs.Nodup := hz.nodup_iff.mpr evn
  have hzl : zs.length = 2 + k := by rw [hz.length_eq, gl]
  obtain ⟨hpt, hnd⟩ := sorted_part (zs := zs.take (2 + k3)) hev (fun z h => hz.mem_iff.mp (List.mem_of_mem_take h)) (hzn.sublist (List.take_sublist _ _)) (fun z => by have h := congrArg List.length z; rw [List.length_take, hzl] at h; have h : min (2 + k3) (2 + k) = 0 := h; omega) pm psd
  have hml : ms.length ≤ 8 := by rw [pm.length_eq, List.length_take]; omega
  repeat walk_at "dl"
  refine q_addl (by rw [List.length_map]; show ss.length + 1 ≤ 16777216; omega) ?_
  have es : setsL ss ++ [setD ms 1] = setsL (ss ++ [(ms, 1)]) := by unfold setsL; rw [List.map_append]; rfl
  have lens : (setsL ss ++ [setD ms 1]).length = ss.length + 1 := by rw [List.length_append, List.length_map]; rfl
  repeat walk_at "dl"
  refine ⟨a, _, setsL ss ++ [setD ms 1], .lst (setsL ss ++ [setD ms 1]), rfl, .inl rfl, fun d hd => lay_sets (ss ++ [(ms, 1)]) d (es ▸ hd), b5, by rw [lens]; omega, fun ys2 O6 hp2 b6 bt6 => ?_⟩
  rw [lens] at b6
  rw [es] at hp2
  obtain ⟨ss2, hz2, rfl⟩ := perm_map hp2
  have hss2 : ss2.length = ss.length + 1 := by rw [hz2.length_eq, List.length_append]; rfl
  have G2 : GoodF ⟨ev, ss2, ts⟩ := by
    obtain ⟨q1, q2, q3, q4, q5⟩ := G
    have all : ∀ s ∈ ss2, (Part ev s.1 ∧ s.1.Nodup ∧ 1 ≤ s.2) ∧ s.1.length ≤ 8 := fun s hs => by
      rcases List.mem_append.mp (hz2.mem_iff.mp hs) with h | h
      · exact ⟨q4 s h, q3.sz s h⟩
      · rw [List.mem_singleton.mp h]; exact ⟨⟨hpt, hnd, by show (1 : Int) ≤ 1; decide⟩, hml⟩
    exact ⟨q1, q2, ⟨by show ss2.length ≤ 12; omega, fun s hs => (all s hs).2⟩, fun s hs => (all s hs).1, q5⟩
  have G1 : GoodF ⟨ev, ss, ts⟩ := G
  have fin := fun g3 O7 G3 x3 x6 b7 => cr_end (Z := { nx := fun _ O' => Qd .non O', rt := Qd }) (F := F) (Ed := Ed) (O := O7) (b := nm) (a := a) (n := 2000) (g1 := ⟨ev, ss, ts⟩) (g2 := ⟨ev, ss2, ts⟩) (g3 := g3) (x3 := x3) (x6 := x6) B Cd G1 G2 G3 b7 (by decide) q
  repeat walk_at "dl"
  refine ⟨a, 8, _, rfl, b6, by omega, by decide, by decide, fun r4 O7 r40 r41 b7 bt7 => ?_⟩
  repeat walk_at "dl"
  refine if2 (fun h => ?_) (fun h => ?_)
  · repeat walk_at "dl"
    refine ⟨a, _, 8, 12, 3, 6, rfl, b7, by omega, by decide, by decide, by decide, by decide, by decide, by decide, fun g3 O8 G3 _ _ b8 bt8 => ?_⟩
    repeat first | ((with_reducible show WSs _ _ _ _ _); exact fin g3 O8 G3 _ _ (b8.le (by omega))) | walk_at "dl"
  · repeat walk_at "dl"
    refine ⟨a, 3, _, rfl, b7, by omega, by decide, by decide, fun r5 O8 r50 r51 b8 bt8 => ?_⟩
    obtain ⟨k5, rfl⟩ := Int.eq_ofNat_of_zero_le r50
    repeat walk_at "dl"
    refine ⟨a, _, 3 + k5, 5, 2, 2, rfl, b8, by omega, by omega, by omega, by decide, by decide, by decide, by decide, fun g3 O9 G3 _ _ b9 bt9 => ?_⟩
    repeat first | ((with_reducible show WSs _ _ _ _ _); exact fin g3 O9 G3 _ _ (b9.le (by omega))) | walk_at "dl"
/-! ### the law -/
def spLaw : SpD := fun ds O Q _ => ∃ ns : List Int, ds = [.rls (ns.map .int)] ∧ ns.length ≤ 63 ∧ ∀ O', Q (.bl true) O'
theorem ok_law {M : Mo} {f : Addr} {fd : FuncData} (B : Blt M) (h_cell : DefD M "_law_cell" (topS 48) ["script", "k"] 1 spCell) (h_box : DefD M "_law_box" (topS 49) ["great"] 1 spBox) (h_cr : DefD M "_law_cell_right" (topS 69) ["box"] 15 spCR)
    (hm : M.mg "law" = some (.ref f)) (Fn : Fun M.K "law" "law" (topS 70) f fd) : DefD M "law" (topS 70) ["script"] 16 spLaw := by
  refine def_ok (N := ["script", "k"]) hm Fn ⟨rfl, rfl, rfl, by decide +kernel, rfl, by decide +kernel, by decide +kernel⟩ (fun _ _ _ _ _ _ us hl => match us, hl with | [_], _ => rfl) (fun ds O Q E ⟨_, e, _⟩ => by rw [e]; rfl) fun F ds O Qd Ed ⟨ns, e, hl, q⟩ => ?_
  subst e
  repeat walk_at "dl"
  refine ws_forI rfl ?_
  repeat walk_at "dl"
  obtain ⟨m, hm3, em⟩ : ∃ m : Nat, m ≤ 4 ∧ (if (if (((ns.map D.int).length : Nat) : Int) < 4 then (((ns.map D.int).length : Nat) : Int) else 4) > 2 then (if (((ns.map D.int).length : Nat) : Int) < 4 then (((ns.map D.int).length : Nat) : Int) else 4) else 2) = (m : Int) := by
    refine ⟨(if (if (((ns.map D.int).length : Nat) : Int) < 4 then (((ns.map D.int).length : Nat) : Int) else 4) > 2 then (if (((ns.map D.int).length : Nat) : Int) < 4 then (((ns.map D.int).length : Nat) : Int) else 4) else 2).toNat, ?_, ?_⟩
    · split <;> split <;> omega
    · split <;> split <;> omega
  refine ⟨(m : Int), congrArg D.int em, by omega, by omega, ?_⟩
  refine for_stateA (List.range m) (fun i : Nat => D.int (i : Int)) (fun i ρ' O' => ∃ x1, ρ' = [some (.rls (ns.map .int)), x1]) ⟨_, rfl⟩ (fun i x ρ' O' hi hx w => ?_) fun ρ' O' w => ?_
  · obtain ⟨x1, rfl⟩ := w
    have hxm := List.mem_range.mp (List.mem_of_getElem? hx)
    repeat walk_at "dl"
    refine ⟨ns, x, rfl, by omega, fun r => ?_⟩
    repeat walk_at "dl"
    refine ⟨r, rfl, fun p O1 hp hb _ => ?_⟩
    repeat walk_at "dl"
    refine ⟨p, rfl, hb, fun O2 => ?_⟩
    repeat walk_at "dl"
    exact ⟨_, rfl⟩
  · obtain ⟨x1, rfl⟩ := w
    repeat walk_at "dl"
    exact q _
end
section
open PySem PySem.Spec PyProof.Rows L2 DL PySem.NumText
theorem ini_given {M : Mo} {E fI : Addr} {fd : FuncData} (hu : UpC M "EvenError" E) (Fn : Fun M.K "__init__" "GivenError.__init__" (inClass (topS 2) 0) fI fd) :
    FnOk M.P M.w M.K M.mg M.base (L2.CX M.P M.w) 1 fI fd ["self", "given"] (lift M.K (spIni M.K "given")) ∧ (∀ us : List Value, us.length = 2 → bindArgs fd ⟨us, []⟩ = pure ([("self" : Str), "given"].zip us)) ∧ ∀ self (us : List Value), (self :: us).length = 2 → bindArgs fd ⟨[self], [("given" : Str)].zip us⟩ = pure ([("self" : Str), "given"].zip (self :: us)) := by
  refine ⟨met_ok (N := ["self", "given"]) Fn ⟨rfl, rfl, rfl, by decide +kernel, rfl, by decide +kernel, by decide +kernel⟩ (fun ds O Q E ⟨a, b, c, e, _⟩ => by rw [e]; rfl) fun F ds O Qd Ed ⟨a, C, x, e, ho, T, no, q⟩ => ?_, fun us hl => ?_, fun self us hl => ?_⟩
  · subst e
    repeat walk_at "dl"
    refine we_upI hu rfl ?_
    repeat walk_at "dl"
    refine ⟨a, C, rfl, T, ho, ?_⟩
    repeat walk_at "dl"
    refine ws_ost ?_
    repeat walk_at "dl"
    exact ⟨a, C, rfl, T, no, ho, fun dx n ne => wss_nil (q dx n ne)⟩
  · obtain ⟨oc, od, kV, doc, pm, an, cdv, ct, osl, rfl, lk, hcd⟩ := Fn.ex
    match us, hl with
    | [_, _], _ => rfl
  · obtain ⟨oc, od, kV, doc, pm, an, cdv, ct, osl, rfl, lk, hcd⟩ := Fn.ex
    match us, hl with
    | [_], _ => rfl
structure ClsF (K : PySem.W.Frag) (C fI : Addr) (f : Str) : Prop where
  T : OexC K C
  no : PySem.W.findIn K (.ref C) f = some none
  rd : XfC K C
  is : ExcC K C
  iC : PySem.W.findIn K (.ref C) "__init__" = some (some (.ref fI))
theorem xcls {M : Mo} {x f : Str} {C fI : Addr} {fd : FuncData} (g : M.mg x = some (.ref C)) (c : ClsF M.K C fI f) (tI : PySem.W.typeIn M.K (.ref fI) = some (.type "function"))
    (h : FnOk M.P M.w M.K M.mg M.base (L2.CX M.P M.w) 1 fI fd ["self", f] (lift M.K (spIni M.K f)) ∧ (∀ us : List Value, us.length = 2 → bindArgs fd ⟨us, []⟩ = pure ([("self" : Str), f].zip us)) ∧ ∀ self (us : List Value), (self :: us).length = 2 → bindArgs fd ⟨[self], [f].zip us⟩ = pure ([("self" : Str), f].zip (self :: us))) : XCls M x C f 1 :=
  ⟨g, c.T, c.no, c.rd, c.is, fI, fd, c.iC, tI, h.1, h.2.1, h.2.2⟩
/-- a def of the top, as it is written -/
def DefAt (K : PySem.W.Frag) (x : Str) (st : Stmt) : Prop := ∃ (f : Addr) (fd : FuncData), PySem.W.nsIn K mainGlobals x = some (some (.ref f)) ∧ Fun K x x st f fd
abbrev veT : List Value := [.type "ValueError", .type "Exception", .type "BaseException", .type "object"]
/-- an own exception's class, as it is written: behind it stand the classes bm -/
structure ClsAt (K : PySem.W.Frag) (x f : Str) (C fI : Addr) (bm : List Value) : Prop where
  a : PySem.W.nsIn K mainGlobals x = some (some (.ref C))
  xL : ∃ nm q N bs sn sub ab col dd k0 k1 k2 k3 k5, K.lookup C = some (excClassObj nm q C N bs bm true sn sub ab col dd k0 k1 k2 k3 k5 "ValueError.__new__")
  sa : PySem.W.findIn K (.ref C) "__setattr__" = some (some (.builtin "object.__setattr__"))
  ga : PySem.W.findIn K (.ref C) "__getattribute__" = some (some (.builtin "BaseException.__getattribute__"))
  gg : PySem.W.findIn K (.ref C) "__getattr__" = some none
  ha : PySem.W.findIn K (.ref C) "__class__" = some (some (.builtin "object.__class__"))
  no : PySem.W.findIn K (.ref C) f = some none
  iC : PySem.W.findIn K (.ref C) "__init__" = some (some (.ref fI))
  kC : PySem.W.keepIn K (.ref C) = true
theorem defAt_mk {K : PySem.W.Frag} {x : Str} {st : Stmt} {f : Addr} {oc : Value} {od an : Option Addr} {osl : Array (Option Value)} {kV doc pm cdv ct : Value} (a : PySem.W.nsIn K mainGlobals x = some (some (.ref f)))
    (l : K.lookup f = some ⟨oc, od, .func (PySem.W.fnOf x x (defArgs st) (defBody st) (defScope st) .none kV doc pm an cdv ct), osl⟩) (c : PySem.W.codeIn K cdv x = true) (k : PySem.W.keepIn K (.ref f) = true) : DefAt K x st := ⟨f, _, a, fun_mk l c k⟩
section
variable {K : PySem.W.Frag} {x f : Str} {C fI : Addr} {bm : List Value}
theorem clsAt_mk {nm q : Str} {N : Addr} {bs : List Value} {sn : List Str} {sub : List Value} {ab : Bool} {col : Option Bool} {dd : Option Addr} {k0 k1 k2 k3 k5 : Option Value} (a : PySem.W.nsIn K mainGlobals x = some (some (.ref C)))
    (xL : K.lookup C = some (excClassObj nm q C N bs bm true sn sub ab col dd k0 k1 k2 k3 k5 "ValueError.__new__"))
    (sa : PySem.W.findIn K (.ref C) "__setattr__" = some (some (.builtin "object.__setattr__"))) (ga : PySem.W.findIn K (.ref C) "__getattribute__" = some (some (.builtin "BaseException.__getattribute__"))) (gg : PySem.W.findIn K (.ref C) "__getattr__" = some none)
    (ha : PySem.W.findIn K (.ref C) "__class__" = some (some (.builtin "object.__class__"))) (no : PySem.W.findIn K (.ref C) f = some none) (iC : PySem.W.findIn K (.ref C) "__init__" = some (some (.ref fI))) (kC : PySem.W.keepIn K (.ref C) = true) : ClsAt K x f C fI bm :=
  ⟨a, ⟨nm, q, N, bs, sn, sub, ab, col, dd, k0, k1, k2, k3, k5, xL⟩, sa, ga, gg, ha, no, iC, kC⟩
theorem ClsAt.mro (c : ClsAt K x f C fI bm) (v : Value) : PySem.W.subIn K (.ref C) v = some ((Value.ref C :: bm).contains v) := by
  obtain ⟨nm, q, N, bs, sn, sub, ab, col, dd, k0, k1, k2, k3, k5, h⟩ := c.xL
  show PySem.W.mroIn K C v = _
  unfold PySem.W.mroIn PySem.W.clsIn
  rw [h]
  rfl
theorem ClsAt.is (c : ClsAt K x f C fI bm) : (PySem.W.clsIn K C).isSome = true := by
  obtain ⟨nm, q, N, bs, sn, sub, ab, col, dd, k0, k1, k2, k3, k5, h⟩ := c.xL
  unfold PySem.W.clsIn
  rw [h]
  rfl
theorem ClsAt.ty (c : ClsAt K x f C fI bm) : PySem.W.typeIn K (.ref C) = some (.type "type") := by
  obtain ⟨nm, q, N, bs, sn, sub, ab, col, dd, k0, k1, k2, k3, k5, h⟩ := c.xL
  show (K.lookup C).map (·.cls) = _
  rw [h]
  rfl
theorem ClsAt.hd (c : ClsAt K x f C fI bm) : PySem.W.hasDictIn K C = true := by
  obtain ⟨nm, q, N, bs, sn, sub, ab, col, dd, k0, k1, k2, k3, k5, h⟩ := c.xL
  unfold PySem.W.hasDictIn PySem.W.clsIn
  rw [h]
  rfl
theorem has_ve {l : List Value} {v : Value} (h : veT.contains v = true) : (Value.ref C :: (l ++ veT)).contains v = true := by
  have m : v ∈ veT := by simpa using h
  have : v ∈ Value.ref C :: (l ++ veT) := List.mem_cons_of_mem _ (List.mem_append_right _ m)
  simpa using this
variable {l : List Value}
theorem ClsAt.exC (c : ClsAt K x f C fI (l ++ veT)) : PySem.W.subIn K (.ref C) (.type "BaseException") = some true := by
  rw [c.mro, has_ve (by decide +kernel)]
theorem ClsAt.oex (c : ClsAt K x f C fI (l ++ veT)) (hr : PySem.HandSPX.refsVE (l ++ veT) = true) : OexC K C := by
  obtain ⟨nm, q, N, bs, sn, sub, ab, col, dd, k0, k1, k2, k3, k5, h⟩ := c.xL
  exact ⟨⟨nm, q, N, bs, _, sn, sub, ab, col, dd, k0, k1, k2, k3, k5, h, hr⟩, c.sa, c.exC, c.ty, c.kC⟩
theorem ClsAt.xf (c : ClsAt K x f C fI (l ++ veT)) : XfC K C := ⟨c.ga, c.gg, c.exC, c.hd⟩
theorem ClsAt.exc (c : ClsAt K x f C fI (l ++ veT)) (hn : PySem.W.specialIn K (.builtin "object.__class__") "__get__" = some (some (.builtin "getset_descriptor.__get__"))) (ht : PySem.W.takesIn K (.builtin "object.__class__") = some true) : ExcC K C :=
  ⟨c.ga, c.gg, c.exC, c.hd, c.ha, hn, ht, by have := c.mro (.type "object"); rw [has_ve (by decide +kernel)] at this; exact this⟩
theorem ClsAt.clsF (c : ClsAt K x f C fI (l ++ veT)) (hr : PySem.HandSPX.refsVE (l ++ veT) = true) (hn : PySem.W.specialIn K (.builtin "object.__class__") "__get__" = some (some (.builtin "getset_descriptor.__get__"))) (ht : PySem.W.takesIn K (.builtin "object.__class__") = some true) : ClsF K C fI f :=
  ⟨c.oex hr, c.no, c.xf, c.exc hn ht, c.iC⟩
end
/-- what is asked of one of the classes, whichever it is -/
structure ClsG (K : PySem.W.Frag) (G E C : Addr) (f : Str) : Prop where
  ex : ∃ (x : Str) (fI : Addr) (l : List Value), ClsAt K x f C fI (l ++ veT) ∧ (l = [.ref G, .ref E] ∨ l = [.ref E])
theorem ClsG.kit {K : PySem.W.Frag} {G E C D : Addr} {f g : Str} (c : ClsG K G E C f) (d : ClsG K G E D g) (h1 : D ≠ G) (h2 : D ≠ E) : PySem.W.kitCls K (.ref C) (.ref D) = some (decide (D = C)) := by
  obtain ⟨x, fI, l, c, hl⟩ := c.ex
  obtain ⟨y, fJ, l2, d, _⟩ := d.ex
  show (if ((PySem.W.clsIn K D).isSome && PySem.W.typeIn K (.ref D) == some (.type "type")) = true then PySem.W.subIn K (.ref C) (.ref D) else none) = _
  rw [d.is, d.ty, if_pos (by decide +kernel), c.mro]
  congr 1
  rw [Bool.eq_iff_iff, decide_eq_true_iff]
  have w : ∀ a b : Addr, (Value.ref a = Value.ref b) ↔ a = b := fun a b => ⟨fun e => by cases e; rfl, fun e => by rw [e]⟩
  rcases hl with rfl | rfl <;> simp [w, h1, h2]
theorem ClsG.sub {K : PySem.W.Frag} {G E C : Addr} {f : Str} (c : ClsG K G E C f) {v : Value} (h : veT.contains v = true) : PySem.W.subIn K (.ref C) v = some true := by
  obtain ⟨x, fI, l, c, hl⟩ := c.ex
  rw [c.mro, has_ve h]
theorem ClsG.subE {K : PySem.W.Frag} {G E C : Addr} {f : Str} (c : ClsG K G E C f) : PySem.W.subIn K (.ref C) (.ref E) = some true := by
  obtain ⟨x, fI, l, c, hl⟩ := c.ex
  rw [c.mro]
  rcases hl with rfl | rfl <;> simp
theorem DefAt.def {M : Mo} {x : Str} {st : Stmt} {h : Heap} (X : M.K.In h) (G : h.Ns mainGlobals M.mg) (d : DefAt M.K x st) : ∃ (f : Addr) (fd : FuncData), M.mg x = some (.ref f) ∧ Fun M.K x x st f fd := by
  obtain ⟨f, fd, a, F⟩ := d
  exact ⟨f, fd, PySem.W.mg_of X G a, F⟩
theorem kit_self {K : PySem.W.Frag} {C : Addr} : PySem.W.kitOne K (.ref C) (.ref C) = some true := by
  unfold PySem.W.kitOne
  rw [show (Value.ref C == Value.ref C) = true from beq_iff_eq.mpr rfl, if_pos rfl]
theorem exm_self {K : PySem.W.Frag} {C fI : Addr} {x f : Str} {l : List Value} (c : ClsAt K x f C fI (l ++ veT)) : PySem.W.exmAny K (.ref C) [.ref C] = some true := by
  have h1 : PySem.W.kitCls K (.ref C) (.ref C) = some true := by
    show (if ((PySem.W.clsIn K C).isSome && PySem.W.typeIn K (.ref C) == some (.type "type")) = true then PySem.W.subIn K (.ref C) (.ref C) else none) = _
    rw [c.is, c.ty, if_pos (by decide +kernel), c.mro]
    simp
  have h2 : PySem.W.exmOne K (.ref C) (.ref C) = some true := by
    unfold PySem.W.exmOne
    rw [c.exC, if_pos (by decide +kernel)]
    exact h1
  unfold PySem.W.exmAny PySem.W.exmAny
  rw [h2]; rfl
theorem kit_up {K : PySem.W.Frag} {C fI E Gv : Addr} {x f : Str} (c : ClsAt K x f C fI ([.ref Gv, .ref E] ++ veT)) (eC : PySem.W.isClsIn K E = true) (eT : PySem.W.typeIn K (.ref E) = some (.type "type")) : PySem.W.kitOne K (.ref C) (.ref E) = some true := by
  unfold PySem.W.kitOne
  by_cases e : (Value.ref C == Value.ref E) = true
  · rw [if_pos e]
  · rw [if_neg e]
    show (if ((PySem.W.clsIn K E).isSome && PySem.W.typeIn K (.ref E) == some (.type "type")) = true then PySem.W.subIn K (.ref C) (.ref E) else none) = _
    rw [show (PySem.W.clsIn K E).isSome = true from eC, eT, if_pos (by decide +kernel), c.mro]
    simp
theorem gtup_mk {M : Mo} {x : Str} {a b : Int} {p : Addr} {od : Option Addr} {t u : Tok} {n : Nat} {sl : Array (Option Value)} (g : M.mg x = some (.ref p)) (l : M.K.lookup p = some ⟨.type "tuple", od, .seq #[.int a t, .int b u] n, sl⟩) : GTup M x [a, b] :=
  ⟨p, _, _, n, g, l, rfl, rfl, by show 2 ≤ sizeLine; decide, .cons ⟨t, rfl⟩ (.cons ⟨u, rfl⟩ .nil)⟩
theorem all_mk {P : Program} {w : World} {K : PySem.W.Frag} {h : Heap} {mg : Str → Option Value} {fa : Addr} (X : K.In h) (G : h.Ns mainGlobals mg) (hfa : mg "law" = some (.ref fa)) {E Gv fG CB CF CT CL fF aH aQ : Addr} {mcE : Value} {tE t1 t2 t3 t4 : Tok} {fdG fdF : FuncData} {odH odQ : Option Addr} {sH sQ : Nat} {slH slQ : Array (Option Value)}
    (d11 : DefAt K "is_integer" (topS 11))
    (d12 : DefAt K "is_from_to" (topS 12))
    (d13 : DefAt K "is_list" (topS 13))
    (d14 : DefAt K "is_tuple" (topS 14))
    (d15 : DefAt K "ascends" (topS 15))
    (d18 : DefAt K "is_event" (topS 18))
    (d19 : DefAt K "is_outcome" (topS 19))
    (d20 : DefAt K "are_events_of" (topS 20))
    (d22 : DefAt K "are_events" (topS 22))
    (d23 : DefAt K "is_part" (topS 23))
    (d24 : DefAt K "is_set" (topS 24))
    (d25 : DefAt K "are_sets" (topS 25))
    (d26 : DefAt K "are_twins" (topS 26))
    (d39 : DefAt K "do_cross" (topS 39))
    (d40 : DefAt K "crossing" (topS 40))
    (d44 : DefAt K "coin_bar" (topS 44))
    (d45 : DefAt K "is_coin_bar" (topS 45))
    (d46 : DefAt K "bar_lack" (topS 46))
    (d48 : DefAt K "_law_cell" (topS 48))
    (d49 : DefAt K "_law_box" (topS 49))
    (d50 : DefAt K "_law_take" (topS 50))
    (d51 : DefAt K "_law_mixed" (topS 51))
    (d52 : DefAt K "_law_same" (topS 52))
    (d53 : DefAt K "_law_copy" (topS 53))
    (d54 : DefAt K "_law_grown" (topS 54))
    (d55 : DefAt K "_law_family" (topS 55))
    (d56 : DefAt K "_law_object" (topS 56))
    (d57 : DefAt K "_law_plain" (topS 57))
    (d58 : DefAt K "_law_called" (topS 58))
    (d59 : DefAt K "_law_told" (topS 59))
    (d60 : DefAt K "_law_refused" (topS 60))
    (d61 : DefAt K "_law_told_same" (topS 61))
    (d62 : DefAt K "_law_f" (topS 62))
    (d63 : DefAt K "_law_low" (topS 63))
    (d64 : DefAt K "_law_nest" (topS 64))
    (d65 : DefAt K "_law_is_bar" (topS 65))
    (d66 : DefAt K "_law_bars" (topS 66))
    (d67 : DefAt K "_law_lack" (topS 67))
    (d68 : DefAt K "_law_family_right" (topS 68))
    (d69 : DefAt K "_law_cell_right" (topS 69))
    (d70 : DefAt K "law" (topS 70))
    (gE : PySem.W.nsIn K mainGlobals "EvenError" = some (some (.ref E)))
    (cB : ClsAt K "InvalidBar" "given" CB fG ([.ref Gv, .ref E] ++ veT))
    (tG : PySem.W.typeIn K (.ref fG) = some (.type "function"))
    (FG : Fun K "__init__" "GivenError.__init__" (inClass (topS 2) 0) fG fdG)
    (eC : PySem.W.isClsIn K E = true)
    (eT : PySem.W.typeIn K (.ref E) = some (.type "type"))
    (eR : PySem.W.readsIn K E mcE = true)
    (eG : PySem.W.specialIn K (.ref E) "__getattribute__" = some (some (.builtin "type.__getattribute__")))
    (eI : PySem.W.findCls K (.ref E) mcE "__init__" = some (.val (.builtin "ValueError.__init__")))
    (hn : PySem.W.specialIn K (.builtin "object.__class__") "__get__" = some (some (.builtin "getset_descriptor.__get__")))
    (ht : PySem.W.takesIn K (.builtin "object.__class__") = some true)
    (gF : PySem.W.nsIn K mainGlobals "Family" = some (some (.ref CF)))
    (gT : PySem.W.nsIn K mainGlobals "Tally" = some (some (.ref CT)))
    (gL : PySem.W.nsIn K mainGlobals "Log" = some (some (.ref CL)))
    (iF1 : PySem.W.isClsIn K CF = true)
    (iF2 : PySem.W.typeIn K (.ref CF) = some (.type "type"))
    (iT1 : PySem.W.isClsIn K CT = true)
    (iT2 : PySem.W.typeIn K (.ref CT) = some (.type "type"))
    (iL1 : PySem.W.isClsIn K CL = true)
    (iL2 : PySem.W.typeIn K (.ref CL) = some (.type "type"))
    (f1 : PySem.W.plainGet K CF Str.empty = true)
    (f2 : PySem.W.hasDictIn K CF = true)
    (f3 : PySem.W.plainOver K CF = true)
    (f4 : PySem.W.findIn K (.ref CF) "__setattr__" = some (some (.builtin "object.__setattr__")))
    (fha : PySem.W.findIn K (.ref CF) "__class__" = some (some (.builtin "object.__class__")))
    (fhm : PySem.W.mroIn K CF (.type "object") = some true)
    (n1 : PySem.W.findIn K (.ref CF) "events" = some none)
    (n2 : PySem.W.findIn K (.ref CF) "sets" = some none)
    (n3 : PySem.W.findIn K (.ref CF) "twins" = some none)
    (m1 : PySem.W.makesIn K CF = true)
    (m2 : PySem.W.findIn K (.ref CF) "__init__" = some (some (.ref fF)))
    (m3 : PySem.W.isFn K (.ref fF) = true)
    (m4 : PySem.W.keepIn K (.ref CF) = true)
    (FF : Fun K "__init__" "Family.__init__" (inClass (topS 27) 0) fF fdF)
    (nE : PySem.W.nsIn K mainGlobals "MOST_EVENT" = some (some (.int 99 tE)))
    (gH : PySem.W.nsIn K mainGlobals "HALF" = some (some (.ref aH)))
    (lH : K.lookup aH = some ⟨.type "tuple", odH, .seq #[.int 1 t1, .int 2 t2] sH, slH⟩)
    (gQ : PySem.W.nsIn K mainGlobals "QUARTER" = some (some (.ref aQ)))
    (lQ : K.lookup aQ = some ⟨.type "tuple", odQ, .seq #[.int 1 t3, .int 4 t4] sQ, slQ⟩)
    (b0 : PySem.W.nsIn K mainGlobals "len" = some none)    (b1 : PySem.W.nsIn K mainGlobals "isinstance" = some none)    (b2 : PySem.W.nsIn K mainGlobals "range" = some none)    (b3 : PySem.W.nsIn K mainGlobals "all" = some none)
    (b4 : PySem.W.nsIn K mainGlobals "abs" = some none)    (b5 : PySem.W.nsIn K mainGlobals "int" = some none)    (b6 : PySem.W.nsIn K mainGlobals "bool" = some none)    (b7 : PySem.W.nsIn K mainGlobals "str" = some none)
    (b8 : PySem.W.nsIn K mainGlobals "list" = some none)    (b9 : PySem.W.nsIn K mainGlobals "tuple" = some none)    (b10 : PySem.W.nsIn K mainGlobals "dict" = some none)    (b11 : PySem.W.nsIn K mainGlobals "sum" = some none)
    (b12 : PySem.W.nsIn K mainGlobals "max" = some none)    (b13 : PySem.W.nsIn K mainGlobals "min" = some none)    (b14 : PySem.W.nsIn K mainGlobals "sorted" = some none)    (b15 : PySem.W.nsIn K mainGlobals "set" = some none)
    (b16 : PySem.W.nsIn K mainGlobals "any" = some none)    : ∃ fd : FuncData, (∀ (s : Shared) (v : Value), BindsTo s fd ⟨[v], []⟩ [("script", v)]) ∧ ∀ base : Heap, K.In base → base.Ns mainGlobals mg → FnOk P w K mg base (L2.CX P w) 16 fa fd ["script"] (lift K spLaw) := by
  obtain ⟨f11, fd11, a11, F11⟩ := d11
  obtain ⟨f12, fd12, a12, F12⟩ := d12
  obtain ⟨f13, fd13, a13, F13⟩ := d13
  obtain ⟨f14, fd14, a14, F14⟩ := d14
  obtain ⟨f15, fd15, a15, F15⟩ := d15
  obtain ⟨f18, fd18, a18, F18⟩ := d18
  obtain ⟨f19, fd19, a19, F19⟩ := d19
  obtain ⟨f20, fd20, a20, F20⟩ := d20
  obtain ⟨f22, fd22, a22, F22⟩ := d22
  obtain ⟨f23, fd23, a23, F23⟩ := d23
  obtain ⟨f24, fd24, a24, F24⟩ := d24
  obtain ⟨f25, fd25, a25, F25⟩ := d25
  obtain ⟨f26, fd26, a26, F26⟩ := d26
  obtain ⟨f39, fd39, a39, F39⟩ := d39
  obtain ⟨f40, fd40, a40, F40⟩ := d40
  obtain ⟨f44, fd44, a44, F44⟩ := d44
  obtain ⟨f45, fd45, a45, F45⟩ := d45
  obtain ⟨f46, fd46, a46, F46⟩ := d46
  obtain ⟨f48, fd48, a48, F48⟩ := d48
  obtain ⟨f49, fd49, a49, F49⟩ := d49
  obtain ⟨f50, fd50, a50, F50⟩ := d50
  obtain ⟨f51, fd51, a51, F51⟩ := d51
  obtain ⟨f52, fd52, a52, F52⟩ := d52
  obtain ⟨f53, fd53, a53, F53⟩ := d53
  obtain ⟨f54, fd54, a54, F54⟩ := d54
  obtain ⟨f55, fd55, a55, F55⟩ := d55
  obtain ⟨f56, fd56, a56, F56⟩ := d56
  obtain ⟨f57, fd57, a57, F57⟩ := d57
  obtain ⟨f58, fd58, a58, F58⟩ := d58
  obtain ⟨f59, fd59, a59, F59⟩ := d59
  obtain ⟨f60, fd60, a60, F60⟩ := d60
  obtain ⟨f61, fd61, a61, F61⟩ := d61
  obtain ⟨f62, fd62, a62, F62⟩ := d62
  obtain ⟨f63, fd63, a63, F63⟩ := d63
  obtain ⟨f64, fd64, a64, F64⟩ := d64
  obtain ⟨f65, fd65, a65, F65⟩ := d65
  obtain ⟨f66, fd66, a66, F66⟩ := d66
  obtain ⟨f67, fd67, a67, F67⟩ := d67
  obtain ⟨f68, fd68, a68, F68⟩ := d68
  obtain ⟨f69, fd69, a69, F69⟩ := d69
  obtain ⟨f70, fd70, a70, F70⟩ := d70
  have e := hfa.symm.trans (PySem.W.mg_of X G a70)
  cases e
  refine ⟨fd70, fun s v => ?_, fun base hK hN => ?_⟩
  · obtain ⟨oc, od, kV, doc, pm, an, cdv, ct, osl, rfl, lk, hcd⟩ := F70.ex
    exact .of_eq rfl
  have go : ∀ M : Mo, M = ⟨P, w, K, mg, base⟩ → DefD M "law" (topS 70) ["script"] 16 spLaw := fun M hM => by
    have eK : M.K = K := by rw [hM]
    have eg : M.mg = mg := by rw [hM]
    have mk : ∀ {x : Str} {v : Value}, PySem.W.nsIn K mainGlobals x = some (some v) → M.mg x = some v := fun h => by rw [eg]; exact PySem.W.mg_of X G h
    have mn : ∀ {x : Str}, PySem.W.nsIn K mainGlobals x = some none → M.mg x = none := fun h => by rw [eg]; exact PySem.W.mg_none_of X G h
    have B : Blt M := ⟨mn b0, mn b1, mn b2, mn b3, mn b4, mn b5, mn b6, mn b7, mn b8, mn b9, mn b10, mn b11, mn b12, mn b13, mn b14, mn b15⟩
    have Nm : Names M := ⟨tE, mk nE⟩
    have hu : UpC M "EvenError" E := ⟨mk gE, mcE, ⟨by rw [eK]; exact eR, by rw [eK]; exact eG⟩, by rw [eK]; exact eI⟩
    have gB := cB.a
    rw [← eK] at cB tG FG eC eT hn ht iF1 iF2 iT1 iT2 iL1 iL2 f1 f2 f3 f4 fha fhm m1 m2 m3 m4 FF lH lQ
    have n1 : NoAttr M.K CF "events" := by rw [eK]; exact n1
    have n2 : NoAttr M.K CF "sets" := by rw [eK]; exact n2
    have n3 : NoAttr M.K CF "twins" := by rw [eK]; exact n3
    rw [← eK] at F11
    rw [← eK] at F12
    rw [← eK] at F13
    rw [← eK] at F14
    rw [← eK] at F15
    rw [← eK] at F18
    rw [← eK] at F19
    rw [← eK] at F20
    rw [← eK] at F22
    rw [← eK] at F23
    rw [← eK] at F24
    rw [← eK] at F25
    rw [← eK] at F26
    rw [← eK] at F39
    rw [← eK] at F40
    rw [← eK] at F44
    rw [← eK] at F45
    rw [← eK] at F46
    rw [← eK] at F48
    rw [← eK] at F49
    rw [← eK] at F50
    rw [← eK] at F51
    rw [← eK] at F52
    rw [← eK] at F53
    rw [← eK] at F54
    rw [← eK] at F55
    rw [← eK] at F56
    rw [← eK] at F57
    rw [← eK] at F58
    rw [← eK] at F59
    rw [← eK] at F60
    rw [← eK] at F61
    rw [← eK] at F62
    rw [← eK] at F63
    rw [← eK] at F64
    rw [← eK] at F65
    rw [← eK] at F66
    rw [← eK] at F67
    rw [← eK] at F68
    rw [← eK] at F69
    rw [← eK] at F70
    have r1 : PySem.HandSPX.refsVE ([.ref Gv, .ref E] ++ veT) = true := rfl
    have xb : XCls M "InvalidBar" CB "given" 1 := xcls (mk gB) (cB.clsF r1 hn ht) tG (ini_given hu FG)
    have N2 : Names2 M CB := ⟨mn b16, gtup_mk (mk gH) lH, gtup_mk (mk gQ) lQ, xb⟩
    have Bx : BarX M CB E := ⟨xb, mk gE, exm_self cB, kit_up cB eC eT⟩
    have h11 := ok_is_integer B (mk a11) F11
    have h12 := ok_is_from_to B h11 (mk a12) F12
    have h13 := ok_is_list B (mk a13) F13
    have h14 := ok_is_tuple B (mk a14) F14
    have h15 := ok_ascends B (mk a15) F15
    have h18 := ok_is_event Nm h12 (mk a18) F18
    have h19 := ok_is_outcome B h18 h15 (mk a19) F19
    have h20 := ok_are_events_of B h19 (mk a20) F20
    have h22 := ok_are_events B h13 h18 h15 (mk a22) F22
    have h23 := ok_is_part h20 (mk a23) F23
    have h24 := ok_is_set B h14 h11 h23 (mk a24) F24
    have h25 := ok_are_sets B h13 h24 (mk a25) F25
    have h26 := ok_are_twins B h13 h14 h23 h15 (mk a26) F26
    have h39 := ok_do_cross B (mk a39) F39
    have h40 := ok_crossing B h39 (mk a40) F40
    have h44 := ok_coin_bar B h40 (mk a44) F44
    have h45 := ok_is_coin_bar B h11 (mk a45) F45
    have h46 := ok_bar_lack B N2 h45 (mk a46) F46
    have h48 := ok_cell B (mk a48) F48
    have h49 := ok_box B (mk a49) F49
    have h50 := ok_take B (mk a50) F50
    have h51 := ok_mixed B h50 (mk a51) F51
    have h52 := ok_same B (mk a52) F52 6
    have h53 := ok_copy B (mk a53) F53 5
    have h54 := ok_grown B (mk a54) F54
    have h55 := ok_family B h50 h51 (mk a55) F55
    have iF := ini_fam B h22 h25 h26 FF
    have C3 : Cls3 M CF CT CL := ⟨mk gF, mk gT, mk gL, ⟨iF1, iF2⟩, ⟨iT1, iT2⟩, ⟨iL1, iL2⟩, ⟨⟨f1, f2, f3, f4⟩, fha, hn, ht, fhm⟩, kit_self, ⟨⟨f1, f2, f3, f4⟩, n1, n2, n3⟩, ⟨mk gF, fF, fdF, ⟨m1, m2, m3, m4⟩, iF.1, iF.2⟩⟩
    have h56 := ok_object B C3 (mk a56) F56
    have h57 := ok_plains B C3 (mk a57) F57 2
    have Bd : BarDefs M CB := ⟨h44, h45, h46⟩
    have h58 := ok_called B Bd (mk a58) F58
    have Td : ToldDefs M CB CF := ⟨h53, h56, h58, h57, h52⟩
    have h59 := ok_told B C3 Bx Td (mk a59) F59
    have Rd : RefDefs M CB CF := ⟨h59, h54, h57, h52⟩
    have h60 := ok_refused B Rd (mk a60) F60
    have h61 := ok_told_same B Rd (mk a61) F61
    have h62 := ok_f B (mk a62) F62
    have h63 := ok_low B (mk a63) F63
    have h64 := ok_nest B h50 h51 h55 (mk a64) F64
    have h65 := ok_law_is_bar B (mk a65) F65
    have h66 := ok_bars B (mk a66) F66
    have h67 := ok_lack B h63 (mk a67) F67
    have Fd : FrDefs M CB CF := ⟨h50, h51, h52, h59, h60, h61, h62, h65, h66, h67⟩
    have h68 := ok_family_right B Fd (mk a68) F68
    have Cd : CrDefs M := ⟨h50, h51, h55, h64, h68⟩
    have h69 := ok_cell_right B Cd (mk a69) F69
    have h70 := ok_law B h48 h49 h69 (mk a70) F70
    exact h70
  obtain ⟨f', fd', m, F', hok⟩ := (go ⟨P, w, K, mg, base⟩ rfl).ex
  have e1 : f' = fa := by
    have := m.symm.trans (PySem.W.mg_of X G a70)
    cases this; rfl
  subst e1
  have e2 : fd' = fd70 := by
    obtain ⟨oc, od, kV, doc, pm, an, cdv, ct, osl, r1, lk, hcd⟩ := F70.ex
    obtain ⟨oc2, od2, kV2, doc2, pm2, an2, cdv2, ct2, osl2, r2, lk2, hcd2⟩ := F'.ex
    have := lk.symm.trans lk2
    cases this; rfl
  subst e2
  exact hok
end
/-! K31D: the end. -/
section
open PySem PySem.Spec PyProof.Rows L2 DL PySem.NumText
theorem law_sp {K : PySem.W.Frag} {H : Hp} {a : Addr} {ns : List Int} (hl : ns.length ≤ 63) (hS : SqL K H a (ns.map V.int)) : lift K spLaw [.ref a] H (fun v _ => v = .bl true) fun _ _ _ => False := by
  refine ⟨[.rls (ns.map .int)], ⟨H, fun _ => none⟩, Opens.none, fun d _ => d = .bl true, fun _ _ => False, Reps.cons ⟨a, _, rfl, hS, Reps.ints⟩ Reps.nil, ⟨fun _ _ h => h, (fun _ _ h => nomatch h), (fun _ _ h => nomatch h)⟩, ⟨ns, rfl, hl, fun _ => rfl⟩, fun d v F' O' H' _ _ r q => ?_, fun _ _ _ _ _ _ _ _ _ h => h⟩
  subst q
  exact r
theorem law_cx {P : Program} {w : World} {H : Hp} {s : Shared} {e : Value} {s' : Shared} (h : L2.CX P w [] H s (fun _ _ _ => False) e s') : False := by
  obtain ⟨_, _, _, _, _, _, _, _, _, _, _, _, h⟩ := h
  exact h
theorem walk_ofKW {l : PySem.W.OpenLaw} {n k : Nat} {q : Program} {loose : List Str} {XP : (Str → Option Value) → Heap → Prop} {YP : World → Heap → Prop} {d : DefRec} {K : Params → PySem.W.Frag} {CX : World → CXT} {sp : PySem.W.Frag → Sp} {x : Str}
    (hn : l.most = some n) (hn2 : n ≤ sizeLine) (hdf : d.params.defaults = []) (hr : Room k callerA)
    (hY : ∀ (w : World) (h : Heap), YP w h → (K w.params).In h)
    (F : ∀ (w : World) (mg : Str → Option Value) (fa : Addr) (h : Heap), (K w.params).In h → h.Ns mainGlobals mg → mg d.name = some (.ref fa) →
      ∃ fd : FuncData, (∀ (s : Shared) (u : Value), BindsTo s fd ⟨[u], []⟩ [(x, u)]) ∧
        ∀ base : Heap, (K w.params).In base → base.Ns mainGlobals mg → FnOk l.prog w (K w.params) mg base (CX w) k fa fd [x] (sp (K w.params)))
    (hsp : ∀ (K : PySem.W.Frag) (H : Hp) (a : Addr) (ns : List Int), ns.length ≤ n → Only H → SqL K H a (ns.map V.int) → sp K [.ref a] H (fun v _ => v = .bl true) fun _ _ _ => False)
    (hCX : ∀ (w : World) (H : Hp) (s : Shared) (e : Value) (s' : Shared), CX w [] H s (fun _ _ _ => False) e s' → False) :
    PySem.W.WalkO q loose XP YP l.row.toRowW d [] (fun f vs => PySem.call f vs) :=
  walk_of (K := K) (CX := CX) (sp := fun w => sp (K w.params)) hn hn2 hdf hr hY F (fun w H a ns h1 h2 h3 => hsp (K w.params) H a ns h1 h2 h3) hCX
end
end K30

open PySem PySem.W PyProof.Rows
set_option maxHeartbeats 0 in
theorem PySem.Challenge.cw_worsttogether_k30_bars_of_coins_holds : PySem.Challenge.rw_worsttogether_k30_bars_of_coins.Holds := by
  w_on; o_law; k_head; (case hw => w_witness2)
  k_fill
  refine K30.walk_ofKW (l := PySem.Challenge.rw_worsttogether_k30_bars_of_coins) (n := 63) (k := 16) (x := "script") (CX := fun w => L2.CX PySem.Challenge.rw_worsttogether_k30_bars_of_coins.prog w) (sp := fun K => DL.lift K K30.spLaw) rfl (by decide) rfl ⟨rfl, by decide, by decide⟩ (fun w h Y => PySem.W.kIn_of Y) ?F (fun K H a ns hl ho hS => K30.law_sp hl hS) (fun w H s e s' h => K30.law_cx h)
  case F =>
    intro w mg fa h KX G hmg
    replace hmg : mg (Str.ofString "law") = some (.ref fa) := hmg
    refine' K30.all_mk (mcE := .type "type") KX G hmg ?d11 ?d12 ?d13 ?d14 ?d15 ?d18 ?d19 ?d20 ?d22 ?d23 ?d24 ?d25 ?d26 ?d39 ?d40 ?d44 ?d45 ?d46 ?d48 ?d49 ?d50 ?d51 ?d52 ?d53 ?d54 ?d55 ?d56 ?d57 ?d58 ?d59 ?d60 ?d61 ?d62 ?d63 ?d64 ?d65 ?d66 ?d67 ?d68 ?d69 ?d70 ?gE ?cB ?tG ?FG ?eC ?eT ?eR ?eG ?eI ?hn ?ht ?gF ?gT ?gL ?iF1 ?iF2 ?iT1 ?iT2 ?iL1 ?iL2 ?f1 ?f2 ?f3 ?f4 ?fha ?fhm ?n1 ?n2 ?n3 ?m1 ?m2 ?m3 ?m4 ?FF ?nE ?gH ?lH ?gQ ?lQ ?b0 ?b1 ?b2 ?b3 ?b4 ?b5 ?b6 ?b7 ?b8 ?b9 ?b10 ?b11 ?b12 ?b13 ?b14 ?b15 ?b16
    case d11 => (refine' K30.defAt_mk ?da11 ?dl11 ?dc11 ?dk11; (case da11 => k_is); (case dl11 => k_is); (case dc11 => k_is); (case dk11 => k_is))
    case d12 => (refine' K30.defAt_mk ?da12 ?dl12 ?dc12 ?dk12; (case da12 => k_is); (case dl12 => k_is); (case dc12 => k_is); (case dk12 => k_is))
    case d13 => (refine' K30.defAt_mk ?da13 ?dl13 ?dc13 ?dk13; (case da13 => k_is); (case dl13 => k_is); (case dc13 => k_is); (case dk13 => k_is))
    case d14 => (refine' K30.defAt_mk ?da14 ?dl14 ?dc14 ?dk14; (case da14 => k_is); (case dl14 => k_is); (case dc14 => k_is); (case dk14 => k_is))
    case d15 => (refine' K30.defAt_mk ?da15 ?dl15 ?dc15 ?dk15; (case da15 => k_is); (case dl15 => k_is); (case dc15 => k_is); (case dk15 => k_is))
    case d18 => (refine' K30.defAt_mk ?da18 ?dl18 ?dc18 ?dk18; (case da18 => k_is); (case dl18 => k_is); (case dc18 => k_is); (case dk18 => k_is))
    case d19 => (refine' K30.defAt_mk ?da19 ?dl19 ?dc19 ?dk19; (case da19 => k_is); (case dl19 => k_is); (case dc19 => k_is); (case dk19 => k_is))
    case d20 => (refine' K30.defAt_mk ?da20 ?dl20 ?dc20 ?dk20; (case da20 => k_is); (case dl20 => k_is); (case dc20 => k_is); (case dk20 => k_is))
    case d22 => (refine' K30.defAt_mk ?da22 ?dl22 ?dc22 ?dk22; (case da22 => k_is); (case dl22 => k_is); (case dc22 => k_is); (case dk22 => k_is))
    case d23 => (refine' K30.defAt_mk ?da23 ?dl23 ?dc23 ?dk23; (case da23 => k_is); (case dl23 => k_is); (case dc23 => k_is); (case dk23 => k_is))
    case d24 => (refine' K30.defAt_mk ?da24 ?dl24 ?dc24 ?dk24; (case da24 => k_is); (case dl24 => k_is); (case dc24 => k_is); (case dk24 => k_is))
    case d25 => (refine' K30.defAt_mk ?da25 ?dl25 ?dc25 ?dk25; (case da25 => k_is); (case dl25 => k_is); (case dc25 => k_is); (case dk25 => k_is))
    case d26 => (refine' K30.defAt_mk ?da26 ?dl26 ?dc26 ?dk26; (case da26 => k_is); (case dl26 => k_is); (case dc26 => k_is); (case dk26 => k_is))
    case d39 => (refine' K30.defAt_mk ?da39 ?dl39 ?dc39 ?dk39; (case da39 => k_is); (case dl39 => k_is); (case dc39 => k_is); (case dk39 => k_is))
    case d40 => (refine' K30.defAt_mk ?da40 ?dl40 ?dc40 ?dk40; (case da40 => k_is); (case dl40 => k_is); (case dc40 => k_is); (case dk40 => k_is))
    case d44 => (refine' K30.defAt_mk ?da44 ?dl44 ?dc44 ?dk44; (case da44 => k_is); (case dl44 => k_is); (case dc44 => k_is); (case dk44 => k_is))
    case d45 => (refine' K30.defAt_mk ?da45 ?dl45 ?dc45 ?dk45; (case da45 => k_is); (case dl45 => k_is); (case dc45 => k_is); (case dk45 => k_is))
    case d46 => (refine' K30.defAt_mk ?da46 ?dl46 ?dc46 ?dk46; (case da46 => k_is); (case dl46 => k_is); (case dc46 => k_is); (case dk46 => k_is))
    case d48 => (refine' K30.defAt_mk ?da48 ?dl48 ?dc48 ?dk48; (case da48 => k_is); (case dl48 => k_is); (case dc48 => k_is); (case dk48 => k_is))
    case d49 => (refine' K30.defAt_mk ?da49 ?dl49 ?dc49 ?dk49; (case da49 => k_is); (case dl49 => k_is); (case dc49 => k_is); (case dk49 => k_is))
    case d50 => (refine' K30.defAt_mk ?da50 ?dl50 ?dc50 ?dk50; (case da50 => k_is); (case dl50 => k_is); (case dc50 => k_is); (case dk50 => k_is))
    case d51 => (refine' K30.defAt_mk ?da51 ?dl51 ?dc51 ?dk51; (case da51 => k_is); (case dl51 => k_is); (case dc51 => k_is); (case dk51 => k_is))
    case d52 => (refine' K30.defAt_mk ?da52 ?dl52 ?dc52 ?dk52; (case da52 => k_is); (case dl52 => k_is); (case dc52 => k_is); (case dk52 => k_is))
    case d53 => (refine' K30.defAt_mk ?da53 ?dl53 ?dc53 ?dk53; (case da53 => k_is); (case dl53 => k_is); (case dc53 => k_is); (case dk53 => k_is))
    case d54 => (refine' K30.defAt_mk ?da54 ?dl54 ?dc54 ?dk54; (case da54 => k_is); (case dl54 => k_is); (case dc54 => k_is); (case dk54 => k_is))
    case d55 => (refine' K30.defAt_mk ?da55 ?dl55 ?dc55 ?dk55; (case da55 => k_is); (case dl55 => k_is); (case dc55 => k_is); (case dk55 => k_is))
    case d56 => (refine' K30.defAt_mk ?da56 ?dl56 ?dc56 ?dk56; (case da56 => k_is); (case dl56 => k_is); (case dc56 => k_is); (case dk56 => k_is))
    case d57 => (refine' K30.defAt_mk ?da57 ?dl57 ?dc57 ?dk57; (case da57 => k_is); (case dl57 => k_is); (case dc57 => k_is); (case dk57 => k_is))
    case d58 => (refine' K30.defAt_mk ?da58 ?dl58 ?dc58 ?dk58; (case da58 => k_is); (case dl58 => k_is); (case dc58 => k_is); (case dk58 => k_is))
    case d59 => (refine' K30.defAt_mk ?da59 ?dl59 ?dc59 ?dk59; (case da59 => k_is); (case dl59 => k_is); (case dc59 => k_is); (case dk59 => k_is))
    case d60 => (refine' K30.defAt_mk ?da60 ?dl60 ?dc60 ?dk60; (case da60 => k_is); (case dl60 => k_is); (case dc60 => k_is); (case dk60 => k_is))
    case d61 => (refine' K30.defAt_mk ?da61 ?dl61 ?dc61 ?dk61; (case da61 => k_is); (case dl61 => k_is); (case dc61 => k_is); (case dk61 => k_is))
    case d62 => (refine' K30.defAt_mk ?da62 ?dl62 ?dc62 ?dk62; (case da62 => k_is); (case dl62 => k_is); (case dc62 => k_is); (case dk62 => k_is))
    case d63 => (refine' K30.defAt_mk ?da63 ?dl63 ?dc63 ?dk63; (case da63 => k_is); (case dl63 => k_is); (case dc63 => k_is); (case dk63 => k_is))
    case d64 => (refine' K30.defAt_mk ?da64 ?dl64 ?dc64 ?dk64; (case da64 => k_is); (case dl64 => k_is); (case dc64 => k_is); (case dk64 => k_is))
    case d65 => (refine' K30.defAt_mk ?da65 ?dl65 ?dc65 ?dk65; (case da65 => k_is); (case dl65 => k_is); (case dc65 => k_is); (case dk65 => k_is))
    case d66 => (refine' K30.defAt_mk ?da66 ?dl66 ?dc66 ?dk66; (case da66 => k_is); (case dl66 => k_is); (case dc66 => k_is); (case dk66 => k_is))
    case d67 => (refine' K30.defAt_mk ?da67 ?dl67 ?dc67 ?dk67; (case da67 => k_is); (case dl67 => k_is); (case dc67 => k_is); (case dk67 => k_is))
    case d68 => (refine' K30.defAt_mk ?da68 ?dl68 ?dc68 ?dk68; (case da68 => k_is); (case dl68 => k_is); (case dc68 => k_is); (case dk68 => k_is))
    case d69 => (refine' K30.defAt_mk ?da69 ?dl69 ?dc69 ?dk69; (case da69 => k_is); (case dl69 => k_is); (case dc69 => k_is); (case dk69 => k_is))
    case d70 => (refine' K30.defAt_mk ?da70 ?dl70 ?dc70 ?dk70; (case da70 => k_is); (case dl70 => k_is); (case dc70 => k_is); (case dk70 => k_is))
    case gE => k_is
    case cB => (refine' K30.clsAt_mk ?ca ?cx ?cs ?cg ?ch ?ci ?cj ?ck ?cl; (case ca => k_is); (case cx => k_is); (case cs => k_is); (case cg => k_is); (case ch => k_is); (case ci => k_is); (case cj => k_is); (case ck => k_is); (case cl => k_is))
    case tG => k_is
    case FG => (refine' L2.fun_mk ?lFG ?cFG ?kFG; (case lFG => k_is); (case cFG => k_is); (case kFG => k_is))
    case eC => k_is
    case eT => k_is
    case eR => k_is
    case eG => k_is
    case eI => k_is
    case hn => k_is
    case ht => k_is
    case gF => k_is
    case gT => k_is
    case gL => k_is
    case iF1 => k_is
    case iF2 => k_is
    case iT1 => k_is
    case iT2 => k_is
    case iL1 => k_is
    case iL2 => k_is
    case f1 => k_is
    case f2 => k_is
    case f3 => k_is
    case f4 => k_is
    case fha => k_is
    case fhm => k_is
    case n1 => k_is
    case n2 => k_is
    case n3 => k_is
    case m1 => k_is
    case m2 => k_is
    case m3 => k_is
    case m4 => k_is
    case FF => (refine' L2.fun_mk ?lFF ?cFF ?kFF; (case lFF => k_is); (case cFF => k_is); (case kFF => k_is))
    case nE => k_is
    case gH => k_is
    case lH => k_is
    case gQ => k_is
    case lQ => k_is
    case b0 => k_is
    case b1 => k_is
    case b2 => k_is
    case b3 => k_is
    case b4 => k_is
    case b5 => k_is
    case b6 => k_is
    case b7 => k_is
    case b8 => k_is
    case b9 => k_is
    case b10 => k_is
    case b11 => k_is
    case b12 => k_is
    case b13 => k_is
    case b14 => k_is
    case b15 => k_is
    case b16 => k_is
