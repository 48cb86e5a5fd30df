import PyProof.Rows.All
import Wide.All
import OpenK.AllK
import Wide.FinOn
import HandS.ForMost
import HandS.ForExc
import HandS.SetKeys
import HandS.ExcInit
import HandS.IsInst
import HandS.Style
import HandS.Flow
import HandS.TupAny
import HandS.FStr
import HandS.CallSlots
import HandS.WordsDict
import HandS.SetBool
import HandS.ExcIs
import HandS.TryOnly
import HandS.ExcOwn
import HandS.Conv
import HandS.SortInts
import HandS.List
import HandS.Defaults
import HandS.DictSub
import KE.KMathGC
import HandS.ExcField
import KE.KExcSuper
import KE.KSuper
import HandS.Dict
import HandS.More
import HandS.Iter
import HandS.Small
import PySem.Challenge.RW_drawnonce_k31_circles_and_closed_parts
set_option Elab.async false
set_option linter.all false
set_option maxRecDepth 100000
set_option maxHeartbeats 4000000
namespace DL
open PySem PySem.Spec PyProof.Rows L2

/-- data as trees; a cell is a changing object by its address -/
inductive Dat where
  | non | bl (b : Bool) | int (i : Int) | str (x : Str) | ty (n : String)
  | cell (a : Addr)
  | tup (ds : List Dat) | lst (ds : List Dat) | ro (ds : List Dat)
  | dic (ks : List Key) (ds : List Dat)
  | set (ks : List Key)
  | ins (C : Addr) (ns : List Str) (ds : List Dat)
  /-- a caught exception at a, its dict at dd -/
  | exn (a dd : Addr) (ns : List Str) (ds : List Dat)
  /-- an exception as a value -/
  | exv (C : Addr) (ns : List Str) (ds : List Dat)

structure Wd where
  P : Program
  w : World
  K : PySem.W.Frag

mutual
def At (W : Wd) (F : Hp) : Dat → V → Prop
  | .non, v => v = .non
  | .bl b, v => v = .bl b
  | .int i, v => v = .int i
  | .str x, v => v = .str x
  | .ty n, v => v = .ty n
  | .cell a, v => v = .ref a
  | .tup ds, v => ∃ p vs, v = .ref p ∧ SqT W.K F p vs ∧ AtL W F ds vs
  | .lst ds, v => ∃ p vs, v = .ref p ∧ F p = some (.lst vs) ∧ AtL W F ds vs
  | .ro ds, v => ∃ p vs, v = .ref p ∧ SqL W.K F p vs ∧ AtL W F ds vs
  | .dic ks ds, v => ∃ p vs, v = .ref p ∧ F p = some (.dK (ks.zip vs)) ∧ ks.length = vs.length ∧ AtL W F ds vs
  | .set ks, v => ∃ p S n, v = .ref p ∧ F p = some (SetK W.P W.w p S n) ∧ (∀ k, S k = true ↔ k ∈ ks)
  | .ins C ns ds, v => ∃ p dx vs, v = .ref p ∧ F p = some (.ins C dx (ns.zip vs)) ∧ ns.length = vs.length ∧ AtL W F ds vs
  | .exn a dd ns ds, v => v = .ref a ∧ ∃ vs, F dd = some (.xd (ns.zip vs)) ∧ ns.length = vs.length ∧ AtL W F ds vs
  | .exv C ns ds, v => ∃ p dx vs, v = .ref p ∧ F p = some (L2.exo p C (some dx)) ∧ F dx = some (L2.exd dx (ns.zip vs)) ∧ ns.length = vs.length ∧ AtL W F ds vs
def AtL (W : Wd) (F : Hp) : List Dat → List V → Prop
  | [], vs => vs = []
  | d :: ds, vs => ∃ v r, vs = v :: r ∧ At W F d v ∧ AtL W F ds r
end

def Ext (F F' : Hp) : Prop := ∀ a o, F a = some o → F' a = some o
theorem Ext.refl (F : Hp) : Ext F F := fun _ _ h => h
theorem Ext.trans {F G J : Hp} (a : Ext F G) (b : Ext G J) : Ext F J := fun x o h => b x o (a x o h)
theorem Ext.same {F F' : Hp} (a : Ext F F') : Same F F' := a
theorem Ext.rd {F F' : Hp} {a : Addr} {u : HO} (e : Ext F F') (h : Rd F a u) : Rd F' a u := by
  rcases h with h | ⟨o, h⟩
  · exact .inl (e _ _ h)
  · exact .inr ⟨o, e _ _ h⟩
theorem Ext.sql {K : PySem.W.Frag} {F F' : Hp} {a : Addr} {xs : List V} (e : Ext F F') (h : SqL K F a xs) : SqL K F' a xs := by
  rcases h with h | h
  · exact .inl (e.rd h)
  · exact .inr h
theorem Ext.sqt {K : PySem.W.Frag} {F F' : Hp} {a : Addr} {xs : List V} (e : Ext F F') (h : SqT K F a xs) : SqT K F' a xs := by
  rcases h with h | h
  · exact .inl (e.rd h)
  · exact .inr h

mutual
theorem At.mono {W : Wd} {F F' : Hp} (e : Ext F F') : ∀ (d : Dat) (v : V), At W F d v → At W F' d v
  | .non, _, h => h
  | .bl _, _, h => h
  | .int _, _, h => h
  | .str _, _, h => h
  | .ty _, _, h => h
  | .cell _, _, h => h
  | .tup ds, _, ⟨p, vs, a, b, c⟩ => ⟨p, vs, a, e.sqt b, AtL.mono e ds vs c⟩
  | .lst ds, _, ⟨p, vs, a, b, c⟩ => ⟨p, vs, a, e _ _ b, AtL.mono e ds vs c⟩
  | .ro ds, _, ⟨p, vs, a, b, c⟩ => ⟨p, vs, a, e.sql b, AtL.mono e ds vs c⟩
  | .dic _ ds, _, ⟨p, vs, a, b, l, c⟩ => ⟨p, vs, a, e _ _ b, l, AtL.mono e ds vs c⟩
  | .set _, _, ⟨p, S, n, a, b, c⟩ => ⟨p, S, n, a, e _ _ b, c⟩
  | .ins _ _ ds, _, ⟨p, dx, vs, a, b, l, c⟩ => ⟨p, dx, vs, a, e _ _ b, l, AtL.mono e ds vs c⟩
  | .exn _ _ _ ds, _, ⟨h, vs, b, l, c⟩ => ⟨h, vs, e _ _ b, l, AtL.mono e ds vs c⟩
  | .exv _ _ ds, _, ⟨p, dx, vs, a, b, b2, l, c⟩ => ⟨p, dx, vs, a, e _ _ b, e _ _ b2, l, AtL.mono e ds vs c⟩
theorem AtL.mono {W : Wd} {F F' : Hp} (e : Ext F F') : ∀ (ds : List Dat) (vs : List V), AtL W F ds vs → AtL W F' ds vs
  | [], _, h => h
  | d :: ds, _, ⟨v, r, a, b, c⟩ => ⟨v, r, a, At.mono e d v b, AtL.mono e ds r c⟩
end

section
variable {W : Wd} {F F' : Hp}
theorem AtL.length : ∀ {ds : List Dat} {vs : List V}, AtL W F ds vs → ds.length = vs.length
  | [], _, h => by
    cases h
    rfl
  | d :: ds, _, ⟨v, r, a, b, c⟩ => by
    subst a
    rw [List.length_cons, List.length_cons, AtL.length c]
theorem AtL.get : ∀ {ds : List Dat} {vs : List V} {i : Nat} {d : Dat}, AtL W F ds vs → ds[i]? = some d → ∃ v, vs[i]? = some v ∧ At W F d v
  | [], _, _, _, _, h => by simp at h
  | d :: ds, _, 0, x, ⟨v, r, a, b, c⟩, h => by
    subst a
    cases (Option.some.inj h : d = x)
    exact ⟨v, rfl, b⟩
  | d :: ds, _, i + 1, x, ⟨v, r, a, b, c⟩, h => by
    subst a
    obtain ⟨v', h1, h2⟩ := AtL.get (i := i) (d := x) c (by simpa using h)
    exact ⟨v', by simpa using h1, h2⟩
theorem AtL.nil : AtL W F [] [] := rfl
theorem AtL.cons {d : Dat} {ds : List Dat} {v : V} {vs : List V} (h : At W F d v) (t : AtL W F ds vs) : AtL W F (d :: ds) (v :: vs) := ⟨v, vs, rfl, h, t⟩
theorem AtL.append : ∀ {ds es : List Dat} {vs us : List V}, AtL W F ds vs → AtL W F es us → AtL W F (ds ++ es) (vs ++ us)
  | [], _, _, _, h, k => by
    cases h
    exact k
  | d :: ds, _, _, _, ⟨v, r, a, b, c⟩, k => by
    subst a
    exact ⟨v, r ++ _, rfl, b, AtL.append c k⟩
theorem AtL.take : ∀ {ds : List Dat} {vs : List V} (n : Nat), AtL W F ds vs → AtL W F (ds.take n) (vs.take n)
  | _, _, 0, _ => rfl
  | [], _, n + 1, h => by
    cases h
    rfl
  | d :: ds, _, n + 1, ⟨v, r, a, b, c⟩ => by
    subst a
    exact ⟨v, r.take n, rfl, b, AtL.take n c⟩
theorem AtL.drop : ∀ {ds : List Dat} {vs : List V} (n : Nat), AtL W F ds vs → AtL W F (ds.drop n) (vs.drop n)
  | _, _, 0, h => h
  | [], _, n + 1, h => by
    cases h
    rfl
  | d :: ds, _, n + 1, ⟨v, r, a, b, c⟩ => by
    subst a
    exact AtL.drop n c
theorem AtL.set : ∀ {ds : List Dat} {vs : List V} {d : Dat} {v : V} (i : Nat), At W F d v → AtL W F ds vs → AtL W F (ds.set i d) (vs.set i v)
  | [], _, _, _, _, _, h => by
    cases h
    rfl
  | x :: ds, _, _, _, 0, q, ⟨v, r, a, b, c⟩ => by
    subst a
    exact ⟨_, r, rfl, q, c⟩
  | x :: ds, _, _, _, i + 1, q, ⟨v, r, a, b, c⟩ => by
    subst a
    exact ⟨v, r.set i _, rfl, b, AtL.set i q c⟩
theorem AtL.reverse : ∀ {ds : List Dat} {vs : List V}, AtL W F ds vs → AtL W F ds.reverse vs.reverse
  | [], _, h => by
    cases h
    rfl
  | d :: ds, _, ⟨v, r, a, b, c⟩ => by
    subst a
    rw [List.reverse_cons, List.reverse_cons]
    exact AtL.append (AtL.reverse c) (AtL.cons b rfl)
end

/-- what changes -/
inductive Cell where
  | lst (ds : List Dat)
  | dK (ks : List Key) (ds : List Dat)
  | dT (ks : List (List Key)) (ds : List Dat)
  | set (ks : List Key)
  | ins (C : Addr) (ns : List Str) (ds : List Dat)
abbrev Mu := Addr → Option Cell
def mset (μ : Mu) (a : Addr) (c : Cell) : Mu := fun b => if b = a then some c else μ b
def mdel (μ : Mu) (a : Addr) : Mu := fun b => if b = a then none else μ b
def mu0 : Mu := fun _ => none

def CellAt (W : Wd) (F : Hp) (a : Addr) : Cell → Option HO → Prop
  | .lst ds, o => ∃ vs, o = some (.lst vs) ∧ AtL W F ds vs
  | .dK ks ds, o => ∃ vs, o = some (.dK (ks.zip vs)) ∧ ks.length = vs.length ∧ AtL W F ds vs
  | .dT ks ds, o => ∃ vs, o = some (.dT (ks.zip vs)) ∧ ks.length = vs.length ∧ AtL W F ds vs
  | .set ks, o => ∃ S n, o = some (SetK W.P W.w a S n) ∧ n ≤ ks.length ∧ (∀ k, S k = true ↔ k ∈ ks)
  | .ins C ns ds, o => ∃ dx vs, o = some (.ins C dx (ns.zip vs)) ∧ ns.length = vs.length ∧ AtL W F ds vs
theorem CellAt.mono {W : Wd} {F F' : Hp} (e : Ext F F') {a : Addr} : ∀ {c : Cell} {o : Option HO}, CellAt W F a c o → CellAt W F' a c o
  | .lst ds, _, ⟨vs, a, b⟩ => ⟨vs, a, AtL.mono e _ _ b⟩
  | .dK ks ds, _, ⟨vs, a, l, b⟩ => ⟨vs, a, l, AtL.mono e _ _ b⟩
  | .dT ks ds, _, ⟨vs, a, l, b⟩ => ⟨vs, a, l, AtL.mono e _ _ b⟩
  | .set ks, _, h => h
  | .ins C ns ds, _, ⟨dx, vs, a, l, b⟩ => ⟨dx, vs, a, l, AtL.mono e _ _ b⟩
theorem CellAt.some {W : Wd} {F : Hp} {a : Addr} : ∀ {c : Cell} {o : Option HO}, CellAt W F a c o → ∃ u, o = some u
  | .lst ds, _, ⟨vs, a, b⟩ => ⟨_, a⟩
  | .dK ks ds, _, ⟨vs, a, l, b⟩ => ⟨_, a⟩
  | .dT ks ds, _, ⟨vs, a, l, b⟩ => ⟨_, a⟩
  | .set ks, _, ⟨_, _, a, _⟩ => ⟨_, a⟩
  | .ins C ns ds, _, ⟨dx, vs, a, l, b⟩ => ⟨_, a⟩

/-- the abstract state is held by the heap -/
structure Rep (W : Wd) (F : Hp) (μ : Mu) (H : Hp) : Prop where
  ex : Ext F H
  cel : ∀ a c, μ a = some c → F a = none ∧ CellAt W F a c (H a)

/-- from one state to a later one -/
structure Step (F : Hp) (μ : Mu) (H F' : Hp) (μ' : Mu) (H' : Hp) : Prop where
  ex : Ext F F'
  fr : ∀ a o, H a = some o → μ a = none → H' a = some o
  nw : ∀ a o, H a = some o → μ a = none → F a = none → F' a = none
  mn : ∀ a o, H a = some o → μ a = none → μ' a = none
theorem Step.refl (F : Hp) (μ : Mu) (H : Hp) : Step F μ H F μ H := ⟨Ext.refl F, fun _ _ h _ => h, fun _ _ _ _ h => h, fun _ _ _ h => h⟩
theorem Step.trans {F G J : Hp} {μ ν ξ : Mu} {H I L : Hp} (a : Step F μ H G ν I) (b : Step G ν I J ξ L) : Step F μ H J ξ L :=
  ⟨a.ex.trans b.ex, fun x o h m => b.fr x o (a.fr x o h m) (a.mn x o h m), fun x o h m f => b.nw x o (a.fr x o h m) (a.mn x o h m) (a.nw x o h m f),
    fun x o h m => b.mn x o (a.fr x o h m) (a.mn x o h m)⟩

section
variable {W : Wd} {F F' : Hp} {μ μ' : Mu} {H H' : Hp} {p : Addr} {o : HO}
theorem Rep.mu_none (R : Rep W F μ H) (h : H p = none) : μ p = none := by
  cases q : μ p with
  | none => rfl
  | some c =>
    obtain ⟨u, e⟩ := (R.cel p c q).2.some
    rw [h] at e
    cases e
theorem Rep.f_none (R : Rep W F μ H) (h : H p = none) : F p = none := by
  cases q : F p with
  | none => rfl
  | some u =>
    rw [R.ex p u q] at h
    cases h
theorem Ext.new (h : F p = none) : Ext F (upd F p o) := fun a u e => by
  rw [upd_ne (ne_of_none e h)]
  exact e
/-- a new frozen object -/
theorem Rep.alloc (R : Rep W F μ H) (h : H p = none) : Rep W (upd F p o) μ (upd H p o) := by
  have hf := R.f_none h
  have hm := R.mu_none h
  refine ⟨fun a u e => ?_, fun a c e => ?_⟩
  · by_cases q : a = p
    · subst q
      rw [upd_same] at e ⊢
      exact e
    · rw [upd_ne q] at e ⊢
      exact R.ex a u e
  · have q : a ≠ p := fun z => by
      subst z
      rw [hm] at e
      cases e
    rw [upd_ne q, upd_ne q]
    obtain ⟨x, y⟩ := R.cel a c e
    exact ⟨x, y.mono (Ext.new hf)⟩
theorem Step.alloc (R : Rep W F μ H) (h : H p = none) : Step F μ H (upd F p o) μ (upd H p o) := by
  have hf := R.f_none h
  refine ⟨Ext.new hf, fun a u e _ => ?_, fun a u e _ f => ?_, fun _ _ _ m => m⟩
  · rw [upd_ne (ne_of_none e h)]
    exact e
  · rw [upd_ne (ne_of_none e h)]
    exact f
/-- a new changing object -/
theorem Rep.allocM {c : Cell} (R : Rep W F μ H) (h : H p = none) (hc : CellAt W F p c (some o)) : Rep W F (mset μ p c) (upd H p o) := by
  have hf := R.f_none h
  refine ⟨fun a u e => ?_, fun a d e => ?_⟩
  · rw [upd_ne (ne_of_none e hf)]
    exact R.ex a u e
  · by_cases q : a = p
    · subst q
      unfold mset at e
      rw [if_pos rfl] at e
      cases e
      exact ⟨hf, by rw [upd_same]; exact hc⟩
    · unfold mset at e
      rw [if_neg q] at e
      rw [upd_ne q]
      exact R.cel a d e
theorem Step.allocM {c : Cell} (R : Rep W F μ H) (h : H p = none) : Step F μ H F (mset μ p c) (upd H p o) := by
  refine ⟨Ext.refl F, fun a u e _ => ?_, fun a u e _ f => f, fun a u e m => ?_⟩
  · rw [upd_ne (ne_of_none e h)]
    exact e
  · unfold mset
    rw [if_neg (ne_of_none e h)]
    exact m
/-- a change -/
theorem Rep.write {c c' : Cell} (R : Rep W F μ H) (h : μ p = some c) (hc : CellAt W F p c' (some o)) : Rep W F (mset μ p c') (upd H p o) := by
  have hf := (R.cel p c h).1
  refine ⟨fun a u e => ?_, fun a d e => ?_⟩
  · rw [upd_ne (ne_of_none e hf)]
    exact R.ex a u e
  · by_cases q : a = p
    · subst q
      unfold mset at e
      rw [if_pos rfl] at e
      cases e
      exact ⟨hf, by rw [upd_same]; exact hc⟩
    · unfold mset at e
      rw [if_neg q] at e
      rw [upd_ne q]
      exact R.cel a d e
theorem Step.write {c c' : Cell} (h : μ p = some c) : Step F μ H F (mset μ p c') (upd H p o) := by
  refine ⟨Ext.refl F, fun a u e m => ?_, fun a u e _ f => f, fun a u e m => ?_⟩
  · have q : a ≠ p := fun z => by
      subst z
      rw [h] at m
      cases m
    rw [upd_ne q]
    exact e
  · have q : a ≠ p := fun z => by
      subst z
      rw [h] at m
      cases m
    unfold mset
    rw [if_neg q]
    exact m
/-- a changing object is frozen -/
theorem Rep.freeze {c : Cell} (R : Rep W F μ H) (h : μ p = some c) (ho : H p = some o) : Rep W (upd F p o) (mdel μ p) H := by
  have hf := (R.cel p c h).1
  refine ⟨fun a u e => ?_, fun a d e => ?_⟩
  · by_cases q : a = p
    · subst q
      rw [upd_same] at e
      rw [ho]
      exact e
    · rw [upd_ne q] at e
      exact R.ex a u e
  · have q : a ≠ p := fun z => by
      subst z
      unfold mdel at e
      rw [if_pos rfl] at e
      cases e
    unfold mdel at e
    rw [if_neg q] at e
    rw [upd_ne q]
    obtain ⟨x, y⟩ := R.cel a d e
    exact ⟨x, y.mono (Ext.new hf)⟩
theorem Step.freeze {c : Cell} (R : Rep W F μ H) (h : μ p = some c) : Step F μ H (upd F p o) (mdel μ p) H := by
  have hf := (R.cel p c h).1
  refine ⟨Ext.new hf, fun a u e _ => e, fun a u e m f => ?_, fun a u e m => ?_⟩
  · have q : a ≠ p := fun z => by
      subst z
      rw [h] at m
      cases m
    rw [upd_ne q]
    exact f
  · unfold mdel
    split
    · rfl
    · exact m
/-- forgetting cells -/
theorem Rep.less (R : Rep W F μ H) (h : ∀ a c, μ' a = some c → μ a = some c) : Rep W F μ' H := ⟨R.ex, fun a c e => R.cel a c (h a c e)⟩
end
theorem mset_same {μ : Mu} {a : Addr} {c : Cell} : mset μ a c a = some c := by
  unfold mset
  rw [if_pos rfl]
theorem mset_ne {μ : Mu} {a b : Addr} {c : Cell} (h : b ≠ a) : mset μ a c b = μ b := by
  unfold mset
  rw [if_neg h]
theorem mdel_same {μ : Mu} {a : Addr} : mdel μ a a = none := by
  unfold mdel
  rw [if_pos rfl]
theorem mdel_ne {μ : Mu} {a b : Addr} (h : b ≠ a) : mdel μ a b = μ b := by
  unfold mdel
  rw [if_neg h]
theorem mset_mset {μ : Mu} {a : Addr} {c d : Cell} : mset (mset μ a c) a d = mset μ a d := by
  funext b
  unfold mset
  split <;> rfl
theorem mdel_mset {μ : Mu} {a : Addr} {c : Cell} (h : μ a = none) : mdel (mset μ a c) a = μ := by
  funext b
  unfold mdel mset
  split
  · rename_i q
    rw [q, h]
  · rfl
theorem mset_comm {μ : Mu} {a b : Addr} {c d : Cell} (h : a ≠ b) : mset (mset μ a c) b d = mset (mset μ b d) a c := by
  funext x
  unfold mset
  by_cases p : x = a
  · subst p
    rw [if_neg h, if_pos rfl, if_pos rfl]
  · by_cases q : x = b
    · subst q
      rw [if_pos rfl, if_neg p, if_pos rfl]
    · rw [if_neg q, if_neg p, if_neg p, if_neg q]
end DL

namespace DL
open PySem PySem.Spec PyProof.Rows L2

structure AX where
  cls : Str
  fs : Option (List (Str × Dat))
abbrev Sl := List (Option Dat)
abbrev XP := AX → Sl → Mu → Prop
abbrev AQ := Dat → Mu → Prop
abbrev AE := XP → Sl → Mu → AQ → Prop
abbrev AT := XP → Sl → Mu → (Bool → Mu → Prop) → Prop
abbrev AA := XP → Sl → Mu → (List Dat → Mu → Prop) → Prop
structure AEnds where
  nx : Sl → Mu → Prop
  rt : AQ
  bk : Sl → Mu → Prop := fun _ _ => False
  ct : Sl → Mu → Prop := fun _ _ => False
  ex : XP := fun _ _ _ => False
abbrev AS := AEnds → Sl → Mu → Prop

/-- a world with the module's names -/
structure Wm extends Wd where
  mg : Str → Option Value
abbrev wm (X : Cx) : Wm := ⟨⟨X.prog, X.w, X.K⟩, X.mg⟩

def SlAt (W : Wd) (F : Hp) (ρ : Sl) (σ : L2.St) : Prop := ρ.length = σ.length ∧ ∀ (i : Nat) (d : Dat), ρ[i]? = some (some d) → ∃ v, σ[i]? = some (some v) ∧ At W F d v
theorem SlAt.mono {W : Wd} {F F' : Hp} {ρ : Sl} {σ : L2.St} (h : SlAt W F ρ σ) (e : Ext F F') : SlAt W F' ρ σ :=
  ⟨h.1, fun i d q => let ⟨v, a, b⟩ := h.2 i d q; ⟨v, a, At.mono e _ _ b⟩⟩
theorem SlAt.set {W : Wd} {F : Hp} {ρ : Sl} {σ : L2.St} {d : Dat} {v : V} (i : Nat) (h : SlAt W F ρ σ) (hd : At W F d v) : SlAt W F (ρ.set i (some d)) (σ.set i (some v)) := by
  refine ⟨by rw [List.length_set, List.length_set]; exact h.1, fun j e q => ?_⟩
  by_cases hj : i = j
  · subst hj
    by_cases hl : i < ρ.length
    · rw [List.getElem?_set_self hl] at q
      cases q
      exact ⟨v, by rw [List.getElem?_set_self (by rw [← h.1]; exact hl)], hd⟩
    · rw [List.getElem?_eq_none (by rw [List.length_set]; omega)] at q
      cases q
  · rw [List.getElem?_set_ne hj] at q ⊢
    exact h.2 j e q
theorem SlAt.unset {W : Wd} {F : Hp} {ρ : Sl} {σ : L2.St} {v : Option V} (i : Nat) (h : SlAt W F ρ σ) : SlAt W F (ρ.set i none) (σ.set i v) := by
  refine ⟨by rw [List.length_set, List.length_set]; exact h.1, fun j e q => ?_⟩
  by_cases hj : i = j
  · subst hj
    by_cases hl : i < ρ.length
    · rw [List.getElem?_set_self hl] at q
      cases q
    · rw [List.getElem?_eq_none (by rw [List.length_set]; omega)] at q
      cases q
  · rw [List.getElem?_set_ne hj] at q ⊢
    exact h.2 j e q

/-- an exception: its class by its name in the module, what its own dict holds -/
def ExcAt (W : Wm) (F : Hp) (x : AX) (cls : Value) (dd : Option Addr) : Prop :=
  ∃ C, W.mg x.cls = some (.ref C) ∧ cls = .ref C ∧ match x.fs with
    | none => dd = none
    | some l => ∃ d vs, dd = some d ∧ F d = some (.xd ((l.map (·.1)).zip vs)) ∧ l.length = vs.length ∧ AtL W.toWd F (l.map (·.2)) vs
theorem ExcAt.mono {W : Wm} {F F' : Hp} {x : AX} {cls : Value} {dd : Option Addr} (h : ExcAt W F x cls dd) (e : Ext F F') : ExcAt W F' x cls dd := by
  obtain ⟨C, a, b, c⟩ := h
  refine ⟨C, a, b, ?_⟩
  cases q : x.fs with
  | none =>
    rw [q] at c
    exact c
  | some l =>
    rw [q] at c
    obtain ⟨d, vs, h1, h2, h3, h4⟩ := c
    exact ⟨d, vs, h1, e _ _ h2, h3, AtL.mono e _ _ h4⟩

section
variable (W : Wm)
def Kont (F : Hp) (μ : Mu) (H : Hp) (Q : AQ) (R : VK) : Prop := ∀ F' μ' H' d v, Rep W.toWd F' μ' H' → Step F μ H F' μ' H' → At W.toWd F' d v → Q d μ' → R v H'
def KonB (F : Hp) (μ : Mu) (H : Hp) (Q : Bool → Mu → Prop) (R : Bool → Hp → Prop) : Prop := ∀ F' μ' H' b, Rep W.toWd F' μ' H' → Step F μ H F' μ' H' → Q b μ' → R b H'
def KonA (F : Hp) (μ : Mu) (H : Hp) (Q : List Dat → Mu → Prop) (R : List V → Hp → Prop) : Prop := ∀ F' μ' H' ds vs, Rep W.toWd F' μ' H' → Step F μ H F' μ' H' → AtL W.toWd F' ds vs → Q ds μ' → R vs H'
def KonX (F : Hp) (μ : Mu) (H : Hp) (Xp : XP) (WW : WX) (ρ : Sl) (σ : L2.St) : Prop := ∀ F' μ' H' x cls dd, Rep W.toWd F' μ' H' → Step F μ H F' μ' H' → ExcAt W F' x cls dd → Xp x ρ μ' → WW cls dd σ H'
structure Link (WW : WX) (F : Hp) (μ : Mu) (H : Hp) (AD : AEnds) (D : Ends) : Prop where
  nx : ∀ F' μ' H' ρ' σ', Rep W.toWd F' μ' H' → Step F μ H F' μ' H' → SlAt W.toWd F' ρ' σ' → AD.nx ρ' μ' → D.nx σ' H'
  rt : ∀ F' μ' H' d v, Rep W.toWd F' μ' H' → Step F μ H F' μ' H' → At W.toWd F' d v → AD.rt d μ' → D.rt v H'
  bk : ∀ F' μ' H' ρ' σ', Rep W.toWd F' μ' H' → Step F μ H F' μ' H' → SlAt W.toWd F' ρ' σ' → AD.bk ρ' μ' → D.bk σ' H'
  ct : ∀ F' μ' H' ρ' σ', Rep W.toWd F' μ' H' → Step F μ H F' μ' H' → SlAt W.toWd F' ρ' σ' → AD.ct ρ' μ' → D.ct σ' H'
  ex : ∀ F' μ' H' ρ' σ' x cls dd, Rep W.toWd F' μ' H' → Step F μ H F' μ' H' → SlAt W.toWd F' ρ' σ' → ExcAt W F' x cls dd → AD.ex x ρ' μ' → WW cls dd σ' H'

def SimE (WW : WX) (te : TE) (ae : AE) : Prop := ∀ F μ ρ σ H Xp Q R, Rep W.toWd F μ H → SlAt W.toWd F ρ σ → KonX W F μ H Xp WW ρ σ → ae Xp ρ μ Q → Kont W F μ H Q R → te σ H R
def SimT (WW : WX) (tt : TT) (at_ : AT) : Prop := ∀ F μ ρ σ H Xp Q R, Rep W.toWd F μ H → SlAt W.toWd F ρ σ → KonX W F μ H Xp WW ρ σ → at_ Xp ρ μ Q → KonB W F μ H Q R → tt σ H R
def SimA (WW : WX) (ta : TA) (aa : AA) : Prop := ∀ F μ ρ σ H Xp Q R, Rep W.toWd F μ H → SlAt W.toWd F ρ σ → KonX W F μ H Xp WW ρ σ → aa Xp ρ μ Q → KonA W F μ H Q R → ta σ H R
def SimS (WW : WX) (ts : TS) (as : AS) : Prop := ∀ F μ ρ σ H AD D, Rep W.toWd F μ H → SlAt W.toWd F ρ σ → Link W WW F μ H AD D → as AD ρ μ → ts D σ H
end
section
variable {W : Wm} {WW : WX} {F F' : Hp} {μ μ' : Mu} {H H' : Hp} {AD : AEnds} {D : Ends} {ρ : Sl} {σ : L2.St} {Xp : XP}
theorem Kont.step {Q : AQ} {R : VK} (k : Kont W F μ H Q R) (s : Step F μ H F' μ' H') : Kont W F' μ' H' Q R := fun _ _ _ _ _ r t a q => k _ _ _ _ _ r (s.trans t) a q
theorem KonB.step {Q : Bool → Mu → Prop} {R : Bool → Hp → Prop} (k : KonB W F μ H Q R) (s : Step F μ H F' μ' H') : KonB W F' μ' H' Q R := fun _ _ _ _ r t q => k _ _ _ _ r (s.trans t) q
theorem KonA.step {Q : List Dat → Mu → Prop} {R : List V → Hp → Prop} (k : KonA W F μ H Q R) (s : Step F μ H F' μ' H') : KonA W F' μ' H' Q R := fun _ _ _ _ _ r t a q => k _ _ _ _ _ r (s.trans t) a q
theorem KonX.step (k : KonX W F μ H Xp WW ρ σ) (s : Step F μ H F' μ' H') : KonX W F' μ' H' Xp WW ρ σ := fun _ _ _ _ _ _ r t a q => k _ _ _ _ _ _ r (s.trans t) a q
theorem Link.step (k : Link W WW F μ H AD D) (s : Step F μ H F' μ' H') : Link W WW F' μ' H' AD D :=
  ⟨fun _ _ _ _ _ r t a q => k.nx _ _ _ _ _ r (s.trans t) a q, fun _ _ _ _ _ r t a q => k.rt _ _ _ _ _ r (s.trans t) a q, fun _ _ _ _ _ r t a q => k.bk _ _ _ _ _ r (s.trans t) a q,
   fun _ _ _ _ _ r t a q => k.ct _ _ _ _ _ r (s.trans t) a q, fun _ _ _ _ _ _ _ _ r t a q z => k.ex _ _ _ _ _ _ _ _ r (s.trans t) a q z⟩
theorem Link.konx (k : Link W WW F μ H AD D) (sl : SlAt W.toWd F ρ σ) : KonX W F μ H AD.ex WW ρ σ := fun _ _ _ _ _ _ r t a q => k.ex _ _ _ _ _ _ _ _ r t (sl.mono t.ex) a q
end

/-- the context in which a body stands -/
structure Ctx (X : Cx) (WW : WX) : Prop where
  tk : Takes X WW
  hp : PassesOwn (model X.prog X.w) X.A X.env X.xe
  hc : X.calm = true
  nd : X.N.Nodup

structure DE (X : Cx) (WW : WX) (e : Expr) (te : TE) (ae : AE) : Prop where
  p : PE X e te
  s : SimE (wm X) WW te ae
structure DT (X : Cx) (WW : WX) (e : Expr) (tt : TT) (at_ : AT) : Prop where
  p : PT X e tt
  s : SimT (wm X) WW tt at_
structure DW (X : Cx) (WW : WX) (e : Expr) (tt : TT) (at_ : AT) : Prop where
  p : PW X e tt
  s : SimT (wm X) WW tt at_
structure DA (X : Cx) (WW : WX) (es : List Expr) (ta : TA) (aa : AA) : Prop where
  p : PA X es ta
  s : SimA (wm X) WW ta aa
structure DS (X : Cx) (WW : WX) (st : Stmt) (ts : TS) (as : AS) : Prop where
  p : PS X st ts
  s : SimS (wm X) WW ts as
structure DSs (X : Cx) (WW : WX) (st : List Stmt) (ts : TS) (as : AS) : Prop where
  p : PSs X st ts
  s : SimS (wm X) WW ts as

/-! ### expressions -/
def aVar (i : Nat) : AE := fun _ ρ μ Q => ∃ d, ρ[i]? = some (some d) ∧ Q d μ
def aC (d : Dat) : AE := fun _ _ μ Q => Q d μ
abbrev A2 := Dat → Dat → Mu → AQ → Prop
abbrev A1 := Dat → Mu → AQ → Prop
def aOp (f : A2) (a b : AE) : AE := fun Xp ρ μ Q => a Xp ρ μ fun x μ1 => b Xp ρ μ1 fun y μ2 => f x y μ2 Q
def aUn (f : A1) (a : AE) : AE := fun Xp ρ μ Q => a Xp ρ μ fun x μ1 => f x μ1 Q
def SimR2 (W : Wm) (r : R2) (f : A2) : Prop := ∀ F μ H x y d e Q R, Rep W.toWd F μ H → At W.toWd F d x → At W.toWd F e y → f d e μ Q → Kont W F μ H Q R → r x y H R
def SimR1 (W : Wm) (r : V → Hp → VK → Prop) (f : A1) : Prop := ∀ F μ H x d Q R, Rep W.toWd F μ H → At W.toWd F d x → f d μ Q → Kont W F μ H Q R → r x H R
abbrev AN := List Dat → Mu → AQ → Prop
def SimRN (W : Wm) (r : List V → Hp → VK → Prop) (f : AN) : Prop := ∀ F μ H xs ds Q R, Rep W.toWd F μ H → AtL W.toWd F ds xs → f ds μ Q → Kont W F μ H Q R → r xs H R

section
variable {X : Cx} {WW : WX} {W : Wm}
theorem Kont.here {F : Hp} {μ : Mu} {H : Hp} {Q : AQ} {R : VK} {d : Dat} {v : V} (k : Kont W F μ H Q R) (r : Rep W.toWd F μ H) (a : At W.toWd F d v) (q : Q d μ) : R v H := k _ _ _ _ _ r (Step.refl _ _ _) a q
theorem sim_var {i : Nat} : SimE W WW (tVar i) (aVar i) := by
  intro F μ ρ σ H Xp Q R rep sl kx ⟨d, e, q⟩ k
  obtain ⟨v, h1, h2⟩ := sl.2 i d e
  exact ⟨v, h1, k.here rep h2 q⟩
theorem sim_c {v : V} {d : Dat} (h : ∀ F, At W.toWd F d v) : SimE W WW (tC v) (aC d) := by
  intro F μ ρ σ H Xp Q R rep sl kx q k
  exact k.here rep (h F) q
theorem sim_op {ta tb : TE} {a b : AE} {r : R2} {f : A2} (ha : SimE W WW ta a) (hb : SimE W WW tb b) (hr : SimR2 W r f) : SimE W WW (tOp r ta tb) (aOp f a b) := by
  intro F μ ρ σ H Xp Q R rep sl kx h k
  refine ha F μ ρ σ H Xp _ _ rep sl kx h fun F1 μ1 H1 d v r1 s1 a1 h1 => ?_
  refine hb F1 μ1 ρ σ H1 Xp _ _ r1 (sl.mono s1.ex) (kx.step s1) h1 fun F2 μ2 H2 e u r2 s2 a2 h2 => ?_
  exact hr F2 μ2 H2 v u d e Q R r2 (At.mono s2.ex _ _ a1) a2 h2 (k.step (s1.trans s2))
theorem sim_un {ta : TE} {a : AE} {r : V → Hp → VK → Prop} {f : A1} (ha : SimE W WW ta a) (hr : SimR1 W r f) : SimE W WW (tUn r ta) (aUn f a) := by
  intro F μ ρ σ H Xp Q R rep sl kx h k
  refine ha F μ ρ σ H Xp _ _ rep sl kx h fun F1 μ1 H1 d v r1 s1 a1 h1 => ?_
  exact hr F1 μ1 H1 v d Q R r1 a1 h1 (k.step s1)
def aNil : AA := fun _ _ μ Q => Q [] μ
def aCons (a : AE) (t : AA) : AA := fun Xp ρ μ Q => a Xp ρ μ fun x μ1 => t Xp ρ μ1 fun xs μ2 => Q (x :: xs) μ2
theorem sim_nil : SimA W WW tNil aNil := by
  intro F μ ρ σ H Xp Q R rep sl kx q k
  exact k _ _ _ _ _ rep (Step.refl _ _ _) AtL.nil q
theorem sim_cons {ta : TE} {a : AE} {tr : TA} {t : AA} (ha : SimE W WW ta a) (ht : SimA W WW tr t) : SimA W WW (tCons ta tr) (aCons a t) := by
  intro F μ ρ σ H Xp Q R rep sl kx h k
  refine ha F μ ρ σ H Xp _ _ rep sl kx h fun F1 μ1 H1 d v r1 s1 a1 h1 => ?_
  refine ht F1 μ1 ρ σ H1 Xp _ _ r1 (sl.mono s1.ex) (kx.step s1) h1 fun F2 μ2 H2 ds vs r2 s2 a2 h2 => ?_
  exact k _ _ _ _ _ r2 (s1.trans s2) (AtL.cons (At.mono s2.ex _ _ a1) a2) h2
theorem line_le {n : Nat} (h : n ≤ 16777216) : n ≤ sizeLine := h
def aTup (t : AA) : AE := fun Xp ρ μ Q => t Xp ρ μ fun xs μ1 => xs.length ≤ 16777216 ∧ Q (.tup xs) μ1
def aLst (t : AA) : AE := fun Xp ρ μ Q => t Xp ρ μ fun xs μ1 => xs.length ≤ 16777216 ∧ Q (.lst xs) μ1
/-- a list that will change -/
def aLstM (t : AA) : AE := fun Xp ρ μ Q => t Xp ρ μ fun xs μ1 => xs.length ≤ 16777216 ∧ ∀ p, μ1 p = none → Q (.cell p) (mset μ1 p (.lst xs))
theorem at_newT {F : Hp} {p : Addr} {ds : List Dat} {vs : List V} (h : F p = none) (a : AtL W.toWd F ds vs) : At W.toWd (upd F p (.tup vs)) (.tup ds) (.ref p) := ⟨p, vs, rfl, .inl (.inl upd_same), AtL.mono (Ext.new h) _ _ a⟩
theorem at_newL {F : Hp} {p : Addr} {ds : List Dat} {vs : List V} (h : F p = none) (a : AtL W.toWd F ds vs) : At W.toWd (upd F p (.lst vs)) (.lst ds) (.ref p) := ⟨p, vs, rfl, upd_same, AtL.mono (Ext.new h) _ _ a⟩
theorem sim_tup {ta : TA} {t : AA} (h : SimA W WW ta t) : SimE W WW (tTup ta) (aTup t) := by
  intro F μ ρ σ H Xp Q R rep sl kx q k
  refine h F μ ρ σ H Xp _ _ rep sl kx q fun F1 μ1 H1 ds vs r1 s1 a1 ⟨hl, h1⟩ => ⟨?_, fun p hp => ?_⟩
  · rw [← a1.length]
    exact line_le hl
  · exact k _ _ _ _ _ (r1.alloc hp) (s1.trans (Step.alloc r1 hp)) (at_newT (r1.f_none hp) a1) h1
theorem sim_lst {ta : TA} {t : AA} (h : SimA W WW ta t) : SimE W WW (tLst ta) (aLst t) := by
  intro F μ ρ σ H Xp Q R rep sl kx q k
  refine h F μ ρ σ H Xp _ _ rep sl kx q fun F1 μ1 H1 ds vs r1 s1 a1 ⟨hl, h1⟩ => ⟨?_, fun p hp => ?_⟩
  · rw [← a1.length]
    exact line_le hl
  · exact k _ _ _ _ _ (r1.alloc hp) (s1.trans (Step.alloc r1 hp)) (at_newL (r1.f_none hp) a1) h1
theorem sim_lstM {ta : TA} {t : AA} (h : SimA W WW ta t) : SimE W WW (tLst ta) (aLstM t) := by
  intro F μ ρ σ H Xp Q R rep sl kx q k
  refine h F μ ρ σ H Xp _ _ rep sl kx q fun F1 μ1 H1 ds vs r1 s1 a1 ⟨hl, h1⟩ => ⟨?_, fun p hp => ?_⟩
  · rw [← a1.length]
    exact line_le hl
  · exact k _ _ _ _ _ (r1.allocM (c := .lst ds) hp ⟨vs, rfl, a1⟩) (s1.trans (Step.allocM r1 hp)) (show At W.toWd F1 (.cell p) (.ref p) from rfl) (h1 p (r1.mu_none hp))
/-- a cell becomes data -/
def aFrz (a : AE) : AE := fun Xp ρ μ Q => a Xp ρ μ fun x μ1 => ∃ p ds, x = .cell p ∧ μ1 p = some (.lst ds) ∧ Q (.lst ds) (mdel μ1 p)
theorem sim_frz {ta : TE} {a : AE} (h : SimE W WW ta a) : SimE W WW ta (aFrz a) := by
  intro F μ ρ σ H Xp Q R rep sl kx q k
  refine h F μ ρ σ H Xp _ _ rep sl kx q fun F1 μ1 H1 d v r1 s1 a1 ⟨p, ds, e, hm, h1⟩ => ?_
  subst e
  have ev : v = .ref p := a1
  subst ev
  obtain ⟨hf, vs, ho, al⟩ := r1.cel p _ hm
  exact k _ _ _ _ _ (r1.freeze hm ho) (s1.trans (Step.freeze r1 hm)) (at_newL hf al) h1

theorem de_var (i : Nat) {x : Str} {pos : Pos} (hN : X.N[i]? = some x := by rfl) (hv : Vis X.env.scope x := by first | exact Or.inl rfl | exact Or.inr (Or.inl rfl) | exact Or.inr (Or.inr rfl)) (hd : (x == ("__debug__" : Str)) = false := by decide)
    (hcd : (x == ("__classdict__" : Str)) = false := by decide) : DE X WW (.Name x pos) (tVar i) (aVar i) := ⟨pe_var hN hv hd hcd, sim_var⟩
theorem de_int {i : Int} {j pos} : DE X WW (.Constant (.int i) j pos) (tC (.int i)) (aC (.int i)) := ⟨pe_int, sim_c fun _ => rfl⟩
theorem de_bl {i : Bool} {j pos} : DE X WW (.Constant (.bool i) j pos) (tC (.bl i)) (aC (.bl i)) := ⟨pe_bl, sim_c fun _ => rfl⟩
theorem de_non {j pos} : DE X WW (.Constant .none j pos) (tC .non) (aC .non) := ⟨pe_non, sim_c fun _ => rfl⟩
theorem de_str {i : Str} {j pos} : DE X WW (.Constant (.str i) j pos) (tC (.str i)) (aC (.str i)) := ⟨pe_str, sim_c fun _ => rfl⟩
theorem de_op {op : Operator} {r : R2} {f : A2} {a b : Expr} {ta tb : TE} {aa ab : AE} {pos : Pos} (ho : OpR X (binaryOp op) r) (hr : SimR2 (wm X) r f) (ha : DE X WW a ta aa) (hb : DE X WW b tb ab) :
    DE X WW (.BinOp a op b pos) (tOp r ta tb) (aOp f aa ab) := ⟨pe_op ho ha.p hb.p, sim_op ha.s hb.s hr⟩
theorem de_un {op : UnaryOp} {r : V → Hp → VK → Prop} {f : A1} {a : Expr} {ta : TE} {aa : AE} {pos : Pos} (ho : UnR X (unaryOp op) r) (hr : SimR1 (wm X) r f) (ha : DE X WW a ta aa) :
    DE X WW (.UnaryOp op a pos) (tUn r ta) (aUn f aa) := ⟨pe_un ho ha.p, sim_un ha.s hr⟩
theorem de_cmp {op : CmpOp} {r : R2} {f : A2} {a b : Expr} {ta tb : TE} {aa ab : AE} {pos : Pos} (ho : OpR X (compareOp op) r) (hr : SimR2 (wm X) r f) (ha : DE X WW a ta aa) (hb : DE X WW b tb ab)
    (hm : behindInMarks op b = false) : DE X WW (.Compare a [op] [b] pos) (tOp r ta tb) (aOp f aa ab) := ⟨pe_cmpR ho ha.p hb.p hm, sim_op ha.s hb.s hr⟩
theorem da_nil : DA X WW [] tNil aNil := ⟨pa_nil, sim_nil⟩
theorem da_cons {e : Expr} {es : List Expr} {te : TE} {t : TA} {ae : AE} {aa : AA} (ha : DE X WW e te ae) (hr : DA X WW es t aa) (hs : starEach (e :: es) X.env = (false, eval e X.env) :: starEach es X.env := by rfl) :
    DA X WW (e :: es) (tCons te t) (aCons ae aa) := ⟨pa_cons ha.p hr.p hs, sim_cons ha.s hr.s⟩
theorem de_tup {es : List Expr} {x1} {pos : Pos} {t : TA} {aa : AA} (h : DA X WW es t aa) : DE X WW (.Tuple es x1 pos) (tTup t) (aTup aa) := ⟨pe_tup h.p, sim_tup h.s⟩
theorem de_lst {es : List Expr} {pos : Pos} {t : TA} {aa : AA} (h : DA X WW es t aa) : DE X WW (.List es pos) (tLst t) (aLst aa) := ⟨pe_lst h.p, sim_lst h.s⟩
theorem de_lstM {es : List Expr} {pos : Pos} {t : TA} {aa : AA} (h : DA X WW es t aa) : DE X WW (.List es pos) (tLst t) (aLstM aa) := ⟨pe_lst h.p, sim_lstM h.s⟩
theorem de_frz {e : Expr} {te : TE} {ae : AE} (h : DE X WW e te ae) : DE X WW e te (aFrz ae) := ⟨h.p, sim_frz h.s⟩
end
end DL

namespace DL
open PySem PySem.Spec PyProof.Rows L2

/-! ### reading sequences -/
def seqOf (μ : Mu) : Dat → Option (List Dat)
  | .tup ds => some ds
  | .lst ds => some ds
  | .ro ds => some ds
  | .cell a => match μ a with
    | some (.lst ds) => some ds
    | _ => none
  | _ => none
def lstOf (μ : Mu) : Dat → Option (List Dat)
  | .lst ds => some ds
  | .cell a => match μ a with
    | some (.lst ds) => some ds
    | _ => none
  | _ => none
def dicOf (μ : Mu) : Dat → Option (List Key × List Dat)
  | .dic ks ds => some (ks, ds)
  | .cell a => match μ a with
    | some (.dK ks ds) => some (ks, ds)
    | _ => none
  | _ => none
def setOf (μ : Mu) : Dat → Option (List Key)
  | .set ks => some ks
  | .cell a => match μ a with
    | some (.set ks) => some ks
    | _ => none
  | _ => none
@[simp] theorem seqOf_tup {μ : Mu} {ds : List Dat} : seqOf μ (.tup ds) = some ds := rfl
@[simp] theorem seqOf_lst {μ : Mu} {ds : List Dat} : seqOf μ (.lst ds) = some ds := rfl
@[simp] theorem seqOf_ro {μ : Mu} {ds : List Dat} : seqOf μ (.ro ds) = some ds := rfl
@[simp] theorem lstOf_lst {μ : Mu} {ds : List Dat} : lstOf μ (.lst ds) = some ds := rfl
theorem seqOf_cell {μ : Mu} {a : Addr} {ds : List Dat} (h : μ a = some (.lst ds)) : seqOf μ (.cell a) = some ds := by
  simp only [seqOf, h]
theorem lstOf_cell {μ : Mu} {a : Addr} {ds : List Dat} (h : μ a = some (.lst ds)) : lstOf μ (.cell a) = some ds := by
  simp only [lstOf, h]
section
variable {W : Wm} {F : Hp} {μ : Mu} {H : Hp}
theorem lst_at {d : Dat} {v : V} {ds : List Dat} (R : Rep W.toWd F μ H) (h : At W.toWd F d v) (e : lstOf μ d = some ds) : ∃ p vs, v = .ref p ∧ H p = some (.lst vs) ∧ AtL W.toWd F ds vs := by
  cases d with
  | lst es =>
    cases e
    obtain ⟨p, vs, a, b, c⟩ := h
    exact ⟨p, vs, a, R.ex _ _ b, c⟩
  | cell a =>
    unfold lstOf at e
    cases q : μ a with
    | none =>
      simp only [q] at e
      cases e
    | some c =>
      cases c with
      | lst es =>
        simp only [q] at e
        cases e
        obtain ⟨_, vs, ho, al⟩ := R.cel a _ q
        exact ⟨a, vs, h, ho, al⟩
      | dK _ _ =>
        simp only [q] at e
        cases e
      | dT _ _ =>
        simp only [q] at e
        cases e
      | set _ =>
        simp only [q] at e
        cases e
      | ins _ _ _ =>
        simp only [q] at e
        cases e
  | non => cases e
  | bl _ => cases e
  | int _ => cases e
  | str _ => cases e
  | ty _ => cases e
  | tup _ => cases e
  | ro _ => cases e
  | dic _ _ => cases e
  | set _ => cases e
  | ins _ _ _ => cases e
  | exn _ _ _ _ => cases e
  | exv _ _ _ => cases e
theorem seq_at {d : Dat} {v : V} {ds : List Dat} (R : Rep W.toWd F μ H) (h : At W.toWd F d v) (e : seqOf μ d = some ds) : ∃ p vs, v = .ref p ∧ (SqL W.K H p vs ∨ SqT W.K H p vs) ∧ AtL W.toWd F ds vs := by
  cases d with
  | lst es =>
    cases e
    obtain ⟨p, vs, a, b, c⟩ := h
    exact ⟨p, vs, a, .inl (.inl (.inl (R.ex _ _ b))), c⟩
  | tup es =>
    cases e
    obtain ⟨p, vs, a, b, c⟩ := h
    exact ⟨p, vs, a, .inr (R.ex.sqt b), c⟩
  | ro es =>
    cases e
    obtain ⟨p, vs, a, b, c⟩ := h
    exact ⟨p, vs, a, .inl (R.ex.sql b), c⟩
  | cell a =>
    obtain ⟨p, vs, x, y, z⟩ := lst_at (d := .cell a) R h e
    exact ⟨p, vs, x, .inl (.inl (.inl y)), z⟩
  | non => cases e
  | bl _ => cases e
  | int _ => cases e
  | str _ => cases e
  | ty _ => cases e
  | dic _ _ => cases e
  | set _ => cases e
  | ins _ _ _ => cases e
  | exn _ _ _ _ => cases e
  | exv _ _ _ => cases e
theorem dic_at {d : Dat} {v : V} {ks : List Key} {ds : List Dat} (R : Rep W.toWd F μ H) (h : At W.toWd F d v) (e : dicOf μ d = some (ks, ds)) : ∃ p vs, v = .ref p ∧ H p = some (.dK (ks.zip vs)) ∧ ks.length = vs.length ∧ AtL W.toWd F ds vs := by
  cases d with
  | dic ks es =>
    cases e
    obtain ⟨p, vs, a, b, l, c⟩ := h
    exact ⟨p, vs, a, R.ex _ _ b, l, c⟩
  | cell a =>
    unfold dicOf at e
    cases q : μ a with
    | none =>
      simp only [q] at e
      cases e
    | some c =>
      cases c with
      | dK es fs =>
        simp only [q] at e
        cases e
        obtain ⟨_, vs, ho, l, al⟩ := R.cel a _ q
        exact ⟨a, vs, h, ho, l, al⟩
      | lst _ =>
        simp only [q] at e
        cases e
      | dT _ _ =>
        simp only [q] at e
        cases e
      | set _ =>
        simp only [q] at e
        cases e
      | ins _ _ _ =>
        simp only [q] at e
        cases e
  | non => cases e
  | bl _ => cases e
  | int _ => cases e
  | str _ => cases e
  | ty _ => cases e
  | tup _ => cases e
  | lst _ => cases e
  | ro _ => cases e
  | set _ => cases e
  | ins _ _ _ => cases e
  | exn _ _ _ _ => cases e
  | exv _ _ _ => cases e
theorem set_at {d : Dat} {v : V} {ks : List Key} (R : Rep W.toWd F μ H) (h : At W.toWd F d v) (e : setOf μ d = some ks) : ∃ p S n, v = .ref p ∧ H p = some (SetK W.P W.w p S n) ∧ (∀ k, S k = true ↔ k ∈ ks) := by
  cases d with
  | set ks =>
    cases e
    obtain ⟨p, S, n, a, b, c⟩ := h
    exact ⟨p, S, n, a, R.ex _ _ b, c⟩
  | cell a =>
    unfold setOf at e
    cases q : μ a with
    | none =>
      simp only [q] at e
      cases e
    | some c =>
      cases c with
      | set es =>
        simp only [q] at e
        cases e
        obtain ⟨_, S, n, ho, l, al⟩ := R.cel a _ q
        exact ⟨a, S, n, h, ho, al⟩
      | lst _ =>
        simp only [q] at e
        cases e
      | dT _ _ =>
        simp only [q] at e
        cases e
      | dK _ _ =>
        simp only [q] at e
        cases e
      | ins _ _ _ =>
        simp only [q] at e
        cases e
  | non => cases e
  | bl _ => cases e
  | int _ => cases e
  | str _ => cases e
  | ty _ => cases e
  | tup _ => cases e
  | lst _ => cases e
  | ro _ => cases e
  | dic _ _ => cases e
  | ins _ _ _ => cases e
  | exn _ _ _ _ => cases e
  | exv _ _ _ => cases e
end

/-! ### operators -/
theorem OpR_or {X : Cx} {f : Value → Value → Sem Value} {r r' : R2} (h : OpR X f r) (h' : OpR X f r') : OpR X f (fun x y H Q => r x y H Q ∨ r' x y H Q) := by
  intro pins s σ H x y v u Q I rx ry q
  rcases q with q | q
  · exact h pins s σ H x y v u Q I rx ry q
  · exact h' pins s σ H x y v u Q I rx ry q
theorem CallR_or {X : Cx} {f : Value} {r r' : List V → Hp → VK → Prop} (h : CallR X f r) (h' : CallR X f r') : CallR X f (fun xs H Q => r xs H Q ∨ r' xs H Q) := by
  intro pins s σ H xs us Q I rs q
  rcases q with q | q
  · exact h pins s σ H xs us Q I rs q
  · exact h' pins s σ H xs us Q I rs q

def rAddI : R2 := rI0 fun i j => .int (i + j)
def rAddT : R2 := fun x y H Q => ∃ i j, x = .str i ∧ y = .str j ∧ i.length + j.length ≤ sizeLine ∧ Q (.str (i ++ j)) H
def rAddAny (K : PySem.W.Frag) : R2 := fun x y H Q => rAddI x y H Q ∨ rAddT x y H Q ∨ rCat x y H Q ∨ rCatT K x y H Q
theorem op_addAny {X : Cx} : OpR X (binaryOp .Add) (rAddAny X.K) := OpR_or op_add (OpR_or op_add_str (OpR_or op_cat op_catT))
def fAdd : A2 := fun x y μ Q => match x, y with
  | .int i, .int j => Q (.int (i + j)) μ
  | .str a, .str b => a.length + b.length ≤ 16777216 ∧ Q (.str (a ++ b)) μ
  | .tup a, .tup b => a ≠ [] ∧ a.length + b.length ≤ 16777216 ∧ Q (.tup (a ++ b)) μ
  | x, y => ∃ a b, lstOf μ x = some a ∧ lstOf μ y = some b ∧ a.length + b.length ≤ 16777216 ∧ Q (.lst (a ++ b)) μ
/-- the sum of two lists, to be changed -/
def fAddM : A2 := fun x y μ Q => ∃ a b, lstOf μ x = some a ∧ lstOf μ y = some b ∧ a.length + b.length ≤ 16777216 ∧ ∀ p, μ p = none → Q (.cell p) (mset μ p (.lst (a ++ b)))
section
variable {W : Wm}
theorem cat_core {F : Hp} {μ : Mu} {H : Hp} {x y : V} {d e : Dat} {a b : List Dat} {R : VK} (rep : Rep W.toWd F μ H) (hd : At W.toWd F d x) (he : At W.toWd F e y) (h1 : lstOf μ d = some a) (h2 : lstOf μ e = some b) (hl : a.length + b.length ≤ 16777216)
    (k : ∀ vs, AtL W.toWd F (a ++ b) vs → ∀ p, H p = none → R (.ref p) (upd H p (.lst vs))) : rCat x y H R := by
  obtain ⟨p, vs, rfl, hp, av⟩ := lst_at rep hd h1
  obtain ⟨q, us, rfl, hq, au⟩ := lst_at rep he h2
  refine ⟨p, q, vs, us, rfl, rfl, hp, hq, ?_, k _ (av.append au)⟩
  rw [← av.length, ← au.length]
  exact line_le hl
theorem sim_addL {F : Hp} {μ : Mu} {H : Hp} {x y : V} {d e : Dat} {Q : AQ} {R : VK} (rep : Rep W.toWd F μ H) (hd : At W.toWd F d x) (he : At W.toWd F e y) (h : ∃ a b, lstOf μ d = some a ∧ lstOf μ e = some b ∧ a.length + b.length ≤ 16777216 ∧ Q (.lst (a ++ b)) μ)
    (k : Kont W F μ H Q R) : rAddAny W.K x y H R := by
  obtain ⟨a, b, h1, h2, hl, q⟩ := h
  refine .inr (.inr (.inl (cat_core rep hd he h1 h2 hl fun vs av p hp => ?_)))
  exact k _ _ _ _ _ (rep.alloc hp) (Step.alloc rep hp) (at_newL (rep.f_none hp) av) q
theorem sim_add : SimR2 W (rAddAny W.K) fAdd := by
  intro F μ H x y d e Q R rep hd he h k
  unfold fAdd at h
  split at h
  · cases (show x = .int _ from hd)
    cases (show y = .int _ from he)
    exact .inl ⟨_, _, rfl, rfl, k.here rep (show At W.toWd F (.int _) (.int _) from rfl) h⟩
  · cases (show x = .str _ from hd)
    cases (show y = .str _ from he)
    exact .inr (.inl ⟨_, _, rfl, rfl, line_le h.1, k.here rep (show At W.toWd F (.str _) (.str _) from rfl) h.2⟩)
  · rename_i a b
    obtain ⟨p, vs, rfl, hp, av⟩ := hd
    obtain ⟨q, us, rfl, hq, au⟩ := he
    obtain ⟨ne, hl, h⟩ := h
    refine .inr (.inr (.inr ⟨p, q, vs, us, rfl, rfl, rep.ex.sqt hp, rep.ex.sqt hq, ?_, ?_, ?_⟩))
    · intro z
      have := av.length
      rw [z] at this
      exact ne (List.eq_nil_of_length_eq_zero this)
    · rw [← av.length, ← au.length]
      exact line_le hl
    · by_cases hu : us = []
      · subst hu
        have hb : b = [] := List.eq_nil_of_length_eq_zero (by rw [au.length]; rfl)
        subst hb
        rw [List.append_nil] at h
        exact ⟨fun _ => k.here (d := .tup a) rep ⟨p, vs, rfl, hp, av⟩ h, fun z => absurd rfl z⟩
      · refine ⟨fun z => absurd z hu, fun _ l hln => ?_⟩
        exact k _ _ _ _ _ (rep.alloc hln) (Step.alloc rep hln) (at_newT (rep.f_none hln) (av.append au)) h
  · exact sim_addL rep hd he h k
theorem sim_addM : SimR2 W (rAddAny W.K) fAddM := by
  intro F μ H x y d e Q R rep hd he h k
  obtain ⟨a, b, h1, h2, hl, q⟩ := h
  refine .inr (.inr (.inl (cat_core rep hd he h1 h2 hl fun vs av p hp => ?_)))
  exact k _ _ _ _ _ (rep.allocM (c := .lst _) hp ⟨vs, rfl, av⟩) (Step.allocM rep hp) (show At W.toWd F (.cell p) (.ref p) from rfl) (q p (rep.mu_none hp))

/-- two ints -/
def fII (C : Int → Int → Prop) (g : Int → Int → Dat) : A2 := fun x y μ Q => ∃ i j, x = .int i ∧ y = .int j ∧ C i j ∧ Q (g i j) μ
theorem sim_II {C C' : Int → Int → Prop} {g : Int → Int → V} {f : Int → Int → Dat} (hC : ∀ i j, C' i j → C i j) (hg : ∀ F i j, At W.toWd F (f i j) (g i j)) : SimR2 W (rI C g) (fII C' f) := by
  intro F μ H x y d e Q R rep hd he h k
  obtain ⟨i, j, rfl, rfl, c, q⟩ := h
  cases (show x = .int _ from hd)
  cases (show y = .int _ from he)
  exact ⟨i, j, rfl, rfl, hC _ _ c, k.here rep (hg _ _ _) q⟩
def fII0 (g : Int → Int → Dat) : A2 := fun x y μ Q => ∃ i j, x = .int i ∧ y = .int j ∧ Q (g i j) μ
theorem sim_II0 {g : Int → Int → V} {f : Int → Int → Dat} (hg : ∀ F i j, At W.toWd F (f i j) (g i j)) : SimR2 W (rI0 g) (fII0 f) := by
  intro F μ H x y d e Q R rep hd he h k
  obtain ⟨i, j, rfl, rfl, q⟩ := h
  cases (show x = .int _ from hd)
  cases (show y = .int _ from he)
  exact ⟨i, j, rfl, rfl, k.here rep (hg _ _ _) q⟩
abbrev fSub : A2 := fII0 fun i j => .int (i - j)
abbrev fMulI : A2 := fII (fun i j => (-18446744073709551616 < i ∧ i < 18446744073709551616) ∨ (-18446744073709551616 < j ∧ j < 18446744073709551616)) fun i j => .int (i * j)
abbrev fDiv : A2 := fII (fun _ j => 0 < j ∧ j < 1073741824) fun i j => .int (i / j)
abbrev fMod : A2 := fII (fun _ j => 0 < j) fun i j => .int (i % j)
abbrev fPow : A2 := fII (fun i j => 0 ≤ j ∧ j ≤ 1000000 ∧ i.natAbs < 18446744073709551616) fun i j => .int (i ^ j.toNat)
theorem sim_sub : SimR2 W (rI0 fun i j => .int (i - j)) fSub := sim_II0 fun _ _ _ => rfl
theorem sim_mulI : SimR2 W (rI CMul fun i j => .int (i * j)) fMulI := sim_II (fun _ _ h => h) fun _ _ _ => rfl
theorem sim_div : SimR2 W (rI CDiv fun i j => .int (i / j)) fDiv := sim_II (fun _ _ h => h) fun _ _ _ => rfl
theorem sim_mod : SimR2 W (rI (fun _ j => 0 < j) fun i j => .int (i % j)) fMod := sim_II (fun _ _ h => h) fun _ _ _ => rfl
theorem sim_pow : SimR2 W (rI CPow fun i j => .int (i ^ j.toNat)) fPow := sim_II (fun _ _ h => h) fun _ _ _ => rfl
def rMulAny : R2 := fun x y H Q => rI CMul (fun i j => .int (i * j)) x y H Q ∨ rRep x y H Q
theorem op_mulAny {X : Cx} : OpR X (binaryOp .Mult) rMulAny := OpR_or op_mul op_rep
def fMul : A2 := fun x y μ Q => match x with
  | .int _ => fMulI x y μ Q
  | x => ∃ a k, lstOf μ x = some a ∧ y = .int k ∧ -9223372036854775808 ≤ k ∧ k < 9223372036854775808 ∧ a.length * k.toNat ≤ 16777216 ∧ Q (.lst (List.replicate k.toNat a).flatten) μ
def fMulM : A2 := fun x y μ Q => ∃ a k, lstOf μ x = some a ∧ y = .int k ∧ -9223372036854775808 ≤ k ∧ k < 9223372036854775808 ∧ a.length * k.toNat ≤ 16777216 ∧ ∀ p, μ p = none → Q (.cell p) (mset μ p (.lst (List.replicate k.toNat a).flatten))
theorem AtL.rep {F : Hp} {ds : List Dat} {vs : List V} (h : AtL W.toWd F ds vs) : ∀ n : Nat, AtL W.toWd F (List.replicate n ds).flatten (List.replicate n vs).flatten
  | 0 => rfl
  | n + 1 => by
    rw [List.replicate_succ, List.flatten_cons, List.replicate_succ, List.flatten_cons]
    exact h.append (AtL.rep h n)
theorem rep_core {F : Hp} {μ : Mu} {H : Hp} {x : V} {d : Dat} {a : List Dat} {n : Int} {R : VK} (rep : Rep W.toWd F μ H) (hd : At W.toWd F d x) (h1 : lstOf μ d = some a) (b1 : -9223372036854775808 ≤ n) (b2 : n < 9223372036854775808) (hl : a.length * n.toNat ≤ 16777216)
    (k : ∀ vs, AtL W.toWd F (List.replicate n.toNat a).flatten vs → ∀ p, H p = none → R (.ref p) (upd H p (.lst vs))) : rRep x (.int n) H R := by
  obtain ⟨p, vs, rfl, hp, av⟩ := lst_at rep hd h1
  refine ⟨p, n, vs, rfl, rfl, hp, b1, b2, ?_, k _ (av.rep _)⟩
  rw [← av.length]
  exact line_le hl
theorem sim_mul : SimR2 W rMulAny fMul := by
  intro F μ H x y d e Q R rep hd he h k
  have key : (∃ a n, lstOf μ d = some a ∧ e = .int n ∧ -9223372036854775808 ≤ n ∧ n < 9223372036854775808 ∧ a.length * n.toNat ≤ 16777216 ∧ Q (.lst (List.replicate n.toNat a).flatten) μ) → rMulAny x y H R := fun ⟨a, n, h1, h2, b1, b2, hl, q⟩ => by
    subst h2
    cases (show y = .int _ from he)
    refine .inr (rep_core rep hd h1 b1 b2 hl fun vs av p hp => ?_)
    exact k _ _ _ _ _ (rep.alloc hp) (Step.alloc rep hp) (at_newL (rep.f_none hp) av) q
  unfold fMul at h
  split at h
  · exact .inl (sim_mulI F μ H x y _ e Q R rep hd he h k)
  · exact key h
theorem sim_mulM : SimR2 W rMulAny fMulM := by
  intro F μ H x y d e Q R rep hd he ⟨a, n, h1, h2, b1, b2, hl, q⟩ k
  subst h2
  cases (show y = .int _ from he)
  refine .inr (rep_core rep hd h1 b1 b2 hl fun vs av p hp => ?_)
  exact k _ _ _ _ _ (rep.allocM (c := .lst _) hp ⟨vs, rfl, av⟩) (Step.allocM rep hp) (show At W.toWd F (.cell p) (.ref p) from rfl) (q p (rep.mu_none hp))

/-! comparisons of ints -/
abbrev fLt : A2 := fII0 fun i j => .bl (decide (i < j))
abbrev fLe : A2 := fII0 fun i j => .bl (decide (i ≤ j))
abbrev fGt : A2 := fII0 fun i j => .bl (decide (j < i))
abbrev fGe : A2 := fII0 fun i j => .bl (decide (j ≤ i))
theorem sim_lt : SimR2 W (rI0 fun i j => .bl (decide (i < j))) fLt := sim_II0 fun _ _ _ => rfl
theorem sim_le : SimR2 W (rI0 fun i j => .bl (decide (i ≤ j))) fLe := sim_II0 fun _ _ _ => rfl
theorem sim_gt : SimR2 W (rI0 fun i j => .bl (decide (j < i))) fGt := sim_II0 fun _ _ _ => rfl
theorem sim_ge : SimR2 W (rI0 fun i j => .bl (decide (j ≤ i))) fGe := sim_II0 fun _ _ _ => rfl

/-! == and != -/
mutual
def pyOf : Dat → Option PyData
  | .non => some .none
  | .bl b => some (.bool b)
  | .int i => some (.int i)
  | .str x => some (.str x)
  | .tup ds => (pyOfL ds).map .tuple
  | .lst ds => (pyOfL ds).map .list
  | .ro ds => (pyOfL ds).map .list
  | _ => none
def pyOfL : List Dat → Option (List PyData)
  | [] => some []
  | d :: ds => match pyOf d, pyOfL ds with
    | some x, some xs => some (x :: xs)
    | _, _ => none
end
def pyTop (μ : Mu) (d : Dat) : Option PyData := match d with
  | .cell _ => (lstOf μ d).bind fun ds => (pyOfL ds).map .list
  | d => pyOf d
mutual
theorem dp_of {F : Hp} : ∀ (d : Dat) (v : V) (x : PyData), At W.toWd F d v → pyOf d = some x → Dp W.K F v x
  | .non, _, _, h, e => by cases e; cases (show _ = V.non from h); exact .non
  | .bl b, _, _, h, e => by cases e; cases (show _ = V.bl b from h); exact .bl b
  | .int i, _, _, h, e => by cases e; cases (show _ = V.int i from h); exact .int i
  | .str s, _, _, h, e => by cases e; cases (show _ = V.str s from h); exact .str s
  | .tup ds, _, _, ⟨p, vs, a, b, c⟩, e => by
    subst a
    simp only [pyOf] at e
    cases q : pyOfL ds with
    | none => rw [q] at e; cases e
    | some xs => rw [q] at e; cases e; exact .tup b (dp_ofL ds vs xs c q)
  | .lst ds, _, _, ⟨p, vs, a, b, c⟩, e => by
    subst a
    simp only [pyOf] at e
    cases q : pyOfL ds with
    | none => rw [q] at e; cases e
    | some xs => rw [q] at e; cases e; exact .lst (.inl (.inl b)) (dp_ofL ds vs xs c q)
  | .ro ds, _, _, ⟨p, vs, a, b, c⟩, e => by
    subst a
    simp only [pyOf] at e
    cases q : pyOfL ds with
    | none => rw [q] at e; cases e
    | some xs => rw [q] at e; cases e; exact .lst b (dp_ofL ds vs xs c q)
  | .ty _, _, _, _, e => by cases e
  | .cell _, _, _, _, e => by cases e
  | .dic _ _, _, _, _, e => by cases e
  | .set _, _, _, _, e => by cases e
  | .ins _ _ _, _, _, _, e => by cases e
  | .exn _ _ _ _, _, _, _, e => by cases e
  | .exv _ _ _, _, _, _, e => by cases e
theorem dp_ofL {F : Hp} : ∀ (ds : List Dat) (vs : List V) (xs : List PyData), AtL W.toWd F ds vs → pyOfL ds = some xs → DpAll W.K F vs xs
  | [], _, _, h, e => by cases e; cases (show _ = [] from h); exact .nil
  | d :: ds, _, _, ⟨v, r, a, b, c⟩, e => by
    subst a
    simp only [pyOfL] at e
    cases q : pyOf d with
    | none => rw [q] at e; cases e
    | some x =>
      cases q2 : pyOfL ds with
      | none => rw [q, q2] at e; cases e
      | some xs => rw [q, q2] at e; cases e; exact .cons (dp_of d v x b q) (dp_ofL ds r xs c q2)
end
mutual
theorem Dp_ext {K : PySem.W.Frag} {F F' : Hp} (e : Ext F F') : ∀ (x : PyData) (v : V), Dp K F v x → Dp K F' v x
  | .none, _, h => by cases h; exact .non
  | .bool b, _, h => by cases h; exact .bl b
  | .int i, _, h => by cases h; exact .int i
  | .str s, _, h => by cases h; exact .str s
  | .list xs, _, h => by
    cases h with
    | lst a b => exact .lst (e.sql a) (Dp_extL e xs _ b)
  | .tuple xs, _, h => by
    cases h with
    | tup a b => exact .tup (e.sqt a) (Dp_extL e xs _ b)
  | .dict _, _, h => by cases h
theorem Dp_extL {K : PySem.W.Frag} {F F' : Hp} (e : Ext F F') : ∀ (xs : List PyData) (vs : List V), DpAll K F vs xs → DpAll K F' vs xs
  | [], _, h => by cases h; exact .nil
  | x :: xs, _, h => by
    cases h with
    | cons a b => exact .cons (Dp_ext e x _ a) (Dp_extL e xs _ b)
end
theorem dp_top {F : Hp} {μ : Mu} {H : Hp} {d : Dat} {v : V} {x : PyData} (R : Rep W.toWd F μ H) (h : At W.toWd F d v) (e : pyTop μ d = some x) : Dp W.K H v x := by
  cases d with
  | cell a =>
    simp only [pyTop] at e
    cases q : lstOf μ (.cell a) with
    | none => rw [q] at e; cases e
    | some ds =>
      rw [q] at e
      obtain ⟨p, vs, rfl, hp, al⟩ := lst_at R h q
      simp only [Option.bind_some] at e
      cases q2 : pyOfL ds with
      | none => rw [q2] at e; cases e
      | some xs => rw [q2] at e; cases e; exact .lst (.inl (.inl hp)) (Dp_extL R.ex _ _ (dp_ofL ds vs xs al q2))
  | non => exact Dp_ext R.ex _ _ (dp_of _ v x h e)
  | bl _ => exact Dp_ext R.ex _ _ (dp_of _ v x h e)
  | int _ => exact Dp_ext R.ex _ _ (dp_of _ v x h e)
  | str _ => exact Dp_ext R.ex _ _ (dp_of _ v x h e)
  | ty _ => exact Dp_ext R.ex _ _ (dp_of _ v x h e)
  | tup _ => exact Dp_ext R.ex _ _ (dp_of _ v x h e)
  | lst _ => exact Dp_ext R.ex _ _ (dp_of _ v x h e)
  | ro _ => exact Dp_ext R.ex _ _ (dp_of _ v x h e)
  | dic _ _ => exact Dp_ext R.ex _ _ (dp_of _ v x h e)
  | set _ => exact Dp_ext R.ex _ _ (dp_of _ v x h e)
  | ins _ _ _ => exact Dp_ext R.ex _ _ (dp_of _ v x h e)
  | exn _ _ _ _ => exact Dp_ext R.ex _ _ (dp_of _ v x h e)
  | exv _ _ _ => exact Dp_ext R.ex _ _ (dp_of _ v x h e)
/-- the answer of == -/
def eqB (μ : Mu) : Dat → Dat → Bool → Prop := fun x y b => match x, y with
  | .int i, .int j => b = decide (i = j)
  | .str i, .str j => b = decide (i = j)
  | .bl i, .bl j => b = decide (i = j)
  | x, y => ∃ d e, pyTop μ x = some d ∧ pyTop μ y = some e ∧ SeqAt.shaped d = true ∧ SeqAt.shaped e = true ∧ b = PyData.eqv d e
def fEq : A2 := fun x y μ Q => ∃ b, eqB μ x y b ∧ Q (.bl b) μ
def fNe : A2 := fun x y μ Q => ∃ b, eqB μ x y b ∧ Q (.bl (!b)) μ
def rEqAny (K : PySem.W.Frag) : R2 := fun x y H Q => rEq x y H Q ∨ rEqD K x y H Q
def rNeAny (K : PySem.W.Frag) : R2 := fun x y H Q => rNe x y H Q ∨ rNeD K x y H Q
theorem op_eqAny {X : Cx} (hu : X.A.units + 64 < cLine) : OpR X (compareOp .Eq) (rEqAny X.K) := OpR_or op_eq (op_eqD hu)
theorem op_neAny {X : Cx} (hu : X.A.units + 64 < cLine) : OpR X (compareOp .NotEq) (rNeAny X.K) := OpR_or op_ne (op_neD hu)
theorem decide_int {i j : Int} : decide (V.int i = V.int j) = decide (i = j) := by
  by_cases h : i = j
  · subst h
    simp
  · rw [decide_eq_false h, decide_eq_false (fun z => h (V.int.inj z))]
theorem decide_str {i j : Str} : decide (V.str i = V.str j) = decide (i = j) := by
  by_cases h : i = j
  · subst h
    simp
  · rw [decide_eq_false h, decide_eq_false (fun z => h (V.str.inj z))]
theorem decide_bl {i j : Bool} : decide (V.bl i = V.bl j) = decide (i = j) := by
  by_cases h : i = j
  · subst h
    simp
  · rw [decide_eq_false h, decide_eq_false (fun z => h (V.bl.inj z))]
theorem sim_eq : SimR2 W (rEqAny W.K) fEq := by
  intro F μ H x y d e Q R rep hd he ⟨b, hb, q⟩ k
  have q' : R (.bl b) H := k.here rep (show At W.toWd F (.bl b) (.bl b) from rfl) q
  unfold eqB at hb
  split at hb
  · cases (show x = .int _ from hd)
    cases (show y = .int _ from he)
    subst hb
    exact .inl ⟨rfl, by rw [decide_int]; exact q'⟩
  · cases (show x = .str _ from hd)
    cases (show y = .str _ from he)
    subst hb
    exact .inl ⟨rfl, by rw [decide_str]; exact q'⟩
  · cases (show x = .bl _ from hd)
    cases (show y = .bl _ from he)
    subst hb
    exact .inl ⟨rfl, by rw [decide_bl]; exact q'⟩
  · obtain ⟨d', e', h1, h2, h3, h4, rfl⟩ := hb
    exact .inr ⟨d', e', dp_top rep hd h1, dp_top rep he h2, h3, h4, q'⟩
theorem sim_ne : SimR2 W (rNeAny W.K) fNe := by
  intro F μ H x y d e Q R rep hd he ⟨b, hb, q⟩ k
  have q' : R (.bl (!b)) H := k.here rep (show At W.toWd F (.bl (!b)) (.bl (!b)) from rfl) q
  unfold eqB at hb
  split at hb
  · cases (show x = .int _ from hd)
    cases (show y = .int _ from he)
    subst hb
    exact .inl ⟨rfl, by rw [decide_int]; exact q'⟩
  · cases (show x = .str _ from hd)
    cases (show y = .str _ from he)
    subst hb
    exact .inl ⟨rfl, by rw [decide_str]; exact q'⟩
  · cases (show x = .bl _ from hd)
    cases (show y = .bl _ from he)
    subst hb
    exact .inl ⟨rfl, by rw [decide_bl]; exact q'⟩
  · obtain ⟨d', e', h1, h2, h3, h4, rfl⟩ := hb
    exact .inr ⟨d', e', dp_top rep hd h1, dp_top rep he h2, h3, h4, q'⟩
end
end DL

namespace DL
open PySem PySem.Spec PyProof.Rows L2
section
variable {W : Wm}
/-! ### in, not in -/
def keyOf : Dat → Option Key
  | .int i => some (.inl i)
  | .str x => some (.inr x)
  | _ => none
theorem key_at {F : Hp} {d : Dat} {v : V} {k : Key} (h : At W.toWd F d v) (e : keyOf d = some k) : v = kV k := by
  cases d <;> first | (cases e; exact h) | cases e
def flatD : Dat → Bool
  | .non => true
  | .bl _ => true
  | .int _ => true
  | .str _ => true
  | _ => false
def eqF : Dat → Dat → Bool
  | .non, .non => true
  | .bl a, .bl b => a == b
  | .bl a, .int b => (if a then 1 else 0) == b
  | .int a, .bl b => a == (if b then 1 else 0)
  | .int a, .int b => a == b
  | .str a, .str b => a == b
  | _, _ => false
def inF (x : Dat) (xs : List Dat) : Bool := xs.any fun y => eqF y x
theorem flat_at {F : Hp} {d : Dat} {v : V} (h : At W.toWd F d v) (f : flatD d = true) : flatV v = true := by
  cases d with
  | non => cases (show v = .non from h); rfl
  | bl b => cases (show v = .bl b from h); rfl
  | int i => cases (show v = .int i from h); rfl
  | str s => cases (show v = .str s from h); rfl
  | _ => cases f
theorem eqF_at {F : Hp} {d e : Dat} {v u : V} (h : At W.toWd F d v) (k : At W.toWd F e u) (f : flatD d = true) (g : flatD e = true) : eqV v u = eqF d e := by
  cases d with
  | non => cases (show v = .non from h); cases e with
    | non => cases (show u = .non from k); rfl
    | bl b => cases (show u = .bl b from k); rfl
    | int i => cases (show u = .int i from k); rfl
    | str s => cases (show u = .str s from k); rfl
    | _ => cases g
  | bl b => cases (show v = .bl b from h); cases e with
    | non => cases (show u = .non from k); rfl
    | bl b => cases (show u = .bl b from k); rfl
    | int i => cases (show u = .int i from k); rfl
    | str s => cases (show u = .str s from k); rfl
    | _ => cases g
  | int i => cases (show v = .int i from h); cases e with
    | non => cases (show u = .non from k); rfl
    | bl b => cases (show u = .bl b from k); rfl
    | int i => cases (show u = .int i from k); rfl
    | str s => cases (show u = .str s from k); rfl
    | _ => cases g
  | str s => cases (show v = .str s from h); cases e with
    | non => cases (show u = .non from k); rfl
    | bl b => cases (show u = .bl b from k); rfl
    | int i => cases (show u = .int i from k); rfl
    | str s => cases (show u = .str s from k); rfl
    | _ => cases g
  | _ => cases f
theorem inF_at {F : Hp} {x : Dat} {v : V} (hx : At W.toWd F x v) (fx : flatD x = true) : ∀ {ds : List Dat} {vs : List V}, AtL W.toWd F ds vs → ds.all flatD = true → inV v vs = inF x ds ∧ vs.all flatV = true
  | [], _, h, _ => by
    cases (show _ = [] from h)
    exact ⟨rfl, rfl⟩
  | d :: ds, _, ⟨u, r, a, b, c⟩, f => by
    subst a
    rw [List.all_cons, Bool.and_eq_true] at f
    obtain ⟨h1, h2⟩ := inF_at hx fx c f.2
    refine ⟨?_, ?_⟩
    · unfold inV inF at h1 ⊢
      rw [List.any_cons, List.any_cons, h1, eqF_at b hx f.1 fx]
    · rw [List.all_cons, h2, flat_at b f.1]
      rfl
/-- the answer of in -/
def inB (μ : Mu) (x y : Dat) (b : Bool) : Prop :=
  (∃ ds, seqOf μ y = some ds ∧ flatD x = true ∧ ds.all flatD = true ∧ b = inF x ds) ∨
  (∃ ks k, setOf μ y = some ks ∧ keyOf x = some k ∧ (b = true ↔ k ∈ ks)) ∨
  (∃ ks ds k, dicOf μ y = some (ks, ds) ∧ keyOf x = some k ∧ (b = true ↔ k ∈ ks)) ∨
  (∃ s t, x = .str s ∧ y = .str t ∧ b = !(Builtin.Str.occurrences t s 0 t.length 1).isEmpty)
def fIn : A2 := fun x y μ Q => ∃ b, inB μ x y b ∧ Q (.bl b) μ
def fNotIn : A2 := fun x y μ Q => ∃ b, inB μ x y b ∧ Q (.bl (!b)) μ
def rDIn (neg : Bool) : R2 := fun y x H Q => ∃ a o, x = .ref a ∧ DGet H a y o ∧ Q (.bl (if neg then !o.isSome else o.isSome)) H
theorem op_dIn {X : Cx} (hu : X.A.units + 1 < cLine) : OpR X (compareOp .In) (rDIn false) := by
  intro pins s σ H y x iv u Q I ry rx ⟨a, ov, ex, g, q2⟩
  subst ex
  obtain rfl : u = Value.ref a := rx
  exact d_in hu I g ry fun s3 I3 => ⟨.bl ov.isSome, H, I3, rfl, q2⟩
theorem op_dNotIn {X : Cx} (hu : X.A.units + 1 < cLine) : OpR X (compareOp .NotIn) (rDIn true) := by
  intro pins s σ H y x iv u Q I ry rx ⟨a, ov, ex, g, q2⟩
  subst ex
  obtain rfl : u = Value.ref a := rx
  exact d_notIn hu I g ry fun s3 I3 => ⟨.bl (!ov.isSome), H, I3, rfl, q2⟩
def rInT (neg : Bool) : R2 := fun x y H Q => ∃ i j, x = .str i ∧ y = .str j ∧ Q (.bl (if neg then !(!(Builtin.Str.occurrences j i 0 j.length 1).isEmpty) else !(Builtin.Str.occurrences j i 0 j.length 1).isEmpty)) H
def rInAny (W : Wm) (neg : Bool) : R2 := fun x y H Q => rIn W.K neg x y H Q ∨ rSInK W.P W.w neg x y H Q ∨ rDIn neg x y H Q ∨ rInT neg x y H Q
theorem op_inAny {X : Cx} (hu : X.A.units + 1 < cLine) : OpR X (compareOp .In) (rInAny (wm X) false) := OpR_or op_in_seq (OpR_or or_sinK (OpR_or (op_dIn hu) op_in_str))
theorem op_notInAny {X : Cx} (hu : X.A.units + 1 < cLine) : OpR X (compareOp .NotIn) (rInAny (wm X) true) := OpR_or op_notIn_seq (OpR_or or_snotinK (OpR_or (op_dNotIn hu) op_notin_str))
theorem valV_mem {ks : List Key} {vs : List V} (hl : ks.length = vs.length) {k : Key} : (valV (ks.zip vs) k).isSome = true ↔ k ∈ ks := by
  unfold valV
  rw [Option.isSome_map]
  rw [List.find?_isSome]
  constructor
  · rintro ⟨⟨a, b⟩, h1, h2⟩
    have e : a = k := of_decide_eq_true h2
    subst e
    exact (List.of_mem_zip h1).1
  · intro h
    obtain ⟨i, hi, e⟩ := List.getElem_of_mem h
    refine ⟨(ks[i], vs[i]'(by omega)), ?_, decide_eq_true e⟩
    have : (ks.zip vs)[i]? = some (ks[i], vs[i]'(by omega)) := by
      rw [List.getElem?_zip_eq_some]
      exact ⟨List.getElem?_eq_getElem hi, List.getElem?_eq_getElem (by omega)⟩
    exact List.mem_of_getElem? this
theorem bool_of_iff {a b : Bool} {p : Prop} (h : a = true ↔ p) (k : b = true ↔ p) : a = b := by
  cases a <;> cases b <;> simp_all
theorem sim_inG {neg : Bool} : SimR2 W (rInAny W neg) (fun x y μ Q => ∃ b, inB μ x y b ∧ Q (.bl (if neg then !b else b)) μ) := by
  intro F μ H x y d e Q R rep hd he ⟨b, hb, q⟩ k
  have q' : R (.bl (if neg then !b else b)) H := k.here rep (show At W.toWd F (.bl _) (.bl _) from rfl) q
  rcases hb with ⟨ds, h1, h2, h3, h4⟩ | ⟨ks, ky, h1, h2, h3⟩ | ⟨ks, ds, ky, h1, h2, h3⟩ | ⟨s, t, h1, h2, h3⟩
  · obtain ⟨p, vs, rfl, hs, al⟩ := seq_at rep he h1
    obtain ⟨e1, e2⟩ := inF_at hd h2 al h3
    refine .inl ⟨p, vs, rfl, hs, flat_at hd h2, e2, ?_⟩
    rw [e1, ← h4]
    exact q'
  · obtain ⟨p, S, n, rfl, hp, hS⟩ := set_at rep he h1
    have ev := key_at hd h2
    have eb : S ky = b := bool_of_iff (hS ky) h3
    refine .inr (.inl ⟨ky, p, S, n, ev, rfl, hp, ?_⟩)
    rw [eb]
    exact q'
  · obtain ⟨p, vs, rfl, hp, hl, al⟩ := dic_at rep he h1
    have ev := key_at hd h2
    have eb : (valV (ks.zip vs) ky).isSome = b := bool_of_iff (valV_mem hl) h3
    refine .inr (.inr (.inl ⟨p, valV (ks.zip vs) ky, rfl, ?_, ?_⟩))
    · rw [ev]
      exact DGet.k hp
    · rw [eb]
      exact q'
  · subst h1 h2
    cases (show x = .str s from hd)
    cases (show y = .str t from he)
    refine .inr (.inr (.inr ⟨s, t, rfl, rfl, ?_⟩))
    rw [← h3]
    exact q'
theorem sim_in : SimR2 W (rInAny W false) fIn := sim_inG
theorem sim_notIn : SimR2 W (rInAny W true) fNotIn := sim_inG

/-! ### is None -/
def isNon : Dat → Bool
  | .non => true
  | _ => false
theorem non_at {F : Hp} {d : Dat} {v : V} (h : At W.toWd F d v) : decide (v = .non) = isNon d := by
  cases d with
  | non => cases (show v = .non from h); rfl
  | bl b => cases (show v = .bl b from h); rfl
  | int i => cases (show v = .int i from h); rfl
  | str s => cases (show v = .str s from h); rfl
  | ty s => cases (show v = .ty s from h); rfl
  | cell s => cases (show v = .ref s from h); rfl
  | tup ds => obtain ⟨p, vs, rfl, _⟩ := h; rfl
  | lst ds => obtain ⟨p, vs, rfl, _⟩ := h; rfl
  | ro ds => obtain ⟨p, vs, rfl, _⟩ := h; rfl
  | dic ks ds => obtain ⟨p, vs, rfl, _⟩ := h; rfl
  | set ks => obtain ⟨p, S, n, rfl, _⟩ := h; rfl
  | ins _ _ _ => obtain ⟨p, dx, vs, rfl, _⟩ := h; rfl
  | exn _ _ _ _ => obtain ⟨rfl, _⟩ := h; rfl
  | exv _ _ _ => obtain ⟨p, dx, vs, rfl, _⟩ := h; rfl
def fIs : A2 := fun x y μ Q => y = .non ∧ Q (.bl (isNon x)) μ
def fIsNot : A2 := fun x y μ Q => y = .non ∧ Q (.bl (!isNon x)) μ
theorem sim_is : SimR2 W (fun x y H Q => y = V.non ∧ Q (.bl (decide (x = .non))) H) fIs := by
  intro F μ H x y d e Q R rep hd he ⟨h1, q⟩ k
  subst h1
  refine ⟨he, ?_⟩
  rw [non_at hd]
  exact k.here rep (show At W.toWd F (.bl _) (.bl _) from rfl) q
theorem sim_isNot : SimR2 W (fun x y H Q => y = V.non ∧ Q (.bl (!decide (x = .non))) H) fIsNot := by
  intro F μ H x y d e Q R rep hd he ⟨h1, q⟩ k
  subst h1
  refine ⟨he, ?_⟩
  rw [non_at hd]
  exact k.here rep (show At W.toWd F (.bl _) (.bl _) from rfl) q

/-! ### not, minus -/
def fNeg : A1 := fun x μ Q => ∃ i, x = .int i ∧ Q (.int (-i)) μ
theorem sim_neg : SimR1 W (rU fun i => .int (-i)) fNeg := by
  intro F μ H x d Q R rep hd ⟨i, e, q⟩ k
  subst e
  cases (show x = .int i from hd)
  exact ⟨i, rfl, k.here rep (show At W.toWd F (.int _) (.int _) from rfl) q⟩
def aNot (a : AE) : AE := fun Xp ρ μ Q => a Xp ρ μ fun x μ1 => ∃ b, x = .bl b ∧ Q (.bl (!b)) μ1
theorem sim_not {WW : WX} {ta : TE} {a : AE} (h : SimE W WW ta a) : SimE W WW (tNotV ta) (aNot a) := by
  intro F μ ρ σ H Xp Q R rep sl kx q k
  refine h F μ ρ σ H Xp _ _ rep sl kx q fun F1 μ1 H1 d v r1 s1 a1 ⟨b, e, h1⟩ => ?_
  subst e
  cases (show v = .bl b from a1)
  exact ⟨b, rfl, k _ _ _ _ _ r1 s1 (show At W.toWd F1 (.bl (!b)) (.bl (!b)) from rfl) h1⟩

/-! ### subscripts -/
def rIxD : R2 := fun x y H Q => ∃ a v, x = .ref a ∧ DGet H a y (some v) ∧ Q v H
theorem ix_dict {X : Cx} (hu : X.A.units + 1 < cLine) : IxR X rIxD := by
  intro value slice pins s σ H x y v u Q I rx ry ⟨a, z, ex, g, q⟩ hs
  subst ex
  obtain rfl : v = Value.ref a := rx
  exact tail_any (dict_typeIs I g) PySem.F.slot_dict_getitem.lookup (d_getItem hu I g ry fun w' s3 I3 rw' => ⟨z, H, I3, rw', q⟩) hs
def rIxAny (K : PySem.W.Frag) : R2 := fun x y H Q => rIx K x y H Q ∨ rIxD x y H Q
theorem ix_any {X : Cx} (hu : X.A.units + 1 < cLine) : IxR X (rIxAny X.K) := ix_seq.or (ix_dict hu)
def atK (ks : List Key) (ds : List Dat) (k : Key) : Option Dat := ((ks.zip ds).find? fun kv => decide (kv.1 = k)).map (·.2)
theorem atK_val {F : Hp} {k : Key} : ∀ {ks : List Key} {ds : List Dat} {vs : List V}, ks.length = vs.length → AtL W.toWd F ds vs → ∀ d, atK ks ds k = some d → ∃ v, valV (ks.zip vs) k = some v ∧ At W.toWd F d v
  | [], ds, vs, _, _, d, h => by
    simp [atK] at h
  | a :: ks, [], vs, _, _, d, h => by
    simp [atK] at h
  | a :: ks, e :: ds, _, hl, ⟨v, r, x, y, z⟩, d, h => by
    subst x
    unfold atK at h
    unfold valV
    rw [List.zip_cons_cons, List.find?_cons] at h ⊢
    by_cases q : a = k
    · subst q
      simp only [decide_true, Option.map_some] at h ⊢
      cases h
      exact ⟨v, rfl, y⟩
    · simp only [decide_eq_false q] at h ⊢
      exact atK_val (by simpa using hl) z d h
/-- what an index gives -/
def ixOf (μ : Mu) (x y : Dat) (z : Dat) : Prop := match x, y with
  | .str s, .int i => s.length ≤ 16777216 ∧ ∃ c, atI s.cps.toList i = some c ∧ z = .str ⟨#[c]⟩
  | x, y => (∃ ds i, seqOf μ x = some ds ∧ y = .int i ∧ atI ds i = some z) ∨ ∃ ks ds k, dicOf μ x = some (ks, ds) ∧ keyOf y = some k ∧ atK ks ds k = some z
def fIx : A2 := fun x y μ Q => ∃ z, ixOf μ x y z ∧ Q z μ
theorem atI_at {F : Hp} {ds : List Dat} {vs : List V} {i : Int} {z : Dat} (h : AtL W.toWd F ds vs) (e : atI ds i = some z) : ∃ v, atI vs i = some v ∧ At W.toWd F z v := by
  unfold atI at e ⊢
  rw [h.length] at e
  cases q : ixN vs.length i with
  | none =>
    rw [q] at e
    cases e
  | some j =>
    rw [q] at e
    exact h.get e
theorem sim_ix : SimR2 W (rIxAny W.K) fIx := by
  intro F μ H x y d e Q R rep hd he ⟨z, hz, q⟩ k
  have main : ((∃ ds i, seqOf μ d = some ds ∧ e = .int i ∧ atI ds i = some z) ∨ ∃ ks ds k, dicOf μ d = some (ks, ds) ∧ keyOf e = some k ∧ atK ks ds k = some z) → rIxAny W.K x y H R := by
    rintro (⟨ds, i, h1, h2, h3⟩ | ⟨ks, ds, ky, h1, h2, h3⟩)
    · subst h2
      cases (show y = .int i from he)
      obtain ⟨p, vs, rfl, hs, al⟩ := seq_at rep hd h1
      obtain ⟨v, hv, av⟩ := atI_at al h3
      rcases hs with hs | hs
      · exact .inl (.inl ⟨p, vs, i, v, rfl, rfl, hs, hv, k.here rep av q⟩)
      · exact .inl (.inr (.inl ⟨p, vs, i, v, rfl, rfl, hs, hv, k.here rep av q⟩))
    · obtain ⟨p, vs, rfl, hp, hl, al⟩ := dic_at rep hd h1
      obtain ⟨v, hv, av⟩ := atK_val hl al z h3
      refine .inr ⟨p, v, rfl, ?_, k.here rep av q⟩
      rw [key_at he h2, ← hv]
      exact DGet.k hp
  unfold ixOf at hz
  split at hz
  · rename_i s i
    obtain ⟨hl, c, h1, h2⟩ := hz
    subst h2
    cases (show x = .str s from hd)
    cases (show y = .int i from he)
    exact .inl (.inr (.inr ⟨s, i, c, rfl, rfl, line_le hl, h1, k.here rep (show At W.toWd F (.str _) (.str _) from rfl) q⟩))
  · exact main hz

/-! ### slices -/
abbrev AO := XP → Sl → Mu → (Option Int → Mu → Prop) → Prop
def SimO (W : Wm) (WW : WX) (to : TO) (ao : AO) : Prop := ∀ F μ ρ σ H Xp Q R, Rep W.toWd F μ H → SlAt W.toWd F ρ σ → KonX W F μ H Xp WW ρ σ → ao Xp ρ μ Q →
  (∀ F' μ' H' o, Rep W.toWd F' μ' H' → Step F μ H F' μ' H' → Q o μ' → R o H') → to σ H R
structure DO (X : Cx) (WW : WX) (e : Option Expr) (to : TO) (ao : AO) : Prop where
  p : PO X e to
  s : SimO (wm X) WW to ao
def aNoPart : AO := fun _ _ μ Q => Q none μ
def aPart (a : AE) : AO := fun Xp ρ μ Q => a Xp ρ μ fun x μ1 => ∃ i, x = .int i ∧ Q (some i) μ1
def cutD (xs : List Dat) (lo hi : Option Int) : List Dat := (xs.drop (HT.sIx xs.length 0 lo)).take (HT.sIx xs.length xs.length hi - HT.sIx xs.length 0 lo)
theorem AtL.cut {F : Hp} {ds : List Dat} {vs : List V} (h : AtL W.toWd F ds vs) (lo hi : Option Int) : AtL W.toWd F (cutD ds lo hi) (cutV vs lo hi) := by
  unfold cutD cutV
  rw [h.length]
  exact (h.drop _).take _
theorem cutD_whole {ds : List Dat} {lo hi : Option Int} (h : HT.sIx ds.length 0 lo = 0 ∧ HT.sIx ds.length ds.length hi = ds.length) : cutD ds lo hi = ds := by
  unfold cutD
  rw [h.1, h.2, List.drop_zero, Nat.sub_zero, List.take_length]
abbrev ASl := Dat → Option Int → Option Int → Mu → AQ → Prop
def SimSl (W : Wm) (r : V → Option Int → Option Int → Hp → VK → Prop) (f : ASl) : Prop := ∀ F μ H x d lo hi Q R, Rep W.toWd F μ H → At W.toWd F d x → f d lo hi μ Q → Kont W F μ H Q R → r x lo hi H R
def aSl (f : ASl) (a : AE) (lo hi : AO) : AE := fun Xp ρ μ Q => a Xp ρ μ fun x μ1 => lo Xp ρ μ1 fun l μ2 => hi Xp ρ μ2 fun u μ3 => f x l u μ3 Q
theorem SlR_or {X : Cx} {r r' : V → Option Int → Option Int → Hp → VK → Prop} (h : SlR X r) (h' : SlR X r') : SlR X (fun x l u H Q => r x l u H Q ∨ r' x l u H Q) := by
  intro pins s σ H x v vl vu lo hi sl Q I rx hs pl pu q
  rcases q with q | q
  · exact h pins s σ H x v vl vu lo hi sl Q I rx hs pl pu q
  · exact h' pins s σ H x v vl vu lo hi sl Q I rx hs pl pu q
def rSlAny (K : PySem.W.Frag) : V → Option Int → Option Int → Hp → VK → Prop := fun x l u H Q => rSlL K x l u H Q ∨ rSlA K x l u H Q ∨ rSlS x l u H Q
theorem sl_any {X : Cx} : SlR X (rSlAny X.K) := SlR_or sl_list (SlR_or sl_tupA sl_str)
def rolOf (μ : Mu) : Dat → Option (List Dat)
  | .lst ds => some ds
  | .ro ds => some ds
  | .cell a => lstOf μ (.cell a)
  | _ => none
theorem rol_at {F : Hp} {μ : Mu} {H : Hp} {d : Dat} {v : V} {ds : List Dat} (R : Rep W.toWd F μ H) (h : At W.toWd F d v) (e : rolOf μ d = some ds) : ∃ p vs, v = .ref p ∧ SqL W.K H p vs ∧ AtL W.toWd F ds vs := by
  cases d with
  | lst es =>
    cases e
    obtain ⟨p, vs, a, b, c⟩ := h
    exact ⟨p, vs, a, .inl (.inl (R.ex _ _ b)), c⟩
  | ro es =>
    cases e
    obtain ⟨p, vs, a, b, c⟩ := h
    exact ⟨p, vs, a, R.ex.sql b, c⟩
  | cell a =>
    obtain ⟨p, vs, x, y, z⟩ := lst_at (d := .cell a) R h e
    exact ⟨p, vs, x, .inl (.inl y), z⟩
  | _ => cases e
def fSl : ASl := fun x lo hi μ Q => match x with
  | .str z => z.length ≤ 16777216 ∧ Q (.str (cutS z lo hi)) μ
  | .tup ds => Q (.tup (cutD ds lo hi)) μ
  | x => ∃ ds, rolOf μ x = some ds ∧ Q (.lst (cutD ds lo hi)) μ
def fSlM : ASl := fun x lo hi μ Q => ∃ ds, rolOf μ x = some ds ∧ ∀ p, μ p = none → Q (.cell p) (mset μ p (.lst (cutD ds lo hi)))
theorem sim_slM : SimSl W (rSlAny W.K) fSlM := by
  intro F μ H x d lo hi Q R rep hd ⟨ds, h1, q⟩ k
  obtain ⟨p, vs, rfl, hs, al⟩ := rol_at rep hd h1
  refine .inl ⟨p, vs, rfl, hs, fun l hl => ?_⟩
  exact k _ _ _ _ _ (rep.allocM (c := .lst _) hl ⟨_, rfl, al.cut lo hi⟩) (Step.allocM rep hl) (show At W.toWd F (.cell l) (.ref l) from rfl) (q l (rep.mu_none hl))
theorem sim_sl : SimSl W (rSlAny W.K) fSl := by
  intro F μ H x d lo hi Q R rep hd h k
  unfold fSl at h
  split at h
  · rename_i z
    cases (show x = .str z from hd)
    exact .inr (.inr ⟨z, rfl, line_le h.1, k.here rep (show At W.toWd F (.str _) (.str _) from rfl) h.2⟩)
  · rename_i ds
    obtain ⟨p, vs, rfl, hp, al⟩ := hd
    refine .inr (.inl ⟨p, vs, rfl, rep.ex.sqt hp, fun hw => ?_, fun hw l hl => ?_⟩)
    · rw [← al.length] at hw
      rw [cutD_whole hw] at h
      exact k.here (d := .tup ds) rep ⟨p, vs, rfl, hp, al⟩ h
    · exact k _ _ _ _ _ (rep.alloc hl) (Step.alloc rep hl) (at_newT (rep.f_none hl) (al.cut lo hi)) h
  · obtain ⟨ds, h1, q⟩ := h
    obtain ⟨p, vs, rfl, hs, al⟩ := rol_at rep hd h1
    refine .inl ⟨p, vs, rfl, hs, fun l hl => ?_⟩
    exact k _ _ _ _ _ (rep.alloc hl) (Step.alloc rep hl) (at_newL (rep.f_none hl) (al.cut lo hi)) q
/-- xs[::-1] of a list -/
def aRev (a : AE) : AE := fun Xp ρ μ Q => a Xp ρ μ fun x μ1 => ∃ ds, rolOf μ1 x = some ds ∧ Q (.lst ds.reverse) μ1
theorem sim_rev {WW : WX} {te : TE} {a : AE} (h : SimE W WW te a) : SimE W WW (tRevL W.K te) (aRev a) := by
  intro F μ ρ σ H Xp Q R rep sl kx q k
  refine h F μ ρ σ H Xp _ _ rep sl kx q fun F1 μ1 H1 d v r1 s1 a1 ⟨ds, e, h1⟩ => ?_
  obtain ⟨p, vs, rfl, hs, al⟩ := rol_at r1 a1 e
  refine ⟨p, vs, rfl, hs, fun l hl => ?_⟩
  exact k _ _ _ _ _ (r1.alloc hl) (s1.trans (Step.alloc r1 hl)) (at_newL (r1.f_none hl) al.reverse) h1
end

section
variable {X : Cx} {WW : WX}
theorem de_not {a : Expr} {ta : TE} {aa : AE} {pos : Pos} (ha : DE X WW a ta aa) : DE X WW (.UnaryOp .Not a pos) (tNotV ta) (aNot aa) := ⟨pe_not ha.p, sim_not ha.s⟩
theorem de_ix {a b : Expr} {ta tb : TE} {aa ab : AE} {pos : Pos} (hu : X.A.units + 1 < cLine) (ha : DE X WW a ta aa) (hb : DE X WW b tb ab) (hs : PlainIx b) : DE X WW (.Subscript a b pos) (tOp (rIxAny X.K) ta tb) (aOp fIx aa ab) :=
  ⟨pe_ix (ix_any hu) ha.p hb.p hs, sim_op ha.s hb.s sim_ix⟩
theorem do_none : DO X WW none tNoPart aNoPart := ⟨po_none, fun F μ ρ σ H Xp Q R rep sl kx q k => k _ _ _ _ rep (Step.refl _ _ _) q⟩
theorem do_some {e : Expr} {te : TE} {ae : AE} (h : DE X WW e te ae) : DO X WW (some e) (tPart te) (aPart ae) := by
  refine ⟨po_some h.p, fun F μ ρ σ H Xp Q R rep sl kx q k => ?_⟩
  refine h.s F μ ρ σ H Xp _ _ rep sl kx q fun F1 μ1 H1 d v r1 s1 a1 ⟨i, e, h1⟩ => ?_
  subst e
  cases (show v = .int i from a1)
  exact ⟨i, rfl, k _ _ _ _ r1 s1 h1⟩
theorem de_sl {e : Expr} {lo hi : Option Expr} {te : TE} {tl th : TO} {ae : AE} {al ah : AO} {f : ASl} {p2 pos : Pos} (hf : SimSl (wm X) (rSlAny X.K) f) (he : DE X WW e te ae) (hl : DO X WW lo tl al) (hh : DO X WW hi th ah) :
    DE X WW (.Subscript e (.Slice lo hi none p2) pos) (tSl (rSlAny X.K) te tl th) (aSl f ae al ah) := by
  refine ⟨pe_slice sl_any he.p hl.p hh.p, fun F μ ρ σ H Xp Q R rep sl kx q k => ?_⟩
  refine he.s F μ ρ σ H Xp _ _ rep sl kx q fun F1 μ1 H1 d v r1 s1 a1 h1 => ?_
  refine hl.s F1 μ1 ρ σ H1 Xp _ _ r1 (sl.mono s1.ex) (kx.step s1) h1 fun F2 μ2 H2 l r2 s2 h2 => ?_
  refine hh.s F2 μ2 ρ σ H2 Xp _ _ r2 (sl.mono (s1.trans s2).ex) (kx.step (s1.trans s2)) h2 fun F3 μ3 H3 u r3 s3 h3 => ?_
  exact hf F3 μ3 H3 v d l u Q R r3 (At.mono (s2.trans s3).ex _ _ a1) h3 (k.step ((s1.trans s2).trans s3))
theorem de_rev {e : Expr} {te : TE} {ae : AE} {k : Nat} {p1 p2 p3 pos : Pos} (he : DE X WW e te ae) : DE X WW (.Subscript e (.Slice none none (some (.UnaryOp .USub (.Constant (.int 1) k p1) p2)) p3) pos) (tRevL X.K te) (aRev ae) :=
  ⟨pe_revL he.p, sim_rev he.s⟩
end
end DL

namespace DL
open PySem PySem.Spec PyProof.Rows L2
section
variable {W : Wm}
/-! ### tests -/
def tstB (a : AE) : AT := fun Xp ρ μ Q => a Xp ρ μ fun x μ1 => ∃ b, x = .bl b ∧ Q b μ1
theorem sim_tstB {WW : WX} {te : TE} {a : AE} (h : SimE W WW te a) : SimT W WW (tB te) (tstB a) := by
  intro F μ ρ σ H Xp Q R rep sl kx q k
  refine h F μ ρ σ H Xp _ _ rep sl kx q fun F1 μ1 H1 d v r1 s1 a1 ⟨b, e, h1⟩ => ?_
  subst e
  cases (show v = .bl b from a1)
  exact ⟨b, rfl, k _ _ _ _ r1 s1 h1⟩
/-- truth of a value -/
def truB (μ : Mu) : Dat → Bool → Prop := fun x b => match x with
  | .non => b = false
  | .bl c => b = c
  | .int i => b = decide (i ≠ 0)
  | .str s => s.length ≤ 16777216 ∧ b = decide (s.length ≠ 0)
  | x => (∃ ds, seqOf μ x = some ds ∧ b = !ds.isEmpty) ∨ ∃ ks ds, dicOf μ x = some (ks, ds) ∧ ks.length = ds.length ∧ b = !ks.isEmpty
theorem isEmpty_len {α β : Type} {xs : List α} {ys : List β} (h : xs.length = ys.length) : xs.isEmpty = ys.isEmpty := by
  cases xs <;> cases ys <;> simp_all
theorem tru_at {F : Hp} {μ : Mu} {H : Hp} {d : Dat} {v : V} {b : Bool} (R : Rep W.toWd F μ H) (h : At W.toWd F d v) (e : truB μ d b) : TruV W.K v H b := by
  have main : ((∃ ds, seqOf μ d = some ds ∧ b = !ds.isEmpty) ∨ ∃ ks ds, dicOf μ d = some (ks, ds) ∧ ks.length = ds.length ∧ b = !ks.isEmpty) → TruV W.K v H b := by
    rintro (⟨ds, h1, h2⟩ | ⟨ks, ds, h1, h0, h2⟩)
    · obtain ⟨p, vs, rfl, hs, al⟩ := seq_at R h h1
      rw [isEmpty_len al.length] at h2
      rcases hs with hs | hs
      · exact .inl ⟨vs, hs, h2⟩
      · exact .inr (.inl ⟨vs, hs, h2⟩)
    · obtain ⟨p, vs, rfl, hp, hl, al⟩ := dic_at R h h1
      refine .inr (.inr ⟨ks.zip vs, hp, ?_⟩)
      rw [h2, isEmpty_len (xs := ks) (ys := ks.zip vs) (by rw [List.length_zip]; omega)]
  cases d with
  | non => cases (show v = .non from h); exact e
  | bl c => cases (show v = .bl c from h); exact e
  | int i => cases (show v = .int i from h); show b = (i != 0); rw [show b = decide (i ≠ 0) from e]; by_cases q : i = 0 <;> simp [q]
  | str s =>
    cases (show v = .str s from h)
    obtain ⟨e1, e2⟩ := e
    refine ⟨line_le e1, ?_⟩
    rw [e2]
    by_cases q : s.length = 0 <;> simp [q]
  | _ => exact main e
def tstV (a : AE) : AT := fun Xp ρ μ Q => a Xp ρ μ fun x μ1 => ∃ b, truB μ1 x b ∧ Q b μ1
theorem sim_tstV {WW : WX} {te : TE} {a : AE} (h : SimE W WW te a) : SimT W WW (fun σ H Q => te σ H fun x H' => ∃ k, TruV W.K x H' k ∧ Q k H') (tstV a) := by
  intro F μ ρ σ H Xp Q R rep sl kx q k
  refine h F μ ρ σ H Xp _ _ rep sl kx q fun F1 μ1 H1 d v r1 s1 a1 ⟨b, e, h1⟩ => ?_
  exact ⟨b, tru_at r1 a1 e, k _ _ _ _ r1 s1 h1⟩
def tstAnd (t u : AT) : AT := fun Xp ρ μ Q => t Xp ρ μ fun b μ1 => if b = true then u Xp ρ μ1 Q else Q false μ1
def tstOr (t u : AT) : AT := fun Xp ρ μ Q => t Xp ρ μ fun b μ1 => if b = true then Q true μ1 else u Xp ρ μ1 Q
def tstNot (t : AT) : AT := fun Xp ρ μ Q => t Xp ρ μ fun b μ1 => Q (!b) μ1
theorem sim_tstAnd {WW : WX} {tt tu : TT} {t u : AT} (h : SimT W WW tt t) (h' : SimT W WW tu u) : SimT W WW (tAnd tt tu) (tstAnd t u) := by
  intro F μ ρ σ H Xp Q R rep sl kx q k
  refine h F μ ρ σ H Xp _ _ rep sl kx q fun F1 μ1 H1 b r1 s1 h1 => ?_
  cases b with
  | true =>
    rw [if_pos rfl] at h1 ⊢
    exact h' F1 μ1 ρ σ H1 Xp _ _ r1 (sl.mono s1.ex) (kx.step s1) h1 (k.step s1)
  | false =>
    rw [if_neg Bool.false_ne_true] at h1 ⊢
    exact k _ _ _ _ r1 s1 h1
theorem sim_tstOr {WW : WX} {tt tu : TT} {t u : AT} (h : SimT W WW tt t) (h' : SimT W WW tu u) : SimT W WW (tOr tt tu) (tstOr t u) := by
  intro F μ ρ σ H Xp Q R rep sl kx q k
  refine h F μ ρ σ H Xp _ _ rep sl kx q fun F1 μ1 H1 b r1 s1 h1 => ?_
  cases b with
  | false =>
    rw [if_neg Bool.false_ne_true] at h1 ⊢
    exact h' F1 μ1 ρ σ H1 Xp _ _ r1 (sl.mono s1.ex) (kx.step s1) h1 (k.step s1)
  | true =>
    rw [if_pos rfl] at h1 ⊢
    exact k _ _ _ _ r1 s1 h1
theorem sim_tstNot {WW : WX} {tt : TT} {t : AT} (h : SimT W WW tt t) : SimT W WW (tNot tt) (tstNot t) := by
  intro F μ ρ σ H Xp Q R rep sl kx q k
  exact h F μ ρ σ H Xp _ _ rep sl kx q fun F1 μ1 H1 b r1 s1 h1 => k _ _ _ _ r1 s1 h1
/-! values of and, or (the first bools) and the conditional expression -/
def aAnd (a b : AE) : AE := fun Xp ρ μ Q => a Xp ρ μ fun x μ1 => ∃ c, x = .bl c ∧ if c = true then b Xp ρ μ1 Q else Q (.bl false) μ1
def aOr (a b : AE) : AE := fun Xp ρ μ Q => a Xp ρ μ fun x μ1 => ∃ c, x = .bl c ∧ if c = true then Q (.bl true) μ1 else b Xp ρ μ1 Q
def aIf (t : AT) (a b : AE) : AE := fun Xp ρ μ Q => t Xp ρ μ fun c μ1 => if c = true then a Xp ρ μ1 Q else b Xp ρ μ1 Q
theorem sim_and {WW : WX} {ta tb : TE} {a b : AE} (h : SimE W WW ta a) (h' : SimE W WW tb b) : SimE W WW (tAndV ta tb) (aAnd a b) := by
  intro F μ ρ σ H Xp Q R rep sl kx q k
  refine h F μ ρ σ H Xp _ _ rep sl kx q fun F1 μ1 H1 d v r1 s1 a1 ⟨c, e, h1⟩ => ?_
  subst e
  cases (show v = .bl c from a1)
  refine ⟨c, rfl, ?_⟩
  cases c with
  | true =>
    rw [if_pos rfl] at h1 ⊢
    exact h' F1 μ1 ρ σ H1 Xp _ _ r1 (sl.mono s1.ex) (kx.step s1) h1 (k.step s1)
  | false =>
    rw [if_neg Bool.false_ne_true] at h1 ⊢
    exact k _ _ _ _ _ r1 s1 (show At W.toWd F1 (.bl false) (.bl false) from rfl) h1
theorem sim_or {WW : WX} {ta tb : TE} {a b : AE} (h : SimE W WW ta a) (h' : SimE W WW tb b) : SimE W WW (tOrV ta tb) (aOr a b) := by
  intro F μ ρ σ H Xp Q R rep sl kx q k
  refine h F μ ρ σ H Xp _ _ rep sl kx q fun F1 μ1 H1 d v r1 s1 a1 ⟨c, e, h1⟩ => ?_
  subst e
  cases (show v = .bl c from a1)
  refine ⟨c, rfl, ?_⟩
  cases c with
  | false =>
    rw [if_neg Bool.false_ne_true] at h1 ⊢
    exact h' F1 μ1 ρ σ H1 Xp _ _ r1 (sl.mono s1.ex) (kx.step s1) h1 (k.step s1)
  | true =>
    rw [if_pos rfl] at h1 ⊢
    exact k _ _ _ _ _ r1 s1 (show At W.toWd F1 (.bl true) (.bl true) from rfl) h1
theorem sim_if {WW : WX} {tt : TT} {ta tb : TE} {t : AT} {a b : AE} (ht : SimT W WW tt t) (h : SimE W WW ta a) (h' : SimE W WW tb b) : SimE W WW (tIf tt ta tb) (aIf t a b) := by
  intro F μ ρ σ H Xp Q R rep sl kx q k
  refine ht F μ ρ σ H Xp _ _ rep sl kx q fun F1 μ1 H1 c r1 s1 h1 => ?_
  cases c with
  | true =>
    rw [if_pos rfl] at h1 ⊢
    exact h F1 μ1 ρ σ H1 Xp _ _ r1 (sl.mono s1.ex) (kx.step s1) h1 (k.step s1)
  | false =>
    rw [if_neg Bool.false_ne_true] at h1 ⊢
    exact h' F1 μ1 ρ σ H1 Xp _ _ r1 (sl.mono s1.ex) (kx.step s1) h1 (k.step s1)
/-- a < b < c -/
def aChain (f g : A2) (a b c : AE) : AE := fun Xp ρ μ Q => a Xp ρ μ fun x μ1 => b Xp ρ μ1 fun y μ2 => f x y μ2 fun z μ3 => ∃ k, z = .bl k ∧ if k = true then c Xp ρ μ3 fun w μ4 => g y w μ4 Q else Q (.bl false) μ3
end

section
variable {X : Cx} {WW : WX}
theorem dt_val {e : Expr} {t : TE} {a : AE} (h : DE X WW e t a) (he : ∀ whole, isTrue e X.env whole = (do let v ← whole; standAt e.pos; holding [v] (truthy v)) := by intro _; rfl) : DT X WW e (tB t) (tstB a) := ⟨pt_val h.p he, sim_tstB h.s⟩
theorem dt_tru {e : Expr} {t : TE} {a : AE} (h : DE X WW e t a) (he : ∀ whole, isTrue e X.env whole = (do let v ← whole; standAt e.pos; holding [v] (truthy v)) := by intro _; rfl) :
    DT X WW e (fun σ H Q => t σ H fun x H' => ∃ k, TruV X.K x H' k ∧ Q k H') (tstV a) := ⟨pt_truth h.p he, sim_tstV h.s⟩
/-- a comparison as a test -/
theorem dt_cmp {op : CmpOp} {r : R2} {f : A2} {a b : Expr} {ta tb : TE} {aa ab : AE} {pos : Pos} (ho : OpR X (compareOp op) r) (hr : SimR2 (wm X) r f) (ha : DE X WW a ta aa) (hb : DE X WW b tb ab)
    (hm : behindInMarks op b = false) : DT X WW (.Compare a [op] [b] pos) (tTest (tOp r ta tb)) (tstB (aOp f aa ab)) := by
  refine ⟨pt_cmpR ho ha.p hb.p hm, fun F μ ρ σ H Xp Q R rep sl kx q k => ?_⟩
  refine sim_op ha.s hb.s hr F μ ρ σ H Xp _ _ rep sl kx q fun F1 μ1 H1 d v r1 s1 a1 ⟨b, e, h1⟩ => ?_
  subst e
  cases (show v = .bl b from a1)
  exact ⟨b, rfl, k _ _ _ _ r1 s1 h1⟩
theorem dw_and1 {a : Expr} {t : TT} {at_ : AT} {pos : Pos} (h : DT X WW a t at_) : DW X WW (.BoolOp .And [a] pos) t at_ := ⟨pw_and1 h.p, h.s⟩
theorem dw_or1 {a : Expr} {t : TT} {at_ : AT} {pos : Pos} (h : DT X WW a t at_) : DW X WW (.BoolOp .Or [a] pos) t at_ := ⟨pw_or1 h.p, h.s⟩
theorem dw_and {a b : Expr} {rest : List Expr} {t u : TT} {at_ au : AT} {pos : Pos} (h : DT X WW a t at_) (h' : DW X WW (.BoolOp .And (b :: rest) pos) u au) : DW X WW (.BoolOp .And (a :: b :: rest) pos) (tAnd t u) (tstAnd at_ au) := ⟨pw_and h.p h'.p, sim_tstAnd h.s h'.s⟩
theorem dw_or {a b : Expr} {rest : List Expr} {t u : TT} {at_ au : AT} {pos : Pos} (h : DT X WW a t at_) (h' : DW X WW (.BoolOp .Or (b :: rest) pos) u au) : DW X WW (.BoolOp .Or (a :: b :: rest) pos) (tOr t u) (tstOr at_ au) := ⟨pw_or h.p h'.p, sim_tstOr h.s h'.s⟩
theorem DW.dt {e : Expr} {t : TT} {at_ : AT} (h : DW X WW e t at_) : DT X WW e t at_ := ⟨h.p.pt, h.s⟩
theorem dt_not {a : Expr} {t : TT} {at_ : AT} {pos : Pos} (h : DT X WW a t at_) : DT X WW (.UnaryOp .Not a pos) (tNot t) (tstNot at_) := ⟨pt_not h.p, sim_tstNot h.s⟩
theorem de_one {op} {a : Expr} {t : TE} {ae : AE} {pos : Pos} (h : DE X WW a t ae) : DE X WW (.BoolOp op [a] pos) t ae := ⟨pe_one h.p, h.s⟩
theorem de_and {a b : Expr} {rest : List Expr} {ta tb : TE} {aa ab : AE} {pos : Pos} (h : DE X WW a ta aa) (h' : DE X WW (.BoolOp .And (b :: rest) pos) tb ab) : DE X WW (.BoolOp .And (a :: b :: rest) pos) (tAndV ta tb) (aAnd aa ab) := ⟨pe_and h.p h'.p, sim_and h.s h'.s⟩
theorem de_or {a b : Expr} {rest : List Expr} {ta tb : TE} {aa ab : AE} {pos : Pos} (h : DE X WW a ta aa) (h' : DE X WW (.BoolOp .Or (b :: rest) pos) tb ab) : DE X WW (.BoolOp .Or (a :: b :: rest) pos) (tOrV ta tb) (aOr aa ab) := ⟨pe_or h.p h'.p, sim_or h.s h'.s⟩
theorem de_if {c a b : Expr} {tc : TT} {ac : AT} {ta tb : TE} {aa ab : AE} {pos : Pos} (hc : DT X WW c tc ac) (h : DE X WW a ta aa) (h' : DE X WW b tb ab) : DE X WW (.IfExp c a b pos) (tIf tc ta tb) (aIf ac aa ab) := ⟨pe_ifExp hc.p h.p h'.p, sim_if hc.s h.s h'.s⟩
theorem sim_chain {ta tb tc : TE} {aa ab ac : AE} {r r' : R2} {f g : A2} (h1 : SimE (wm X) WW ta aa) (h2 : SimE (wm X) WW tb ab) (h3 : SimE (wm X) WW tc ac) (hr : SimR2 (wm X) r f) (hr' : SimR2 (wm X) r' g) :
    SimE (wm X) WW (tChain r r' ta tb tc) (aChain f g aa ab ac) := by
  intro F μ ρ σ H Xp Q R rep sl kx q k
  refine h1 F μ ρ σ H Xp _ _ rep sl kx q fun F1 μ1 H1 d v r1 s1 a1 q1 => ?_
  refine h2 F1 μ1 ρ σ H1 Xp _ _ r1 (sl.mono s1.ex) (kx.step s1) q1 fun F2 μ2 H2 e u r2 s2 a2 q2 => ?_
  refine hr F2 μ2 H2 v u d e _ _ r2 (At.mono s2.ex _ _ a1) a2 q2 fun F3 μ3 H3 z vz r3 s3 a3 ⟨b, eb, q3⟩ => ?_
  subst eb
  cases (show vz = .bl b from a3)
  refine ⟨b, rfl, ?_⟩
  have s13 := (s1.trans s2).trans s3
  cases b with
  | true =>
    rw [if_pos rfl] at q3 ⊢
    refine h3 F3 μ3 ρ σ H3 Xp _ _ r3 (sl.mono s13.ex) (kx.step s13) q3 fun F4 μ4 H4 w vw r4 s4 a4 q4 => ?_
    exact hr' F4 μ4 H4 u vw e w _ _ r4 (At.mono (s3.trans s4).ex _ _ a2) a4 q4 (k.step (s13.trans s4))
  | false =>
    rw [if_neg Bool.false_ne_true] at q3 ⊢
    exact k _ _ _ _ _ r3 s13 a3 q3
theorem de_chain {op op' : CmpOp} {r r' : R2} {f g : A2} {a b c : Expr} {ta tb tc : TE} {aa ab ac : AE} {pos : Pos} (ho : OpR X (compareOp op) r) (ho' : OpR X (compareOp op') r') (hr : SimR2 (wm X) r f) (hr' : SimR2 (wm X) r' g)
    (ha : DE X WW a ta aa) (hb : DE X WW b tb ab) (hc : DE X WW c tc ac) (hm : lastMarks [op, op'] [b, c] = false := by rfl) : DE X WW (.Compare a [op, op'] [b, c] pos) (tChain r r' ta tb tc) (aChain f g aa ab ac) :=
  ⟨pe_chain ho ho' ha.p hb.p hc.p hm, sim_chain ha.s hb.s hc.s hr hr'⟩
theorem dt_chain {op op' : CmpOp} {r r' : R2} {f g : A2} {a b c : Expr} {ta tb tc : TE} {aa ab ac : AE} {pos : Pos} (ho : OpR X (compareOp op) r) (ho' : OpR X (compareOp op') r') (hr : SimR2 (wm X) r f) (hr' : SimR2 (wm X) r' g)
    (ha : DE X WW a ta aa) (hb : DE X WW b tb ab) (hc : DE X WW c tc ac) (hm : lastMarks [op, op'] [b, c] = false := by rfl) : DT X WW (.Compare a [op, op'] [b, c] pos) (tTest (tChain r r' ta tb tc)) (tstB (aChain f g aa ab ac)) := by
  refine ⟨pt_chain ho ho' ha.p hb.p hc.p hm, fun F μ ρ σ H Xp Q R rep sl kx q k => ?_⟩
  refine sim_chain ha.s hb.s hc.s hr hr' F μ ρ σ H Xp _ _ rep sl kx q fun F1 μ1 H1 d v r1 s1 a1 ⟨b, e, h1⟩ => ?_
  subst e
  cases (show v = .bl b from a1)
  exact ⟨b, rfl, k _ _ _ _ r1 s1 h1⟩
end

/-! ### calls of built-ins -/
section
variable {X : Cx} {WW : WX} {W : Wm}
def aCB (f : AN) (t : AA) : AE := fun Xp ρ μ Q => t Xp ρ μ fun ds μ1 => f ds μ1 Q
theorem sim_cb {ta : TA} {t : AA} {r : List V → Hp → VK → Prop} {f : AN} (h : SimA W WW ta t) (hr : SimRN W r f) : SimE W WW (tCB r ta) (aCB f t) := by
  intro F μ ρ σ H Xp Q R rep sl kx q k
  refine h F μ ρ σ H Xp _ _ rep sl kx q fun F1 μ1 H1 ds vs r1 s1 a1 h1 => ?_
  exact hr F1 μ1 H1 vs ds Q R r1 a1 h1 (k.step s1)
theorem de_callB {id : String} {r : List V → Hp → VK → Prop} {f : AN} {x : Str} {p pos : Pos} {e : Expr} {es : List Expr} {t : TA} {aa : AA} (hc : CallR X (.builtin id) r) (hr : SimRN (wm X) r f) (hg : Gl X x) (hm : X.mg x = none) (hv : bootBuiltins x = some (.builtin id)) (ha : DA X WW (e :: es) t aa) (hn : x ≠ "__name__" := by decide) (hdb : (x == ("__debug__" : Str)) = false := by decide)
    (he : starEach (e :: es) X.env = (false, eval e X.env) :: starEach es X.env := by rfl) (hpl : (backTo pos (starEach es X.env)).any (·.1) = false := by rfl) : DE X WW (.Call (.Name x p) (e :: es) [] pos) (tCB r t) (aCB f aa) :=
  ⟨pe_callB hc hg hm hv ha.p hn hdb he hpl, sim_cb ha.s hr⟩
theorem de_callTy {T : String} {r : List V → Hp → VK → Prop} {f : AN} {x : Str} {p pos : Pos} {e : Expr} {es : List Expr} {t : TA} {aa : AA} (hc : CallR X (.type T) r) (hr : SimRN (wm X) r f) (hg : Gl X x) (hm : X.mg x = none) (hv : bootBuiltins x = some (.type T)) (ha : DA X WW (e :: es) t aa) (hn : x ≠ "__name__" := by decide) (hdb : (x == ("__debug__" : Str)) = false := by decide)
    (he : starEach (e :: es) X.env = (false, eval e X.env) :: starEach es X.env := by rfl) (hpl : (backTo pos (starEach es X.env)).any (·.1) = false := by rfl) : DE X WW (.Call (.Name x p) (e :: es) [] pos) (tCB r t) (aCB f aa) :=
  ⟨pe_callTy hc hg hm hv ha.p hn hdb he hpl, sim_cb ha.s hr⟩
theorem one_at {F : Hp} {d : Dat} {xs : List V} (h : AtL W.toWd F [d] xs) : ∃ v, xs = [v] ∧ At W.toWd F d v := by
  obtain ⟨v, r, a, b, c⟩ := h
  cases (show r = [] from c)
  exact ⟨v, a, b⟩
theorem two_at {F : Hp} {d e : Dat} {xs : List V} (h : AtL W.toWd F [d, e] xs) : ∃ v u, xs = [v, u] ∧ At W.toWd F d v ∧ At W.toWd F e u := by
  obtain ⟨v, r, a, b, c⟩ := h
  obtain ⟨u, e1, h2⟩ := one_at c
  subst e1
  exact ⟨v, u, a, b, h2⟩
/-- len -/
def lenOf (μ : Mu) (x : Dat) (n : Nat) : Prop := match x with
  | .str s => s.length ≤ 16777216 ∧ n = s.length
  | x => (∃ ds, seqOf μ x = some ds ∧ n = ds.length) ∨ ∃ ks ds, dicOf μ x = some (ks, ds) ∧ ks.length = ds.length ∧ n = ks.length
def fLen : AN := fun ds μ Q => ∃ x n, ds = [x] ∧ lenOf μ x n ∧ Q (.int n) μ
def rLenA (K : PySem.W.Frag) : List V → Hp → VK → Prop := fun xs H Q => (∃ x n, xs = [x] ∧ LenV K x H n ∧ Q (.int n) H) ∨ ∃ a kvs, xs = [V.ref a] ∧ H a = some (.dK kvs) ∧ Q (.int kvs.length) H
theorem call_lenA {X : Cx} : CallR X (.builtin "len") (rLenA X.K) := CallR_or call_len call_lenD
theorem sim_len : SimRN W (rLenA W.K) fLen := by
  intro F μ H xs ds Q R rep al ⟨x, n, e, hl, q⟩ k
  subst e
  obtain ⟨v, rfl, a⟩ := one_at al
  have q' : R (.int n) H := k.here rep (show At W.toWd F (.int n) (.int n) from rfl) q
  have main : ((∃ ds, seqOf μ x = some ds ∧ n = ds.length) ∨ ∃ ks ds, dicOf μ x = some (ks, ds) ∧ ks.length = ds.length ∧ n = ks.length) → rLenA W.K [v] H R := by
    rintro (⟨ds, h1, h2⟩ | ⟨ks, ds, h1, h0, h2⟩)
    · obtain ⟨p, vs, rfl, hs, al2⟩ := seq_at rep a h1
      rw [al2.length] at h2
      refine .inl ⟨_, n, rfl, ?_, q'⟩
      rcases hs with hs | hs
      · exact .inl ⟨vs, hs, h2⟩
      · exact .inr ⟨vs, hs, h2⟩
    · obtain ⟨p, vs, rfl, hp, hl, al2⟩ := dic_at rep a h1
      refine .inr ⟨p, _, rfl, hp, ?_⟩
      rw [List.length_zip, ← hl, Nat.min_self, ← h2]
      exact q'
  cases x with
  | str s =>
    cases (show v = .str s from a)
    exact .inl ⟨_, n, rfl, ⟨line_le hl.1, hl.2⟩, q'⟩
  | _ => exact main hl
def fAbs : AN := fun ds μ Q => ∃ i, ds = [.int i] ∧ Q (.int (if i < 0 then -i else i)) μ
theorem sim_abs : SimRN W (fun xs H Q => ∃ i, xs = [.int i] ∧ Q (.int (if i < 0 then -i else i)) H) fAbs := by
  intro F μ H xs ds Q R rep al ⟨i, e, q⟩ k
  subst e
  obtain ⟨v, rfl, a⟩ := one_at al
  cases (show v = .int i from a)
  exact ⟨i, rfl, k.here rep (show At W.toWd F (.int _) (.int _) from rfl) q⟩
def fInt : AN := fun ds μ Q => ∃ i, ds = [.int i] ∧ Q (.int i) μ
theorem sim_int1 : SimRN W (fun xs H Q => (∃ i, xs = [V.int i] ∧ Q (.int i) H) ∨ ∃ k, xs = [V.bl k] ∧ Q (.int (if k then 1 else 0)) H) fInt := by
  intro F μ H xs ds Q R rep al ⟨i, e, q⟩ k
  subst e
  obtain ⟨v, rfl, a⟩ := one_at al
  cases (show v = .int i from a)
  exact .inl ⟨i, rfl, k.here rep (show At W.toWd F (.int _) (.int _) from rfl) q⟩
def fStrI : AN := fun ds μ Q => ∃ i : Int, ds = [.int i] ∧ i.natAbs.log2 < 1920 ∧ Q (.str (toString i)) μ
theorem sim_strI : SimRN W (fun xs H Q => ∃ i, xs = [V.int i] ∧ i.natAbs.log2 < 1920 ∧ Q (.str (toString i)) H) fStrI := by
  intro F μ H xs ds Q R rep al ⟨i, e, h, q⟩ k
  subst e
  obtain ⟨v, rfl, a⟩ := one_at al
  cases (show v = .int i from a)
  exact ⟨i, rfl, h, k.here rep (show At W.toWd F (.str _) (.str _) from rfl) q⟩
def fMax2 : AN := fun ds μ Q => ∃ i j, ds = [.int i, .int j] ∧ Q (.int (if j > i then j else i)) μ
def fMin2 : AN := fun ds μ Q => ∃ i j, ds = [.int i, .int j] ∧ Q (.int (if j < i then j else i)) μ
theorem sim_max2 : SimRN W (fun xs H Q => ∃ i j, xs = [V.int i, .int j] ∧ Q (.int (if j > i then j else i)) H) fMax2 := by
  intro F μ H xs ds Q R rep al ⟨i, j, e, q⟩ k
  subst e
  obtain ⟨v, u, rfl, a, b⟩ := two_at al
  cases (show v = .int i from a)
  cases (show u = .int j from b)
  exact ⟨i, j, rfl, k.here rep (show At W.toWd F (.int _) (.int _) from rfl) q⟩
theorem sim_min2 : SimRN W (fun xs H Q => ∃ i j, xs = [V.int i, .int j] ∧ Q (.int (if j < i then j else i)) H) fMin2 := by
  intro F μ H xs ds Q R rep al ⟨i, j, e, q⟩ k
  subst e
  obtain ⟨v, u, rfl, a, b⟩ := two_at al
  cases (show v = .int i from a)
  cases (show u = .int j from b)
  exact ⟨i, j, rfl, k.here rep (show At W.toWd F (.int _) (.int _) from rfl) q⟩
/-- list(xs), tuple(xs) -/
def rListOf (K : PySem.W.Frag) : List V → Hp → VK → Prop := fun xs H Q => ∃ p ys, xs = [.ref p] ∧ (SqL K H p ys ∨ SqT K H p ys) ∧ ∀ l, H l = none → Q (.ref l) (upd H l (.lst ys))
def rTupOf (K : PySem.W.Frag) : List V → Hp → VK → Prop := fun xs H Q => ∃ p ys, xs = [.ref p] ∧ ((SqL K H p ys ∧ ∀ l, H l = none → Q (.ref l) (upd H l (.tup ys))) ∨ (SqT K H p ys ∧ Q (.ref p) H))
def fList : AN := fun ds μ Q => ∃ x es, ds = [x] ∧ seqOf μ x = some es ∧ Q (.lst es) μ
def fListM : AN := fun ds μ Q => ∃ x es, ds = [x] ∧ seqOf μ x = some es ∧ ∀ p, μ p = none → Q (.cell p) (mset μ p (.lst es))
def fTuple : AN := fun ds μ Q => ∃ x es, ds = [x] ∧ seqOf μ x = some es ∧ Q (.tup es) μ
theorem sim_list : SimRN W (rListOf W.K) fList := by
  intro F μ H xs ds Q R rep al ⟨x, es, e, h1, q⟩ k
  subst e
  obtain ⟨v, rfl, a⟩ := one_at al
  obtain ⟨p, vs, rfl, hs, al2⟩ := seq_at rep a h1
  exact ⟨p, vs, rfl, hs, fun l hl => k _ _ _ _ _ (rep.alloc hl) (Step.alloc rep hl) (at_newL (rep.f_none hl) al2) q⟩
theorem sim_listM : SimRN W (rListOf W.K) fListM := by
  intro F μ H xs ds Q R rep al ⟨x, es, e, h1, q⟩ k
  subst e
  obtain ⟨v, rfl, a⟩ := one_at al
  obtain ⟨p, vs, rfl, hs, al2⟩ := seq_at rep a h1
  exact ⟨p, vs, rfl, hs, fun l hl => k _ _ _ _ _ (rep.allocM (c := .lst _) hl ⟨_, rfl, al2⟩) (Step.allocM rep hl) (show At W.toWd F (.cell l) (.ref l) from rfl) (q l (rep.mu_none hl))⟩
theorem sim_tuple : SimRN W (rTupOf W.K) fTuple := by
  intro F μ H xs ds Q R rep al ⟨x, es, e, h1, q⟩ k
  subst e
  obtain ⟨v, rfl, a⟩ := one_at al
  have new : ∀ vs, AtL W.toWd F es vs → ∀ l, H l = none → R (.ref l) (upd H l (.tup vs)) := fun vs av l hl => k _ _ _ _ _ (rep.alloc hl) (Step.alloc rep hl) (at_newT (rep.f_none hl) av) q
  cases x with
  | tup es' =>
    cases h1
    obtain ⟨p, vs, rfl, hp, al2⟩ := a
    exact ⟨p, vs, rfl, .inr ⟨rep.ex.sqt hp, k.here (d := .tup es) rep ⟨p, vs, rfl, hp, al2⟩ q⟩⟩
  | lst es' =>
    cases h1
    obtain ⟨p, vs, rfl, hp, al2⟩ := a
    exact ⟨p, vs, rfl, .inl ⟨.inl (.inl (rep.ex _ _ hp)), new vs al2⟩⟩
  | ro es' =>
    cases h1
    obtain ⟨p, vs, rfl, hp, al2⟩ := a
    exact ⟨p, vs, rfl, .inl ⟨rep.ex.sql hp, new vs al2⟩⟩
  | cell b =>
    obtain ⟨p, vs, rfl, hp, al2⟩ := lst_at (d := .cell b) rep a h1
    exact ⟨p, vs, rfl, .inl ⟨.inl (.inl hp), new vs al2⟩⟩
  | _ => cases h1
/-- isinstance with built-in types -/
def tyD (μ : Mu) : Dat → Option String
  | .non => some "NoneType"
  | .bl _ => some "bool"
  | .int _ => some "int"
  | .str _ => some "str"
  | .tup _ => some "tuple"
  | .lst _ => some "list"
  | .dic _ _ => some "dict"
  | .cell a => match μ a with
    | some (.lst _) => some "list"
    | some (.dK _ _) => some "dict"
    | _ => none
  | _ => none
theorem ty_at {F : Hp} {μ : Mu} {H : Hp} {d : Dat} {v : V} {t : String} (R : Rep W.toWd F μ H) (h : At W.toWd F d v) (e : tyD μ d = some t) : TyX W.K H v (.type t) := by
  cases d with
  | non => cases e; cases (show v = .non from h); exact .base .non
  | bl b => cases e; cases (show v = .bl b from h); exact .base (.bl _)
  | int i => cases e; cases (show v = .int i from h); exact .base (.int _)
  | str s => cases e; cases (show v = .str s from h); exact .base (.str _)
  | tup ds =>
    cases e
    obtain ⟨p, vs, rfl, hp, al⟩ := h
    rcases hp with (hp | ⟨o, hp⟩) | ⟨o, its, n, hk, hc, _⟩
    · exact .base (.tup (R.ex _ _ hp))
    · exact .fTuple (R.ex _ _ hp)
    · exact .kTuple hk hc
  | lst ds =>
    cases e
    obtain ⟨p, vs, rfl, hp, al⟩ := h
    exact .base (.lst (R.ex _ _ hp))
  | dic ks ds =>
    cases e
    obtain ⟨p, vs, rfl, hp, al⟩ := h
    exact .base (.dK (R.ex _ _ hp))
  | cell a =>
    cases (show v = .ref a from h)
    simp only [tyD] at e
    cases q : μ a with
    | none => simp only [q] at e; cases e
    | some c =>
      cases c with
      | lst ds =>
        simp only [q] at e
        cases e
        obtain ⟨_, vs, ho, al⟩ := R.cel a _ q
        exact .base (.lst ho)
      | dK ks ds =>
        simp only [q] at e
        cases e
        obtain ⟨_, vs, ho, al⟩ := R.cel a _ q
        exact .base (.dK ho)
      | dT _ _ => simp only [q] at e; cases e
      | set _ => simp only [q] at e; cases e
      | ins _ _ _ => simp only [q] at e; cases e
  | _ => cases e
/-- the answers for the types that are asked -/
def isi : String → String → Option Bool := fun t T => match T with
  | "int" => some (t == "int" || t == "bool")
  | "bool" => some (t == "bool")
  | "str" => some (t == "str")
  | "tuple" => some (t == "tuple")
  | "list" => some (t == "list")
  | "dict" => some (t == "dict")
  | _ => none
def tyNames : List String := ["NoneType", "bool", "int", "str", "tuple", "list", "dict"]
theorem kit_isi {K : PySem.W.Frag} : ∀ t ∈ tyNames, ∀ T ∈ ["int", "bool", "str", "tuple", "list", "dict"], PySem.W.kitOne K (.type t) (.type T) = isi t T := by
  have key : ∀ t ∈ tyNames, ∀ T ∈ ["int", "bool", "str", "tuple", "list", "dict"], kitB t T = isi t T := by decide +kernel
  intro t ht T hT
  have e := key t ht T hT
  cases q : isi t T with
  | none =>
    exfalso
    have : ∀ t ∈ tyNames, ∀ T ∈ ["int", "bool", "str", "tuple", "list", "dict"], isi t T ≠ none := by decide +kernel
    exact this t ht T hT q
  | some b => exact kit_ty (by rw [e, q])
theorem tyD_mem {μ : Mu} {d : Dat} {t : String} (e : tyD μ d = some t) : t ∈ tyNames := by
  cases d with
  | cell a =>
    simp only [tyD] at e
    split at e <;> first | (cases e; decide) | cases e
  | _ => first | (cases e; decide) | cases e
def isiT (T : String) : Prop := T ∈ ["int", "bool", "str", "tuple", "list", "dict"]
def fIsi : AN := fun ds μ Q => ∃ x T t b, ds = [x, .ty T] ∧ isiT T ∧ tyD μ x = some t ∧ isi t T = some b ∧ Q (.bl b) μ
theorem sim_isi : SimRN W (rIsi W.K) fIsi := by
  intro F μ H xs ds Q R rep al ⟨x, T, t, b, e, hT, ht, hi, q⟩ k
  subst e
  obtain ⟨v, u, rfl, a, c⟩ := two_at al
  cases (show u = .ty T from c)
  refine ⟨v, .ty T, .type t, .type T, b, rfl, .ty T, ty_at rep a ht, ?_, k.here rep (show At W.toWd F (.bl b) (.bl b) from rfl) q⟩
  rw [kit_isi t (tyD_mem ht) T hT]
  exact hi
def isiAny (t : String) : List String → Bool
  | [] => false
  | T :: r => (isi t T == some true) || isiAny t r
theorem kit_any {K : PySem.W.Frag} {t : String} (ht : t ∈ tyNames) : ∀ Ts : List String, (∀ T ∈ Ts, isiT T) → PySem.W.kitAny K (.type t) (Ts.map Value.type) = some (isiAny t Ts)
  | [], _ => rfl
  | T :: r, h => by
    have h1 := kit_isi (K := K) t ht T (h T List.mem_cons_self)
    have ih := kit_any (K := K) ht r fun T hT => h T (List.mem_cons_of_mem _ hT)
    have ne : isi t T ≠ none := by
      have : ∀ t ∈ tyNames, ∀ T ∈ ["int", "bool", "str", "tuple", "list", "dict"], isi t T ≠ none := by decide +kernel
      exact this t ht T (h T List.mem_cons_self)
    cases q : isi t T with
    | none => exact absurd q ne
    | some b =>
      rw [q] at h1
      rw [List.map_cons]
      refine kitAny_cons h1 (fun eb => ?_) fun eb => ?_
      · subst eb
        rw [ih]
        simp [isiAny, q]
      · subst eb
        simp [isiAny, q]
def fIsiT : AN := fun ds μ Q => ∃ x Ts t, ds = [x, .tup (Ts.map Dat.ty)] ∧ (∀ T ∈ Ts, isiT T) ∧ tyD μ x = some t ∧ Q (.bl (isiAny t Ts)) μ
theorem tys_at {F : Hp} : ∀ {Ts : List String} {vs : List V}, AtL W.toWd F (Ts.map Dat.ty) vs → Paired ClsV vs (Ts.map Value.type)
  | [], _, h => by
    cases (show _ = [] from h)
    exact .nil
  | T :: Ts, _, ⟨v, r, a, b, c⟩ => by
    subst a
    cases (show v = .ty T from b)
    exact .cons (.ty T) (tys_at c)
/-- the tuple of types is one that was just laid -/
def aIsiT (a : AE) (u : AA) : AE := fun Xp ρ μ Q => a Xp ρ μ fun x μ1 => u Xp ρ μ1 fun ds μ2 => ∃ Ts t, ds = Ts.map Dat.ty ∧ (∀ T ∈ Ts, isiT T) ∧ ds.length ≤ 16777216 ∧ tyD μ2 x = some t ∧ Q (.bl (isiAny t Ts)) μ2
theorem sim_isiT {ta : TE} {a : AE} {tu : TA} {u : AA} (h : SimE W WW ta a) (h' : SimA W WW tu u) : SimE W WW (tCB (rIsiT W.K) (tCons ta (tCons (tTup tu) tNil))) (aIsiT a u) := by
  intro F μ ρ σ H Xp Q R rep sl kx q k
  refine h F μ ρ σ H Xp _ _ rep sl kx q fun F1 μ1 H1 d v r1 s1 a1 h1 => ?_
  refine h' F1 μ1 ρ σ H1 Xp _ _ r1 (sl.mono s1.ex) (kx.step s1) h1 fun F2 μ2 H2 ds vs r2 s2 a2 ⟨Ts, t, e, hT, hl, ht, h2⟩ => ?_
  subst e
  refine ⟨by rw [← a2.length]; exact line_le hl, fun p hp => ?_⟩
  have r3 := r2.alloc (o := .tup vs) hp
  have s3 := Step.alloc (o := .tup vs) r2 hp
  exact ⟨v, p, vs, .type t, Ts.map Value.type, isiAny t Ts, rfl, upd_same, tys_at a2, ty_at r3 (At.mono (s2.trans s3).ex _ _ a1) ht, kit_any (tyD_mem ht) Ts hT, k _ _ _ _ _ r3 (s1.trans (s2.trans s3)) (show At W.toWd _ (.bl _) (.bl _) from rfl) h2⟩
theorem de_isiT {p pos : Pos} {e : Expr} {es : List Expr} {x1} {tp : Pos} {te : TE} {ae : AE} {tu : TA} {u : AA} (hm : X.mg "isinstance" = none) (he : DE X WW e te ae) (hu : DA X WW es tu u) (hg : Gl X "isinstance" := by rfl)
    (hs1 : starEach [e, .Tuple es x1 tp] X.env = (false, eval e X.env) :: starEach [.Tuple es x1 tp] X.env := by rfl) (hs2 : starEach [.Tuple es x1 tp] X.env = (false, eval (.Tuple es x1 tp) X.env) :: starEach [] X.env := by rfl)
    (hpl : (backTo pos (starEach [.Tuple es x1 tp] X.env)).any (·.1) = false := by rfl) :
    DE X WW (.Call (.Name "isinstance" p) [e, .Tuple es x1 tp] [] pos) (tCB (rIsiT X.K) (tCons te (tCons (tTup tu) tNil))) (aIsiT ae u) :=
  ⟨pe_callB call_isiT hg hm (by decide +kernel) (pa_cons he.p (pa_cons (pe_tup hu.p) pa_nil hs2) hs1) (by decide) (by decide) hs1 hpl, sim_isiT he.s hu.s⟩
end
end DL

namespace DL
open PySem PySem.Spec PyProof.Rows L2

/-! ### defs -/
/-- what a def promises: the arguments, the cells, the wanted end, the wanted exception -/
abbrev Con := List Dat → Mu → AQ → (AX → Mu → Prop) → Prop
def spOf (W : Wm) (C : Con) : Sp := fun vs H Q E => ∃ F μ ds QA EA, Rep W.toWd F μ H ∧ AtL W.toWd F ds vs ∧ C ds μ QA EA ∧ Kont W F μ H QA Q ∧
  (∀ F' μ' H' x cls dd, Rep W.toWd F' μ' H' → Step F μ H F' μ' H' → ExcAt W F' x cls dd → EA x μ' → E cls dd H')
structure FnD (W : Wm) (base : Heap) (k : Nat) (name : Str) (ps : List Str) (C : Con) : Prop where
  ex : ∃ f fd, W.mg name = some (.ref f) ∧ PySem.W.keepIn W.K (.ref f) = true ∧ Binds W.K fd ps [] ∧ FnOk W.P W.w W.K W.mg base (L2.CX W.P W.w) k f fd ps (spOf W C)
theorem FnD.mono {W : Wm} {base : Heap} {j k : Nat} {name : Str} {ps : List Str} {C : Con} (F : FnD W base j name ps C) (h : j ≤ k) : FnD W base k name ps C := by
  obtain ⟨f, fd, a, b, c, d⟩ := F.ex
  exact ⟨f, fd, a, b, c, d.mono h⟩
theorem FnD.imp {W : Wm} {base : Heap} {k : Nat} {name : Str} {ps : List Str} {C C' : Con} (F : FnD W base k name ps C) (h : ∀ ds μ Q E, C' ds μ Q E → C ds μ Q E) : FnD W base k name ps C' := by
  obtain ⟨f, fd, a, b, c, d⟩ := F.ex
  exact ⟨f, fd, a, b, c, d.imp fun vs H Q E ⟨G, μ, ds, QA, EA, h1, h2, h3, h4⟩ => ⟨G, μ, ds, QA, EA, h1, h2, h _ _ _ _ h3, h4⟩⟩
/-- a def of the text -/
structure DefD (W : Wm) (name : Str) (st : Stmt) (ps : List Str) : Prop where
  ex : ∃ f fd, W.mg name = some (.ref f) ∧ Fun W.K name name st f fd ∧ Binds W.K fd ps []
def startD (N : List Str) (ds : List Dat) : Sl := ds.map some ++ List.replicate (N.length - ds.length) none
theorem slAt_start {W : Wd} {F : Hp} {N : List Str} {ds : List Dat} {vs : List V} (h : AtL W F ds vs) : SlAt W F (startD N ds) (L2.start N vs) := by
  have hl := h.length
  refine ⟨?_, fun i d e => ?_⟩
  · unfold startD L2.start
    rw [List.length_append, List.length_append, List.length_map, List.length_map, List.length_replicate, List.length_replicate, hl]
  · unfold startD at e
    unfold L2.start
    by_cases hi : i < ds.length
    · rw [List.getElem?_append_left (by rw [List.length_map]; exact hi), List.getElem?_map] at e
      rw [List.getElem?_append_left (by rw [List.length_map, ← hl]; exact hi), List.getElem?_map]
      cases q : ds[i]? with
      | none => rw [q] at e; cases e
      | some d' =>
        rw [q] at e
        cases e
        obtain ⟨v, h1, h2⟩ := h.get q
        exact ⟨v, by rw [h1]; rfl, h2⟩
    · rw [List.getElem?_append_right (by rw [List.length_map]; omega), List.getElem?_replicate] at e
      split at e <;> cases e
abbrev bodyX (W : Wm) (base : Heap) (N : List Str) (name : Str) (st : Stmt) (f : Addr) (cdv : Value) (A : Around) (outer : List PySem.Env) (s : Shared) (H : Hp) (E : XK) : Cx := cxOf (L2.CX W.P W.w) W.P W.w W.K W.mg base N name (defScope st) f cdv A outer s H E
abbrev bodyW (E : XK) : WX := fun cls d _ H => E cls d H
/-- ν is a part of μ -/
def Sub (ν μ : Mu) : Prop := ∀ a c, ν a = some c → μ a = some c
theorem Sub.refl (μ : Mu) : Sub μ μ := fun _ _ h => h
theorem Sub.nn {ν μ : Mu} {a : Addr} (s : Sub ν μ) (h : μ a = none) : ν a = none := by
  cases q : ν a with
  | none => rfl
  | some c =>
    rw [s a c q] at h
    cases h
theorem Sub.mset {ν μ : Mu} {a : Addr} {c : Cell} (s : Sub ν μ) (h : ν a = none) : Sub ν (mset μ a c) := fun b d e => by
  have ne : b ≠ a := fun z => by
    subst z
    rw [h] at e
    cases e
  rw [mset_ne ne]
  exact s b d e
theorem Sub.mdel {ν μ : Mu} {a : Addr} (s : Sub ν μ) (h : ν a = none) : Sub ν (mdel μ a) := fun b d e => by
  have ne : b ≠ a := fun z => by
    subst z
    rw [h] at e
    cases e
  rw [mdel_ne ne]
  exact s b d e
theorem Step.sub {F : Hp} {μ : Mu} {H F' : Hp} {μ' ν : Mu} {H' : Hp} (st : Step F μ H F' μ' H') (s : Sub ν μ') : Step F μ H F' ν H' := ⟨st.ex, st.fr, st.nw, fun a o e m => s.nn (st.mn a o e m)⟩
/-- at a def's end cells may be forgotten -/
def fgt (QA : AQ) : AQ := fun d μ => ∃ ν, Sub ν μ ∧ QA d ν
theorem fgt.here {QA : AQ} {d : Dat} {μ : Mu} (h : QA d μ) : fgt QA d μ := ⟨μ, Sub.refl μ, h⟩
abbrev bodyE (QA : AQ) (EA : AX → Mu → Prop) : AEnds := { nx := fun _ μ => fgt QA .non μ, rt := fgt QA, ex := fun x _ μ => ∃ ν, Sub ν μ ∧ EA x ν }
theorem DefD.ok {W : Wm} {base : Heap} {name : Str} {st : Stmt} {N ps : List Str} {C : Con} {k : Nat} (D : DefD W name st ps) (S : FnScope N ps (defScope st)) (len : ∀ ds μ Q E, C ds μ Q E → ds.length = ps.length)
    (hb : ∀ (f : Addr) (cdv : Value) (A : Around) (outer : List PySem.Env) (s : Shared) (H : Hp) (E : XK), Room k (A.deeper (envOfC name (defScope st) s.heap.objs.size f cdv)) → Ctx (bodyX W base N name st f cdv A outer s H E) (bodyW E) →
      ∀ ds μ QA EA, C ds μ QA EA → ∃ t as, DSs (bodyX W base N name st f cdv A outer s H E) (bodyW E) (defBody st) t as ∧ as (bodyE QA EA) (startD N ds) μ) : FnD W base (k + 1) name ps C := by
  obtain ⟨f, fd, hm, F, hbi⟩ := D.ex
  refine ⟨f, fd, hm, F.kp, hbi, F.okX S (fun vs H Q E ⟨G, μ, ds, QA, EA, h1, h2, h3, h4⟩ => ?_) fun cdv A outer s H vs Q E hr ⟨G, μ, ds, QA, EA, rep, al, hC, kq, ke⟩ => ?_⟩
  · rw [← h2.length]
    exact len _ _ _ _ h3
  · have ctx : Ctx (bodyX W base N name st f cdv A outer s H E) (bodyW E) := ⟨takes_of rfl rfl rfl rfl, passes_of rfl, rfl, S.nd⟩
    obtain ⟨t, as, hd, ha⟩ := hb f cdv A outer s H E hr ctx ds μ QA EA hC
    refine ⟨t, hd.p, hd.s G μ (startD N ds) (L2.start N vs) H (bodyE QA EA) _ rep (slAt_start al) ?_ ha⟩
    exact ⟨fun F' μ' H' ρ' σ' r st _ ⟨ν, sb, q⟩ => kq _ _ _ _ _ (r.less sb) (st.sub sb) (show At W.toWd F' .non .non from rfl) q, fun F' μ' H' d v r st a ⟨ν, sb, q⟩ => kq _ _ _ _ _ (r.less sb) (st.sub sb) a q, fun _ _ _ _ _ _ _ _ z => z.elim, fun _ _ _ _ _ _ _ _ z => z.elim,
      fun F' μ' H' ρ' σ' x cls dd r st _ a ⟨ν, sb, q⟩ => ke _ _ _ _ _ _ (r.less sb) (st.sub sb) a q⟩

section
variable {X : Cx} {WW : WX} {W : Wm}
/-! ### a call of an own def -/
def aCall (C : Con) (t : AA) : AE := fun Xp ρ μ Q => t Xp ρ μ fun ds μ1 => C ds μ1 Q fun x μ2 => Xp x ρ μ2
theorem sim_call {C : Con} {ta : TA} {t : AA} (h : SimA W WW ta t) : SimE W WW (tCallS (spOf W C) (WE WW) ta) (aCall C t) := by
  intro F μ ρ σ H Xp Q R rep sl kx q k
  refine h F μ ρ σ H Xp _ _ rep sl kx q fun F1 μ1 H1 ds vs r1 s1 a1 h1 => ?_
  exact ⟨F1, μ1, ds, _, _, r1, a1, h1, k.step s1, fun F' μ' H' x cls dd r st a e => kx _ _ _ _ _ _ r (s1.trans st) a e⟩
theorem de_call {C : Con} {j k : Nat} {x : Str} {ps : List Str} {p pos : Pos} {e : Expr} {es : List Expr} {t : TA} {aa : AA} (F : FnD (wm X) X.base j x ps C) (c : Ctx X WW) (hr : Room k X.A) (hk : j ≤ k) (ha : DA X WW (e :: es) t aa) (hg : Gl X x := by rfl)
    (hdb : (x == ("__debug__" : Str)) = false := by decide) (he : starEach (e :: es) X.env = (false, eval e X.env) :: starEach es X.env := by rfl) (hpl : (backTo pos (starEach es X.env)).any (·.1) = false := by rfl) :
    DE X WW (.Call (.Name x p) (e :: es) [] pos) (tCallS (spOf (wm X) C) (WE WW) t) (aCall C aa) := by
  obtain ⟨f, fd, hm, hkp, hb, hf⟩ := F.ex
  exact ⟨pe_callS hf (hr.mono hk) hg hm hkp hb (passAt c.tk) ha.p hdb he hpl, sim_call ha.s⟩

/-! ### methods of built-in types -/
abbrev AM := Dat → List Dat → Mu → AQ → Prop
def SimM (W : Wm) (r : V → List V → Hp → VK → Prop) (f : AM) : Prop := ∀ F μ H x xs d ds Q R, Rep W.toWd F μ H → At W.toWd F d x → AtL W.toWd F ds xs → f d ds μ Q → Kont W F μ H Q R → r x xs H R
def tyOk (T : String) (μ : Mu) (d : Dat) : Prop := (T = "list" ∧ ∃ ds, lstOf μ d = some ds) ∨ (T = "dict" ∧ ∃ ks ds, dicOf μ d = some (ks, ds)) ∨ (T = "str" ∧ ∃ s, d = .str s)
theorem tyOk_at {F : Hp} {μ : Mu} {H : Hp} {T : String} {d : Dat} {v : V} (R : Rep W.toWd F μ H) (h : At W.toWd F d v) (e : tyOk T μ d) : tyV W.K T v H := by
  rcases e with ⟨rfl, ds, e⟩ | ⟨rfl, ks, ds, e⟩ | ⟨rfl, s, rfl⟩
  · obtain ⟨p, vs, rfl, hp, al⟩ := lst_at R h e
    exact .inl ⟨rfl, vs, .inl (.inl hp)⟩
  · obtain ⟨p, vs, rfl, hp, hl, al⟩ := dic_at R h e
    exact .inr (.inr (.inl ⟨rfl, .inl ⟨_, hp⟩⟩))
  · cases (show v = .str s from h)
    exact rfl
def aBM (T : String) (f : AM) (a : AE) (t : AA) : AE := fun Xp ρ μ Q => a Xp ρ μ fun x μ1 => tyOk T μ1 x ∧ t Xp ρ μ1 fun ds μ2 => f x ds μ2 Q
def aBM0 (T : String) (f : AM) (a : AE) : AE := fun Xp ρ μ Q => a Xp ρ μ fun x μ1 => tyOk T μ1 x ∧ f x [] μ1 Q
theorem sim_bm {T : String} {r : V → List V → Hp → VK → Prop} {f : AM} {to : TE} {t : TA} {a : AE} {aa : AA} (hr : SimM W r f) (h : SimE W WW to a) (h' : SimA W WW t aa) : SimE W WW (tBM W.K T r to t) (aBM T f a aa) := by
  intro F μ ρ σ H Xp Q R rep sl kx q k
  refine h F μ ρ σ H Xp _ _ rep sl kx q fun F1 μ1 H1 d v r1 s1 a1 ⟨ty, h1⟩ => ⟨tyOk_at r1 a1 ty, ?_⟩
  refine h' F1 μ1 ρ σ H1 Xp _ _ r1 (sl.mono s1.ex) (kx.step s1) h1 fun F2 μ2 H2 ds vs r2 s2 a2 h2 => ?_
  exact hr F2 μ2 H2 v vs d ds Q R r2 (At.mono s2.ex _ _ a1) a2 h2 (k.step (s1.trans s2))
theorem sim_bm0 {T : String} {r : V → List V → Hp → VK → Prop} {f : AM} {to : TE} {a : AE} (hr : SimM W r f) (h : SimE W WW to a) : SimE W WW (tBM0 W.K T r to) (aBM0 T f a) := by
  intro F μ ρ σ H Xp Q R rep sl kx q k
  refine h F μ ρ σ H Xp _ _ rep sl kx q fun F1 μ1 H1 d v r1 s1 a1 ⟨ty, h1⟩ => ⟨tyOk_at r1 a1 ty, ?_⟩
  exact hr F1 μ1 H1 v [] d [] Q R r1 a1 rfl h1 (k.step s1)
theorem de_bm {T id : String} {name : Str} {r : V → List V → Hp → VK → Prop} {f : AM} {o e : Expr} {es : List Expr} {to : TE} {t : TA} {ao : AE} {aa : AA} {apos cpos : Pos} (hr : SimM (wm X) r f) (pa : PlainAttrs T) (slot : Slot T name id) (hty : typeOf (.builtin id) = pure (.type "method_descriptor")) (hm : MtR X id r) (ho : DE X WW o to ao) (ha : DA X WW (e :: es) t aa)
    (hbase : attributeBase o name X.env (eval o X.env) = eval o X.env := by rfl)
    (hfew : ((backTo cpos (starEach (e :: es) X.env)).all (fun x => !x.1) && (backToKw cpos (keywordEach [] X.env)).all (fun x => x.1.isSome)
      && decide ((e :: es).length + ([] : List Keyword).length + (if ([] : List Keyword).isEmpty then 0 else 1) < 30)) = true := by rfl)
    (hline : (apos.endLine == cpos.line) = true := by rfl) (hs : starEach (e :: es) X.env = (false, eval e X.env) :: starEach es X.env := by rfl) (hplain : (backTo cpos (starEach es X.env)).any (·.1) = false := by rfl) :
    DE X WW (.Call (.Attribute o name apos) (e :: es) [] cpos) (tBM X.K T r to t) (aBM T f ao aa) := ⟨pe_bm pa slot hty hm ho.p ha.p hbase hfew hline hs hplain, sim_bm hr ho.s ha.s⟩
theorem de_bm0 {T id : String} {name : Str} {r : V → List V → Hp → VK → Prop} {f : AM} {o : Expr} {to : TE} {ao : AE} {apos cpos : Pos} (hr : SimM (wm X) r f) (pa : PlainAttrs T) (slot : Slot T name id) (hty : typeOf (.builtin id) = pure (.type "method_descriptor")) (hm : MtR X id r) (ho : DE X WW o to ao)
    (hbase : attributeBase o name X.env (eval o X.env) = eval o X.env := by rfl) (hline : (apos.endLine == cpos.line) = true := by rfl) :
    DE X WW (.Call (.Attribute o name apos) [] [] cpos) (tBM0 X.K T r to) (aBM0 T f ao) := ⟨pe_bm0 pa slot hty hm ho.p hbase hline, sim_bm0 hr ho.s⟩
theorem cell_at {F : Hp} {μ : Mu} {H : Hp} {p : Addr} {ds : List Dat} (R : Rep W.toWd F μ H) (h : μ p = some (.lst ds)) : ∃ vs, H p = some (.lst vs) ∧ AtL W.toWd F ds vs := (R.cel p _ h).2
/-- append -/
def fApp : AM := fun x ds μ Q => ∃ p es d, x = .cell p ∧ ds = [d] ∧ μ p = some (.lst es) ∧ es.length < 16777216 ∧ Q .non (mset μ p (.lst (es ++ [d])))
theorem sim_app : SimM W rAppend fApp := by
  intro F μ H x xs d ds Q R rep hd al ⟨p, es, e, h1, h2, h3, hl, q⟩ k
  subst h1 h2
  cases (show x = .ref p from hd)
  obtain ⟨u, rfl, au⟩ := one_at al
  obtain ⟨vs, hp, av⟩ := cell_at rep h3
  refine ⟨p, vs, u, rfl, rfl, hp, by rw [← av.length]; exact hl, ?_⟩
  exact k _ _ _ _ _ (rep.write (c' := .lst _) h3 ⟨_, rfl, av.append (AtL.cons au AtL.nil)⟩) (Step.write h3) (show At W.toWd F .non .non from rfl) q
/-- extend, by a list -/
def fExt : AM := fun x ds μ Q => ∃ p es d fs, x = .cell p ∧ ds = [d] ∧ μ p = some (.lst es) ∧ lstOf μ d = some fs ∧ es.length + fs.length ≤ 16777216 ∧ Q .non (mset μ p (.lst (es ++ fs)))
theorem sim_ext : SimM W rExtend fExt := by
  intro F μ H x xs d ds Q R rep hd al ⟨p, es, e, fs, h1, h2, h3, h4, hl, q⟩ k
  subst h1 h2
  cases (show x = .ref p from hd)
  obtain ⟨u, rfl, au⟩ := one_at al
  obtain ⟨vs, hp, av⟩ := cell_at rep h3
  obtain ⟨b, us, rfl, hb, ab⟩ := lst_at rep au h4
  refine ⟨p, b, vs, us, rfl, rfl, hp, hb, by rw [← av.length, ← ab.length]; exact line_le hl, ?_⟩
  exact k _ _ _ _ _ (rep.write (c' := .lst _) h3 ⟨_, rfl, av.append ab⟩) (Step.write h3) (show At W.toWd F .non .non from rfl) q
/-- pop of the last -/
def fPop : AM := fun x ds μ Q => ∃ p es d, x = .cell p ∧ ds = [] ∧ μ p = some (.lst (es ++ [d])) ∧ Q d (mset μ p (.lst es))
theorem AtL.last {F : Hp} : ∀ {es : List Dat} {d : Dat} {vs : List V}, AtL W.toWd F (es ++ [d]) vs → ∃ us u, vs = us ++ [u] ∧ AtL W.toWd F es us ∧ At W.toWd F d u
  | [], d, vs, h => by
    obtain ⟨u, e, a⟩ := one_at h
    exact ⟨[], u, e, rfl, a⟩
  | e :: es, d, _, ⟨v, r, a, b, c⟩ => by
    subst a
    obtain ⟨us, u, e1, h1, h2⟩ := AtL.last c
    subst e1
    exact ⟨v :: us, u, rfl, ⟨v, us, rfl, b, h1⟩, h2⟩
theorem sim_pop : SimM W rPop fPop := by
  intro F μ H x xs d ds Q R rep hd al ⟨p, es, e, h1, h2, h3, q⟩ k
  subst h1 h2
  cases (show x = .ref p from hd)
  cases (show xs = [] from al)
  obtain ⟨vs, hp, av⟩ := cell_at rep h3
  obtain ⟨us, u, rfl, a1, a2⟩ := av.last
  refine ⟨p, us ++ [u], u, rfl, rfl, hp, by simp, ?_⟩
  rw [List.dropLast_concat]
  exact k _ _ _ _ _ (rep.write (c' := .lst _) h3 ⟨_, rfl, a1⟩) (Step.write h3) a2 q
theorem AtL.eraseIdx {F : Hp} : ∀ {ds : List Dat} {vs : List V} (i : Nat), AtL W.toWd F ds vs → AtL W.toWd F (ds.eraseIdx i) (vs.eraseIdx i)
  | [], _, _, h => by
    cases (show _ = [] from h)
    rfl
  | d :: ds, _, 0, ⟨v, r, a, b, c⟩ => by
    subst a
    exact c
  | d :: ds, _, i + 1, ⟨v, r, a, b, c⟩ => by
    subst a
    exact ⟨v, r.eraseIdx i, rfl, b, AtL.eraseIdx i c⟩
/-- pop at a place -/
def fPopAt : AM := fun x ds μ Q => ∃ p es i j d, x = .cell p ∧ ds = [.int i] ∧ μ p = some (.lst es) ∧ ixN es.length i = some j ∧ es.length ≤ 16777216 ∧ es[j]? = some d ∧ Q d (mset μ p (.lst (es.eraseIdx j)))
theorem sim_popAt : SimM W rPopAt fPopAt := by
  intro F μ H x xs d ds Q R rep hd al ⟨p, es, i, j, e, h1, h2, h3, h4, hl, h5, q⟩ k
  subst h1 h2
  cases (show x = .ref p from hd)
  obtain ⟨u, rfl, au⟩ := one_at al
  cases (show u = .int i from au)
  obtain ⟨vs, hp, av⟩ := cell_at rep h3
  obtain ⟨w, hw, aw⟩ := av.get h5
  obtain ⟨z1, z2, z3, z4⟩ := ixN_seq h4
  rw [av.length] at z1 z2 z3 z4 hl
  exact ⟨p, vs, i, j, w, rfl, rfl, hp, by omega, by omega, z1, hw, k _ _ _ _ _ (rep.write (c' := .lst _) h3 ⟨_, rfl, av.eraseIdx j⟩) (Step.write h3) aw q⟩
end

/-! ### statements -/
def sNext : AS := fun D ρ μ => D.nx ρ μ
def sSeq (a b : AS) : AS := fun D ρ μ => a { D with nx := b D } ρ μ
def sSet (i : Nat) (a : AE) : AS := fun D ρ μ => a D.ex ρ μ fun d μ1 => D.nx (ρ.set i (some d)) μ1
def sDrop (a : AE) : AS := fun D ρ μ => a D.ex ρ μ fun _ μ1 => D.nx ρ μ1
def sRet (a : AE) : AS := fun D ρ μ => a D.ex ρ μ D.rt
def sRetN : AS := fun D _ μ => D.rt .non μ
def sIf (t : AT) (a b : AS) : AS := fun D ρ μ => t D.ex ρ μ fun c μ1 => if c = true then a D ρ μ1 else b D ρ μ1
def sBreak : AS := fun D ρ μ => D.bk ρ μ
def sCont : AS := fun D ρ μ => D.ct ρ μ
def sNever : AS := fun _ _ _ => False
section
variable {X : Cx} {WW : WX} {W : Wm}
theorem Link.here {F : Hp} {μ : Mu} {H : Hp} {AD : AEnds} {D : Ends} {ρ : Sl} {σ : L2.St} (k : Link W WW F μ H AD D) (r : Rep W.toWd F μ H) (sl : SlAt W.toWd F ρ σ) (q : AD.nx ρ μ) : D.nx σ H := k.nx _ _ _ _ _ r (Step.refl _ _ _) sl q
theorem Link.withNx {F : Hp} {μ : Mu} {H : Hp} {AD : AEnds} {D : Ends} {N : Sl → Mu → Prop} {N' : L2.St → Hp → Prop} (k : Link W WW F μ H AD D)
    (h : ∀ F' μ' H' ρ' σ', Rep W.toWd F' μ' H' → Step F μ H F' μ' H' → SlAt W.toWd F' ρ' σ' → N ρ' μ' → N' σ' H') : Link W WW F μ H { AD with nx := N } { D with nx := N' } := ⟨h, k.rt, k.bk, k.ct, k.ex⟩
theorem sim_next : SimS W WW tNext sNext := fun F μ ρ σ H AD D rep sl k q => k.here rep sl q
theorem sim_seq {ta tb : TS} {a b : AS} (h : SimS W WW ta a) (h' : SimS W WW tb b) : SimS W WW (tSeq ta tb) (sSeq a b) := by
  intro F μ ρ σ H AD D rep sl k q
  exact h F μ ρ σ H { AD with nx := b AD } { D with nx := tb D } rep sl (k.withNx fun F1 μ1 H1 ρ1 σ1 r1 s1 sl1 q1 => h' F1 μ1 ρ1 σ1 H1 AD D r1 sl1 (k.step s1) q1) q
theorem dss_nil : DSs X WW [] tNext sNext := ⟨pss_nil, sim_next⟩
theorem dss_cons {st : Stmt} {rest : List Stmt} {ta tb : TS} {a b : AS} (h : DS X WW st ta a) (h' : DSs X WW rest tb b) : DSs X WW (st :: rest) (tSeq ta tb) (sSeq a b) := ⟨pss_cons h.p h'.p, sim_seq h.s h'.s⟩
theorem dss_one {st : Stmt} {ta : TS} {a : AS} (h : DS X WW st ta a) : DSs X WW [st] ta a := ⟨pss_one h.p, h.s⟩
theorem dss_never {sts : List Stmt} : DSs X WW sts tNever sNever := ⟨pss_never, fun _ _ _ _ _ _ _ _ _ _ h => h⟩
theorem ds_never {st : Stmt} : DS X WW st tNever sNever := ⟨ps_never, fun _ _ _ _ _ _ _ _ _ _ h => h⟩
theorem ds_pass {pos : Pos} : DS X WW (.Pass pos) tNext sNext := ⟨ps_pass, sim_next⟩
theorem ds_break {pos : Pos} : DS X WW (.Break pos) tBreak sBreak := ⟨ps_break, fun F μ ρ σ H AD D rep sl k q => k.bk _ _ _ _ _ rep (Step.refl _ _ _) sl q⟩
theorem ds_cont {pos : Pos} : DS X WW (.Continue pos) tCont sCont := ⟨ps_continue, fun F μ ρ σ H AD D rep sl k q => k.ct _ _ _ _ _ rep (Step.refl _ _ _) sl q⟩
theorem sim_set {i : Nat} {te : TE} {a : AE} (h : SimE W WW te a) : SimS W WW (tAsg te (gName i)) (sSet i a) := by
  intro F μ ρ σ H AD D rep sl k q
  exact h F μ ρ σ H AD.ex _ _ rep sl (k.konx sl) q fun F1 μ1 H1 d v r1 s1 a1 q1 => k.nx _ _ _ _ _ r1 s1 ((sl.mono s1.ex).set i a1) q1
theorem ds_set (c : Ctx X WW) (i : Nat) {x : Str} {e : Expr} {te : TE} {a : AE} {pos pos' : Pos} (he : DE X WW e te a) (hi : X.N[i]? = some x := by rfl) (hx : Loc X.env.scope x := by first | exact Or.inl rfl | exact Or.inr rfl)
    (hs : swapsWith e (some (.Name x pos')) pos.line X.env = pure false := by rfl) (hf : X.fn x = true ∨ X.env.scope.names.lookup x = some .local := by first | exact .inl rfl | exact .inr rfl) : DS X WW (.Assign [.Name x pos'] e pos) (tAsg te (gName i)) (sSet i a) :=
  ⟨ps_set c.nd hi hx he.p hs hf, sim_set he.s⟩
theorem ds_expr {e : Expr} {te : TE} {a : AE} {pos : Pos} (he : DE X WW e te a) (hs : swapsWith e none pos.line X.env = pure false := by rfl) : DS X WW (.Expr e pos) (tDrop te) (sDrop a) :=
  ⟨ps_expr he.p hs, fun F μ ρ σ H AD D rep sl k q => he.s F μ ρ σ H AD.ex _ _ rep sl (k.konx sl) q fun F1 μ1 H1 d v r1 s1 a1 q1 => k.nx _ _ _ _ _ r1 s1 (sl.mono s1.ex) q1⟩
theorem ds_ret {e : Expr} {te : TE} {a : AE} {pos : Pos} (he : DE X WW e te a) : DS X WW (.Return (some e) pos) (tRet te) (sRet a) :=
  ⟨ps_ret he.p, fun F μ ρ σ H AD D rep sl k q => he.s F μ ρ σ H AD.ex _ _ rep sl (k.konx sl) q fun F1 μ1 H1 d v r1 s1 a1 q1 => k.rt _ _ _ _ _ r1 s1 a1 q1⟩
theorem ds_retN {pos : Pos} : DS X WW (.Return none pos) tRetN sRetN := ⟨ps_retN, fun F μ ρ σ H AD D rep sl k q => k.rt _ _ _ _ _ rep (Step.refl _ _ _) (show At _ F .non .non from rfl) q⟩
theorem ds_if {c : Expr} {a b : List Stmt} {tc : TT} {ac : AT} {ta tb : TS} {aa ab : AS} {pos : Pos} (hc : DT X WW c tc ac) (ha : DSs X WW a ta aa) (hb : DSs X WW b tb ab) : DS X WW (.If c a b pos) (tIfS tc ta tb) (sIf ac aa ab) := by
  refine ⟨ps_if hc.p ha.p hb.p, fun F μ ρ σ H AD D rep sl k q => ?_⟩
  refine hc.s F μ ρ σ H AD.ex _ _ rep sl (k.konx sl) q fun F1 μ1 H1 c r1 s1 q1 => ?_
  cases c with
  | true =>
    rw [if_pos rfl] at q1 ⊢
    exact ha.s F1 μ1 ρ σ H1 AD D r1 (sl.mono s1.ex) (k.step s1) q1
  | false =>
    rw [if_neg Bool.false_ne_true] at q1 ⊢
    exact hb.s F1 μ1 ρ σ H1 AD D r1 (sl.mono s1.ex) (k.step s1) q1
/-! targets -/
abbrev AG := XP → Dat → Sl → Mu → (Sl → Mu → Prop) → Prop
def SimG (W : Wm) (WW : WX) (g : TG) (ag : AG) : Prop := ∀ F μ ρ σ H Xp d v Q R, Rep W.toWd F μ H → SlAt W.toWd F ρ σ → KonX W F μ H Xp WW ρ σ → At W.toWd F d v → ag Xp d ρ μ Q →
  (∀ F' μ' H' ρ' σ', Rep W.toWd F' μ' H' → Step F μ H F' μ' H' → SlAt W.toWd F' ρ' σ' → Q ρ' μ' → R σ' H') → g v σ H R
structure DG (X : Cx) (WW : WX) (e : Expr) (g : TG) (ag : AG) : Prop where
  p : PG X e g
  s : SimG (wm X) WW g ag
def gNm (i : Nat) : AG := fun _ d ρ μ Q => Q (ρ.set i (some d)) μ
theorem dg_name (c : Ctx X WW) (i : Nat) {x : Str} {pos : Pos} (hi : X.N[i]? = some x := by rfl) (hx : Loc X.env.scope x := by first | exact Or.inl rfl | exact Or.inr rfl) (hf : X.fn x = true ∨ X.env.scope.names.lookup x = some .local := by first | exact .inl rfl | exact .inr rfl) :
    DG X WW (.Name x pos) (gName i) (gNm i) := ⟨pg_name c.nd hi hx hf, fun F μ ρ σ H Xp d v Q R rep sl kx a q k => k _ _ _ _ _ rep (Step.refl _ _ _) (sl.set i a) q⟩
abbrev AGs := List Dat → Sl → Mu → (Sl → Mu → Prop) → Prop
def SimGs (W : Wm) (g : TGs) (ag : AGs) : Prop := ∀ F μ ρ σ H ds vs Q R, Rep W.toWd F μ H → SlAt W.toWd F ρ σ → AtL W.toWd F ds vs → ag ds ρ μ Q →
  (∀ F' μ' H' ρ' σ', Rep W.toWd F' μ' H' → Step F μ H F' μ' H' → SlAt W.toWd F' ρ' σ' → Q ρ' μ' → R σ' H') → g vs σ H R
structure DGs (X : Cx) (es : List Expr) (g : TGs) (ag : AGs) : Prop where
  p : PGs X es g
  s : SimGs (wm X) g ag
def gNil_ : AGs := fun ds ρ μ Q => ds = [] ∧ Q ρ μ
def gCons_ (i : Nat) (g : AGs) : AGs := fun ds ρ μ Q => ∃ d es, ds = d :: es ∧ g es (ρ.set i (some d)) μ Q
def gTupN (n : Nat) (g : AGs) : AG := fun _ d ρ μ Q => ∃ ds, d = .tup ds ∧ ds.length = n ∧ g ds ρ μ Q
theorem dgs_nil : DGs X [] gNil gNil_ := by
  refine ⟨pgs_nil, fun F μ ρ σ H ds vs Q R rep sl a ⟨e, q⟩ k => ?_⟩
  subst e
  cases (show vs = [] from a)
  exact ⟨rfl, k _ _ _ _ _ rep (Step.refl _ _ _) sl q⟩
theorem dgs_cons (c : Ctx X WW) (i : Nat) {x : Str} {pos : Pos} {es : List Expr} {g : TGs} {ag : AGs} (h2 : DGs X es g ag) (hi : X.N[i]? = some x := by rfl) (hx : Loc X.env.scope x := by first | exact Or.inl rfl | exact Or.inr rfl)
    (hf : X.fn x = true ∨ X.env.scope.names.lookup x = some .local := by first | exact .inl rfl | exact .inr rfl) (hs : (assignEach (.Name x pos :: es) X.env).map (·.2) = assign (.Name x pos) X.env :: (assignEach es X.env).map (·.2) := by rfl) :
    DGs X (.Name x pos :: es) (gCons (gName i) g) (gCons_ i ag) := by
  refine ⟨pgs_cons (pg_name c.nd hi hx hf) h2.p hs, fun F μ ρ σ H ds vs Q R rep sl a ⟨d, fs, e, q⟩ k => ?_⟩
  subst e
  obtain ⟨v, us, rfl, b, c⟩ := a
  exact ⟨v, us, rfl, h2.s F μ _ _ H fs us Q R rep (sl.set i b) c q k⟩
theorem dg_tup (c : Ctx X WW) {es : List Expr} {k n : Nat} {pos : Pos} {g : TGs} {ag : AGs} (h : DGs X es g ag) (hn : (assignEach es X.env).length = n := by rfl) (hst : (assignEach es X.env).findIdx? (·.1) = none := by rfl) :
    DG X WW (.Tuple es k pos) (gTup X.K n g) (gTupN n ag) := by
  refine ⟨pg_tup c.hc h.p hn hst, fun F μ ρ σ H Xp d v Q R rep sl kx a ⟨ds, e, hl, q⟩ k => ?_⟩
  subst e
  obtain ⟨p, vs, rfl, hp, al⟩ := a
  exact ⟨p, vs, rfl, rep.ex.sqt hp, by rw [← al.length]; exact hl, h.s F μ ρ σ H ds vs Q R rep sl al q k⟩
/-- target = e, any target -/
def sAsg (a : AE) (g : AG) : AS := fun D ρ μ => a D.ex ρ μ fun d μ1 => g D.ex d ρ μ1 D.nx
theorem ds_asg {tg e : Expr} {te : TE} {g : TG} {a : AE} {ag : AG} {pos : Pos} (he : DE X WW e te a) (hg : DG X WW tg g ag) (hs : swapsWithSole [tg] e pos.line X.env = pure false := by rfl) (hw : swappedStores [tg] e X.env = pure none := by rfl)
    (h1 : (assignEach [tg] X.env).map (·.2) = [assign tg X.env] := by rfl) : DS X WW (.Assign [tg] e pos) (tAsg te g) (sAsg a ag) := by
  refine ⟨ps_asg he.p hg.p hs hw h1, fun F μ ρ σ H AD D rep sl k q => ?_⟩
  refine he.s F μ ρ σ H AD.ex _ _ rep sl (k.konx sl) q fun F1 μ1 H1 d v r1 s1 a1 q1 => ?_
  exact hg.s F1 μ1 ρ σ H1 AD.ex d v _ _ r1 (sl.mono s1.ex) ((k.konx sl).step s1) a1 q1 fun F2 μ2 H2 ρ2 σ2 r2 s2 sl2 q2 => k.nx _ _ _ _ _ r2 (s1.trans s2) sl2 q2
/-- xs[i] = e of a list -/
def gIx (ao ai : AE) : AG := fun Xp d ρ μ Q => ao Xp ρ μ fun x μ1 => ai Xp ρ μ1 fun y μ2 => ∃ p es i j, x = .cell p ∧ y = .int i ∧ μ2 p = some (.lst es) ∧ ixN es.length i = some j ∧ Q ρ (mset μ2 p (.lst (es.set j d)))
theorem dg_ix {o i : Expr} {to ti : TE} {ao ai : AE} {pos : Pos} (ho : DE X WW o to ao) (hi : DE X WW i ti ai)
    (ha : ∀ v, assign (.Subscript o i pos) X.env v = (do
      let ov ← holding [v] (eval o X.env)
      let iv ← holding [v, ov] (eval i X.env)
      standAt pos
      holding [v, ov, iv] (setItem ov iv v)
      release [v, ov, iv] []) := by intro _; rfl) : DG X WW (.Subscript o i pos) (gSub to ti rSetL) (gIx ao ai) := by
  refine ⟨pg_sub ho.p hi.p set_list ha, fun F μ ρ σ H Xp d v Q R rep sl kx a q k => ?_⟩
  refine ho.s F μ ρ σ H Xp _ _ rep sl kx q fun F1 μ1 H1 x vx r1 s1 a1 q1 => ?_
  refine hi.s F1 μ1 ρ σ H1 Xp _ _ r1 (sl.mono s1.ex) (kx.step s1) q1 fun F2 μ2 H2 y vy r2 s2 a2 ⟨p, es, i, j, e1, e2, h3, h4, q2⟩ => ?_
  subst e1 e2
  cases (show vx = .ref p from a1)
  cases (show vy = .int i from a2)
  obtain ⟨vs, hp, av⟩ := cell_at r2 h3
  have s12 := s1.trans s2
  refine ⟨p, vs, i, j, rfl, rfl, hp, by rw [← av.length]; exact h4, ?_⟩
  exact k _ _ _ _ _ (r2.write (c' := .lst _) h3 ⟨_, rfl, av.set j (At.mono s12.ex _ _ a)⟩) (s12.trans (Step.write h3)) (sl.mono s12.ex) q2
/-- x op= e -/
def sAug (i : Nat) (a : AE) (f : A2) : AS := fun D ρ μ => ∃ x, ρ[i]? = some (some x) ∧ a D.ex ρ μ fun y μ1 => f x y μ1 fun z μ2 => D.nx (ρ.set i (some z)) μ2
theorem ds_aug (c : Ctx X WW) (i : Nat) {x : Str} {e : Expr} {te : TE} {a : AE} {op : Operator} {ti : TIp} {f : A2} {pos pos' : Pos} (ho : PIp X op ti) (hf' : SimR2 (wm X) ti f) (he : DE X WW e te a) (hi : X.N[i]? = some x := by rfl) (hx : Loc X.env.scope x := by first | exact Or.inl rfl | exact Or.inr rfl)
    (hf : X.fn x = true ∨ X.env.scope.names.lookup x = some .local := by first | exact .inl rfl | exact .inr rfl) : DS X WW (.AugAssign (.Name x pos') op e pos) (tAug i te ti) (sAug i a f) := by
  refine ⟨ps_aug c.nd hi hx he.p ho hf, fun F μ ρ σ H AD D rep sl k ⟨d, e1, q⟩ => ?_⟩
  obtain ⟨v, h1, h2⟩ := sl.2 i d e1
  refine ⟨v, h1, ?_⟩
  refine he.s F μ ρ σ H AD.ex _ _ rep sl (k.konx sl) q fun F1 μ1 H1 d1 v1 r1 s1 a1 q1 => ?_
  exact hf' F1 μ1 H1 v v1 d d1 _ _ r1 (At.mono s1.ex _ _ h2) a1 q1 fun F2 μ2 H2 z vz r2 s2 a2 q2 => k.nx _ _ _ _ _ r2 (s1.trans s2) ((sl.mono (s1.trans s2).ex).set i a2) q2
theorem sim_ipI {f : Int → Int → Int} : SimR2 W (ipI f) (fII0 fun i j => .int (f i j)) := sim_II0 fun _ _ _ => rfl
/-! raise -/
def sRaise (cls : Str) : AS := fun D ρ μ => D.ex ⟨cls, none⟩ ρ μ
theorem ds_raise (c : Ctx X WW) {e : Expr} {pos : Pos} {C : Addr} {x : Str} (he : PMk X e (fun _ H Q => Q (.ref C) none H)) (hm : X.mg x = some (.ref C)) : DS X WW (.Raise (some e) none pos) (fun _ σ H => (fun (cls : Value) d (H' : Hp) => WW cls d σ H') (.ref C) none H) (sRaise x) := by
  refine ⟨ps_raise c.hc c.tk he, fun F μ ρ σ H AD D rep sl k q => ?_⟩
  exact k.ex _ _ _ _ _ ⟨x, none⟩ _ _ rep (Step.refl _ _ _) sl ⟨C, hm, rfl, rfl⟩ q
end
end DL

namespace DL
open PySem PySem.Spec PyProof.Rows L2

/-! ### what is walked -/
structure AIt where
  ds : List Dat
  ok : Mu → Prop
def ItSim (W : Wm) (F0 : Hp) (J : It) (I : AIt) : Prop := ∀ F μ H, Ext F0 F → Rep W.toWd F μ H → I.ok μ → ∀ i : Nat,
  (∀ d, I.ds[i]? = some d → J.go i H ∧ ∀ x H', J.yld i H x H' → ∃ F', Rep W.toWd F' μ H' ∧ Step F μ H F' μ H' ∧ At W.toWd F' d x) ∧ (I.ds[i]? = none → J.stop i H)
abbrev AI := XP → Sl → Mu → (AIt → Mu → Prop) → Prop
def SimI (W : Wm) (WW : WX) (wi : TI) (ai : AI) : Prop := ∀ F μ ρ σ H Xp Q R, Rep W.toWd F μ H → SlAt W.toWd F ρ σ → KonX W F μ H Xp WW ρ σ → ai Xp ρ μ Q →
  (∀ F' μ' H' J I, Rep W.toWd F' μ' H' → Step F μ H F' μ' H' → ItSim W F' J I → Q I μ' → R J H') → wi σ H R
structure DI (X : Cx) (WW : WX) (tg iter : Expr) (wi : TI) (ai : AI) : Prop where
  p : PI X tg iter wi
  s : SimI (wm X) WW wi ai
def okOf (μ0 : Mu) : Dat → Mu → Prop
  | .cell a, μ => ∃ ds, μ0 a = some (.lst ds) ∧ μ a = some (.lst ds)
  | _, _ => True
/-- a list or a tuple -/
def iSeq (a : AE) : AI := fun Xp ρ μ Q => a Xp ρ μ fun x μ1 => ∃ ds, seqOf μ1 x = some ds ∧ Q ⟨ds, okOf μ1 x⟩ μ1
section
variable {X : Cx} {WW : WX} {W : Wm}
theorem itl_sim {F0 F : Hp} {μ : Mu} {H : Hp} {p : Addr} {ds : List Dat} (rep : Rep W.toWd F μ H) (h : ∃ vs, SqL W.K H p vs ∧ AtL W.toWd F ds vs) : ∀ i : Nat,
    (∀ d, ds[i]? = some d → (Itl W.K p).go i H ∧ ∀ x H', (Itl W.K p).yld i H x H' → ∃ F', Rep W.toWd F' μ H' ∧ Step F μ H F' μ H' ∧ At W.toWd F' d x) ∧ (ds[i]? = none → (Itl W.K p).stop i H) := by
  obtain ⟨vs, hs, al⟩ := h
  refine fun i => ⟨fun d e => ?_, fun e => ?_⟩
  · obtain ⟨v, hv, av⟩ := al.get e
    refine ⟨⟨vs, v, hs, hv⟩, fun x H' ⟨e1, e2⟩ => ?_⟩
    subst e1
    have ex : x = v := Option.some.inj ((e2 vs hs).symm.trans hv)
    subst ex
    exact ⟨F, rep, Step.refl _ _ _, av⟩
  · exact ⟨vs, hs, by rw [← al.length]; exact List.getElem?_eq_none_iff.mp e⟩
theorem itt_sim {F0 F : Hp} {μ : Mu} {H : Hp} {p : Addr} {ds : List Dat} (rep : Rep W.toWd F μ H) (h : ∃ vs, SqT W.K H p vs ∧ AtL W.toWd F ds vs) : ∀ i : Nat,
    (∀ d, ds[i]? = some d → (Itt W.K p).go i H ∧ ∀ x H', (Itt W.K p).yld i H x H' → ∃ F', Rep W.toWd F' μ H' ∧ Step F μ H F' μ H' ∧ At W.toWd F' d x) ∧ (ds[i]? = none → (Itt W.K p).stop i H) := by
  obtain ⟨vs, hs, al⟩ := h
  refine fun i => ⟨fun d e => ?_, fun e => ?_⟩
  · obtain ⟨v, hv, av⟩ := al.get e
    refine ⟨⟨vs, v, hs, hv⟩, fun x H' ⟨e1, e2⟩ => ?_⟩
    subst e1
    have ex : x = v := Option.some.inj ((e2 vs hs).symm.trans hv)
    subst ex
    exact ⟨F, rep, Step.refl _ _ _, av⟩
  · exact ⟨vs, hs, by rw [← al.length]; exact List.getElem?_eq_none_iff.mp e⟩
def wiSeq (K : PySem.W.Frag) (tl : TE) : TI := fun σ H R => tl σ H fun x H1 => ∃ a, x = .ref a ∧ (((∃ xs, SqL K H1 a xs) ∧ R (Itl K a) H1) ∨ ((∃ xs, SqT K H1 a xs) ∧ R (Itt K a) H1))
theorem pi_seqAny {tg l : Expr} {tl : TE} (hl : PE X l tl) : PI X tg l (wiSeq X.K tl) := by
  refine ⟨fun pins s σ H R I h => thn (hl.run pins s σ H _ I h) fun v s1 ⟨x, H1, I1, r1, a, e, q⟩ => ?_⟩
  subst e
  cases r1
  have fp : ∀ b ∈ [s1.heap.objs.size], FpOk X pins H1 b := fun b hb => by
    rw [List.mem_singleton.mp hb]
    exact I1.fpOk (Nat.le_refl _) (I1.hok.fresh (Nat.le_refl _))
  rcases q with ⟨⟨xs, hq⟩, q⟩ | ⟨⟨xs, hq⟩, q⟩
  · obtain ⟨its, rv, pl, hz⟩ := I1.list hq
    exact wpAny_pyIter_list pl.isList ⟨_, [s1.heap.objs.size], _, _, H1, rfl, I1.kept (t' := s1.toks) fun b o e => Heap.get?_push_of_some _ e, turn_list a _, ⟨_, Heap.get?_push_size _ rfl, rfl, rfl⟩, fp, q⟩
  · obtain ⟨its, rv, pl, hz⟩ := I1.tuple hq
    exact wpAny_pyIter_tuple (show s1.heap.IsTuple a its.toArray from pl) ⟨_, [s1.heap.objs.size], _, _, H1, rfl, I1.kept (t' := s1.toks) fun b o e => Heap.get?_push_of_some _ e, turn_tuple a _, ⟨_, Heap.get?_push_size _ rfl, rfl, rfl⟩, fp, q⟩
theorem sim_seqAny {tl : TE} {a : AE} (h : SimE W WW tl a) : SimI W WW (wiSeq W.K tl) (iSeq a) := by
  intro F μ ρ σ H Xp Q R rep sl kx q k
  refine h F μ ρ σ H Xp _ _ rep sl kx q fun F1 μ1 H1 d v r1 s1 a1 ⟨ds, e, h1⟩ => ?_
  have lst : ∀ p vs, v = .ref p → SqL W.K H1 p vs → AtL W.toWd F1 ds vs → (∀ F μ H, Ext F1 F → Rep W.toWd F μ H → okOf μ1 d μ → ∃ us, SqL W.K H p us ∧ AtL W.toWd F ds us) →
      ∃ a, v = .ref a ∧ (((∃ xs, SqL W.K H1 a xs) ∧ R (Itl W.K a) H1) ∨ ((∃ xs, SqT W.K H1 a xs) ∧ R (Itt W.K a) H1)) := fun p vs ev hs al hk =>
    ⟨p, ev, .inl ⟨⟨vs, hs⟩, k _ _ _ _ _ r1 s1 (fun F2 μ2 H2 ex rep2 ok => itl_sim (F0 := F1) rep2 (hk F2 μ2 H2 ex rep2 ok)) h1⟩⟩
  cases d with
  | lst es =>
    cases e
    obtain ⟨p, vs, rfl, hp, al⟩ := a1
    exact lst p vs rfl (.inl (.inl (r1.ex _ _ hp))) al fun F2 μ2 H2 ex rep2 _ => ⟨vs, .inl (.inl (rep2.ex _ _ (ex _ _ hp))), AtL.mono ex _ _ al⟩
  | ro es =>
    cases e
    obtain ⟨p, vs, rfl, hp, al⟩ := a1
    exact lst p vs rfl (r1.ex.sql hp) al fun F2 μ2 H2 ex rep2 _ => ⟨vs, (ex.trans rep2.ex).sql hp, AtL.mono ex _ _ al⟩
  | cell c =>
    obtain ⟨p, vs, ev, hp, al⟩ := lst_at (d := .cell c) r1 a1 e
    subst ev
    have pc : p = c := V.ref.inj a1
    subst pc
    refine lst p vs rfl (.inl (.inl hp)) al fun F2 μ2 H2 ex rep2 ⟨es, o1, o2⟩ => ?_
    obtain ⟨us, hu, au⟩ := cell_at rep2 o2
    have : es = ds := by
      rw [seqOf_cell o1] at e
      exact Option.some.inj e
    subst this
    exact ⟨us, .inl (.inl hu), au⟩
  | tup es =>
    cases e
    obtain ⟨p, vs, rfl, hp, al⟩ := a1
    exact ⟨p, rfl, .inr ⟨⟨vs, r1.ex.sqt hp⟩, k _ _ _ _ _ r1 s1 (fun F2 μ2 H2 ex rep2 ok => itt_sim (F0 := F1) rep2 ⟨vs, (ex.trans rep2.ex).sqt hp, AtL.mono ex _ _ al⟩) h1⟩⟩
  | _ => cases e
theorem di_seq {tg l : Expr} {tl : TE} {a : AE} (h : DE X WW l tl a) : DI X WW tg l (wiSeq X.K tl) (iSeq a) := ⟨pi_seqAny h.p, sim_seqAny h.s⟩
/-- range -/
def rngD (lo : Int) (n : Nat) : List Dat := (List.range n).map fun (i : Nat) => .int (lo + (i : Int))
theorem itr_sim {F0 : Hp} {lo : Int} {n : Nat} : ItSim W F0 (Itr lo n) ⟨rngD lo n, fun _ => True⟩ := by
  intro F μ H ex rep _ i
  refine ⟨fun d e => ?_, fun e => ?_⟩
  · simp only [rngD, List.getElem?_map] at e
    by_cases hi : i < n
    · rw [List.getElem?_range hi] at e
      cases e
      exact ⟨hi, fun x H' ⟨e1, e2⟩ => by subst e1 e2; exact ⟨F, rep, Step.refl _ _ _, rfl⟩⟩
    · rw [List.getElem?_eq_none (by simpa using hi)] at e
      cases e
  · have := List.getElem?_eq_none_iff.mp e
    simp only [rngD, List.length_map, List.length_range] at this
    exact this
def iRg1 (t : AA) : AI := fun Xp ρ μ Q => t Xp ρ μ fun ds μ1 => ∃ j : Int, ds = [.int j] ∧ -4611686018427387904 ≤ j ∧ j < 4611686018427387904 ∧ Q ⟨rngD 0 j.toNat, fun _ => True⟩ μ1
def iRg2 (t : AA) : AI := fun Xp ρ μ Q => t Xp ρ μ fun ds μ1 => ∃ i j : Int, ds = [.int i, .int j] ∧ (-4611686018427387904 ≤ i ∧ i < 4611686018427387904 ∧ -4611686018427387904 ≤ j ∧ j < 4611686018427387904) ∧ Q ⟨rngD i (j - i).toNat, fun _ => True⟩ μ1
theorem sim_rg1 {ta : TA} {t : AA} (h : SimA W WW ta t) : SimI W WW (iRng1 ta) (iRg1 t) := by
  intro F μ ρ σ H Xp Q R rep sl kx q k
  refine h F μ ρ σ H Xp _ _ rep sl kx q fun F1 μ1 H1 ds vs r1 s1 a1 ⟨j, e, b1, b2, h1⟩ => ?_
  subst e
  obtain ⟨v, rfl, av⟩ := one_at a1
  cases (show v = .int j from av)
  exact ⟨j, rfl, b1, b2, k _ _ _ _ _ r1 s1 itr_sim h1⟩
theorem sim_rg2 {ta : TA} {t : AA} (h : SimA W WW ta t) : SimI W WW (iRng2 ta) (iRg2 t) := by
  intro F μ ρ σ H Xp Q R rep sl kx q k
  refine h F μ ρ σ H Xp _ _ rep sl kx q fun F1 μ1 H1 ds vs r1 s1 a1 ⟨i, j, e, b, h1⟩ => ?_
  subst e
  obtain ⟨v, u, rfl, av, au⟩ := two_at a1
  cases (show v = .int i from av)
  cases (show u = .int j from au)
  exact ⟨i, j, rfl, b, k _ _ _ _ _ r1 s1 itr_sim h1⟩
theorem di_rg1 {tg a : Expr} {ta : TA} {t : AA} {p pos : Pos} (hm : X.mg "range" = none) (ha : DA X WW [a] ta t) (hg : Gl X "range" := by rfl) (hs : starEach [a] X.env = [(false, eval a X.env)] := by rfl) : DI X WW tg (.Call (.Name "range" p) [a] [] pos) (iRng1 ta) (iRg1 t) :=
  ⟨pi_range1 hg hm ha.p hs, sim_rg1 ha.s⟩
theorem di_rg2 {tg a b : Expr} {ta : TA} {t : AA} {p pos : Pos} (hm : X.mg "range" = none) (ha : DA X WW [a, b] ta t) (hg : Gl X "range" := by rfl) (hs : starEach [a, b] X.env = [(false, eval a X.env), (false, eval b X.env)] := by rfl) (hs2 : starEach [b] X.env = [(false, eval b X.env)] := by rfl) :
    DI X WW tg (.Call (.Name "range" p) [a, b] [] pos) (iRng2 ta) (iRg2 t) := ⟨pi_range2 hg hm ha.p hs hs2, sim_rg2 ha.s⟩
/-- enumerate of a list -/
def enumD (ds : List Dat) : List Dat := ds.zipIdx.map fun p => .tup [.int (p.2 : Nat), p.1]
def iEn (a : AE) : AI := fun Xp ρ μ Q => a Xp ρ μ fun x μ1 => ∃ ds, rolOf μ1 x = some ds ∧ Q ⟨enumD ds, okOf μ1 x⟩ μ1
theorem rol_ok {F F1 : Hp} {μ μ1 : Mu} {H H1 : Hp} {d : Dat} {p : Addr} {ds : List Dat} (a1 : At W.toWd F1 d (.ref p)) (e : rolOf μ1 d = some ds) (ex : Ext F1 F) (rep : Rep W.toWd F μ H) (ok : okOf μ1 d μ) : ∃ vs, SqL W.K H p vs ∧ AtL W.toWd F ds vs := by
  cases d with
  | lst es =>
    cases e
    obtain ⟨p', vs, ev, hp, al⟩ := a1
    cases ev
    exact ⟨vs, .inl (.inl (rep.ex _ _ (ex _ _ hp))), AtL.mono ex _ _ al⟩
  | ro es =>
    cases e
    obtain ⟨p', vs, ev, hp, al⟩ := a1
    cases ev
    exact ⟨vs, (ex.trans rep.ex).sql hp, AtL.mono ex _ _ al⟩
  | cell c =>
    obtain ⟨es, o1, o2⟩ := ok
    have pc : p = c := V.ref.inj a1
    subst pc
    obtain ⟨us, hu, au⟩ := cell_at rep o2
    have : es = ds := by
      rw [show rolOf μ1 (.cell p) = some es from lstOf_cell o1] at e
      exact Option.some.inj e
    subst this
    exact ⟨us, .inl (.inl hu), au⟩
  | _ => cases e
theorem sim_en {ta : TE} {a : AE} (h : SimE W WW ta a) : SimI W WW (iEnum W.K (tCons ta tNil)) (iEn a) := by
  intro F μ ρ σ H Xp Q R rep sl kx q k
  refine h F μ ρ σ H Xp _ _ rep sl kx q fun F1 μ1 H1 d v r1 s1 a1 ⟨ds, e, h1⟩ => ?_
  obtain ⟨p, vs, ev, hs, al⟩ := rol_at r1 a1 e
  subst ev
  refine ⟨p, vs, rfl, hs, k _ _ _ _ _ r1 s1 (fun F2 μ2 H2 ex rep2 ok i => ?_) h1⟩
  obtain ⟨us, hu, au⟩ := rol_ok (H1 := H1) a1 e ex rep2 ok
  have key : ∀ x : Dat, (enumD ds)[i]? = some x ↔ ∃ y, ds[i]? = some y ∧ x = .tup [.int (i : Nat), y] := fun x => by
    simp only [enumD, List.getElem?_map, List.getElem?_zipIdx]
    cases ds[i]? <;> simp [eq_comm]
  refine ⟨fun x hx => ?_, fun hn => ?_⟩
  · obtain ⟨y, hy, rfl⟩ := (key x).mp hx
    obtain ⟨w, hw, aw⟩ := au.get hy
    refine ⟨⟨us, w, hu, hw⟩, fun z H' ⟨T, x', ez, hT, eH, hx'⟩ => ?_⟩
    have ew : x' = w := Option.some.inj ((hx' us hu).symm.trans hw)
    subst ez eH ew
    exact ⟨_, rep2.alloc hT, Step.alloc rep2 hT, at_newT (ds := [.int (i : Nat), y]) (rep2.f_none hT) (AtL.cons rfl (AtL.cons aw AtL.nil))⟩
  · refine ⟨us, hu, ?_⟩
    have : ds[i]? = none := by
      cases q : ds[i]? with
      | none => rfl
      | some y =>
        rw [(key _).mpr ⟨y, q, rfl⟩] at hn
        cases hn
    rw [← au.length]
    exact List.getElem?_eq_none_iff.mp this
theorem di_en {elts : List Expr} {kk : Nat} {e : Expr} {te : TE} {a : AE} {p pos tpos : Pos} (hm : X.mg "enumerate" = none) (he : DE X WW e te a) (hg : Gl X "enumerate" := by rfl) (hs : starEach [e] X.env = [(false, eval e X.env)] := by rfl)
    (hs' : starEach (e :: []) X.env = (false, eval e X.env) :: starEach [] X.env := by rfl) : DI X WW (.Tuple elts kk tpos) (.Call (.Name "enumerate" p) [e] [] pos) (iEnum X.K (tCons te tNil)) (iEn a) := ⟨pi_enum hg hm (pa_cons he.p pa_nil hs') hs, sim_en he.s⟩
/-- zip of two lists -/
def zipD (xs ys : List Dat) : List Dat := (xs.zip ys).map fun p => .tup [p.1, p.2]
def iZp (a b : AE) : AI := fun Xp ρ μ Q => a Xp ρ μ fun x μ1 => b Xp ρ μ1 fun y μ2 => ∃ ds es, rolOf μ2 x = some ds ∧ rolOf μ2 y = some es ∧ Q ⟨zipD ds es, fun μ => okOf μ2 x μ ∧ okOf μ2 y μ⟩ μ2
theorem sim_zp {ta tb : TE} {a b : AE} (h : SimE W WW ta a) (h' : SimE W WW tb b) : SimI W WW (iZip W.K (tCons ta (tCons tb tNil))) (iZp a b) := by
  intro F μ ρ σ H Xp Q R rep sl kx q k
  refine h F μ ρ σ H Xp _ _ rep sl kx q fun F1 μ1 H1 d v r1 s1 a1 h1 => ?_
  refine h' F1 μ1 ρ σ H1 Xp _ _ r1 (sl.mono s1.ex) (kx.step s1) h1 fun F2 μ2 H2 e u r2 s2 a2 ⟨ds, es, e1, e2, h2⟩ => ?_
  have a1' := At.mono s2.ex _ _ a1
  obtain ⟨p, vs, ev, hs, al⟩ := rol_at r2 a1' e1
  subst ev
  obtain ⟨p2, vs2, ev2, hs2, al2⟩ := rol_at r2 a2 e2
  subst ev2
  refine ⟨p, p2, vs, vs2, rfl, hs, hs2, k _ _ _ _ _ r2 (s1.trans s2) (fun F3 μ3 H3 ex rep3 ok i => ?_) h2⟩
  obtain ⟨us, hu, au⟩ := rol_ok (H1 := H2) a1' e1 ex rep3 ok.1
  obtain ⟨us2, hu2, au2⟩ := rol_ok (H1 := H2) a2 e2 ex rep3 ok.2
  have key : ∀ x : Dat, (zipD ds es)[i]? = some x ↔ ∃ y z, ds[i]? = some y ∧ es[i]? = some z ∧ x = .tup [y, z] := fun x => by
    simp only [zipD, List.getElem?_map, List.getElem?_zip_eq_some, Option.map_eq_some_iff, Prod.exists]
    constructor
    · rintro ⟨y, z, ⟨h1, h2⟩, h3⟩
      exact ⟨y, z, h1, h2, h3.symm⟩
    · rintro ⟨y, z, h1, h2, h3⟩
      exact ⟨y, z, ⟨h1, h2⟩, h3.symm⟩
  refine ⟨fun x hx => ?_, fun hn => ?_⟩
  · obtain ⟨y, z, hy, hz, rfl⟩ := (key x).mp hx
    obtain ⟨w, hw, aw⟩ := au.get hy
    obtain ⟨w2, hw2, aw2⟩ := au2.get hz
    refine ⟨⟨us, us2, w, w2, hu, hu2, hw, hw2⟩, fun z' H' ⟨T, x', y', ez, hT, eH, hx', hy'⟩ => ?_⟩
    have ew : x' = w := Option.some.inj ((hx' us hu).symm.trans hw)
    have ew2 : y' = w2 := Option.some.inj ((hy' us2 hu2).symm.trans hw2)
    subst ez eH ew ew2
    exact ⟨_, rep3.alloc hT, Step.alloc rep3 hT, at_newT (ds := [y, z]) (rep3.f_none hT) (AtL.cons aw (AtL.cons aw2 AtL.nil))⟩
  · refine ⟨us, us2, hu, hu2, ?_⟩
    rw [← au.length, ← au2.length]
    by_cases q1 : ds.length ≤ i
    · exact .inl q1
    · by_cases q2 : es.length ≤ i
      · exact .inr q2
      · exfalso
        have z1 : ds[i]? = some ds[i] := List.getElem?_eq_getElem (by omega)
        have z2 : es[i]? = some es[i] := List.getElem?_eq_getElem (by omega)
        rw [(key _).mpr ⟨_, _, z1, z2, rfl⟩] at hn
        cases hn
theorem di_zp {elts : List Expr} {kk : Nat} {e e2 : Expr} {te te2 : TE} {a a2 : AE} {p pos tpos : Pos} (hm : X.mg "zip" = none) (he : DE X WW e te a) (he2 : DE X WW e2 te2 a2) (hg : Gl X "zip" := by rfl)
    (hs : starEach [e, e2] X.env = (false, eval e X.env) :: starEach [e2] X.env := by rfl) (hs2 : starEach [e2] X.env = (false, eval e2 X.env) :: starEach [] X.env := by rfl) (hpl : (backTo pos (starEach [e2] X.env)).any (·.1) = false := by rfl) :
    DI X WW (.Tuple elts kk tpos) (.Call (.Name "zip" p) [e, e2] [] pos) (iZip X.K (tCons te (tCons te2 tNil))) (iZp a a2) := ⟨pi_zip hg hm (pa_cons he.p (pa_cons he2.p pa_nil hs2) hs) hs hpl, sim_zp he.s he2.s⟩
/-- a text, sign by sign -/
def sigD (s : Str) : List Dat := s.cps.toList.map fun c => .str ⟨#[c]⟩

/-! ### for -/
def forL (ok : Mu → Prop) (g : AG) (body : AS) (D : AEnds) : List Dat → Sl → Mu → Prop
  | [], ρ, μ => ok μ ∧ D.nx ρ μ
  | d :: r, ρ, μ => ok μ ∧ g D.ex d ρ μ fun ρ' μ' => body { D with nx := forL ok g body D r, ct := forL ok g body D r, bk := D.nx } ρ' μ'
def sFor (ai : AI) (g : AG) (body : AS) : AS := fun D ρ μ => ai D.ex ρ μ fun I μ1 => forL I.ok g body D I.ds ρ μ1
theorem sim_for {wi : TI} {ai : AI} {g : TG} {ag : AG} {tb : TS} {ab : AS} (hi : SimI W WW wi ai) (hg : SimG W WW g ag) (hb : SimS W WW tb ab) : SimS W WW (tFor wi g tb) (sFor ai ag ab) := by
  intro F μ ρ σ H AD D rep sl k q
  refine hi F μ ρ σ H AD.ex _ _ rep sl (k.konx sl) q fun F1 μ1 H1 J I r1 s1 iS h1 => ?_
  have k1 := k.step s1
  refine ⟨fun i m σ' H' => ∃ F' μ' ρ', Rep W.toWd F' μ' H' ∧ Step F1 μ1 H1 F' μ' H' ∧ SlAt W.toWd F' ρ' σ' ∧ m = (I.ds.drop i).length ∧ forL I.ok ag ab AD (I.ds.drop i) ρ' μ', ⟨_, F1, μ1, ρ, r1, Step.refl _ _ _, sl.mono s1.ex, rfl, h1⟩, ?_⟩
  rintro i m σ' H' ⟨F', μ', ρ', r', s', sl', rfl, h'⟩
  cases e : I.ds[i]? with
  | none =>
    have ed : I.ds.drop i = [] := List.drop_eq_nil_iff.mpr (List.getElem?_eq_none_iff.mp e)
    rw [ed] at h'
    obtain ⟨ok, hn⟩ := h'
    exact .inl ⟨(iS F' μ' H' s'.ex r' ok i).2 e, k1.nx _ _ _ _ _ r' s' sl' hn⟩
  | some d =>
    have hlt : i < I.ds.length := (List.getElem?_eq_some_iff.mp e).1
    have ed : I.ds.drop i = d :: I.ds.drop (i + 1) := by
      rw [List.drop_eq_getElem_cons hlt]
      rw [(List.getElem?_eq_some_iff.mp e).2]
    rw [ed] at h'
    obtain ⟨ok, hq⟩ := h'
    obtain ⟨hgo, hy⟩ := (iS F' μ' H' s'.ex r' ok i).1 d e
    refine .inr ⟨hgo, fun σ2 H2 => ∃ F2 μ2 ρ2, Rep W.toWd F2 μ2 H2 ∧ Step F1 μ1 H1 F2 μ2 H2 ∧ SlAt W.toWd F2 ρ2 σ2 ∧ forL I.ok ag ab AD (I.ds.drop (i + 1)) ρ2 μ2, ?_, ?_⟩
    · rintro σ2 H2 ⟨F2, μ2, ρ2, r2, s2, sl2, h2⟩
      refine ⟨_, ?_, F2, μ2, ρ2, r2, s2, sl2, rfl, h2⟩
      rw [ed, List.length_cons]
      omega
    · intro x H2 hx
      obtain ⟨F2, r2, s2, ax⟩ := hy x H2 hx
      have s12 := s'.trans s2
      refine hg F2 μ' ρ' σ' H2 AD.ex d x _ _ r2 (sl'.mono s2.ex) ((k1.step s12).konx (sl'.mono s2.ex)) ax hq fun F3 μ3 H3 ρ3 σ3 r3 s3 sl3 q3 => ?_
      have s13 := s12.trans s3
      have k3 := k1.step s13
      refine hb F3 μ3 ρ3 σ3 H3 _ _ r3 sl3 ?_ q3
      exact ⟨fun F4 μ4 H4 ρ4 σ4 r4 s4 sl4 q4 => ⟨F4, μ4, ρ4, r4, s13.trans s4, sl4, q4⟩, k3.rt, fun F4 μ4 H4 ρ4 σ4 r4 s4 sl4 q4 => k3.nx _ _ _ _ _ r4 s4 sl4 q4,
        fun F4 μ4 H4 ρ4 σ4 r4 s4 sl4 q4 => ⟨F4, μ4, ρ4, r4, s13.trans s4, sl4, q4⟩, k3.ex⟩
theorem ds_for (c : Ctx X WW) {tg iter : Expr} {body : List Stmt} {wi : TI} {ai : AI} {g : TG} {ag : AG} {tb : TS} {ab : AS} {pos : Pos} (hi : DI X WW tg iter wi ai) (hg : DG X WW tg g ag) (hb : DSs X WW body tb ab)
    (hs : ∀ x, foldedSetIterable iter X.env x = pure x := by intro _; rfl) : DS X WW (.For tg iter body [] pos) (tFor wi g tb) (sFor ai ag ab) := ⟨ps_for c.hp c.hc hi.p hg.p hb.p hs, sim_for hi.s hg.s hb.s⟩
/-! ### while -/
def sWhile (t : AT) (body : AS) : AS := fun D ρ μ => ∃ I : Nat → Sl → Mu → Prop, (∃ m, I m ρ μ) ∧ ∀ m ρ μ, I m ρ μ →
  t D.ex ρ μ fun b μ1 => if b = true then body { D with nx := fun ρ' μ' => ∃ m', m' < m ∧ I m' ρ' μ', ct := fun ρ' μ' => ∃ m', m' < m ∧ I m' ρ' μ', bk := D.nx } ρ μ1 else D.nx ρ μ1
theorem sim_while {tt : TT} {at_ : AT} {tb : TS} {ab : AS} (ht : SimT W WW tt at_) (hb : SimS W WW tb ab) : SimS W WW (tWhile tt tb) (sWhile at_ ab) := by
  intro F μ ρ σ H AD D rep sl k ⟨I, ⟨m0, h0⟩, turn⟩
  refine ⟨fun m σ' H' => ∃ F' μ' ρ', Rep W.toWd F' μ' H' ∧ Step F μ H F' μ' H' ∧ SlAt W.toWd F' ρ' σ' ∧ I m ρ' μ', ⟨m0, F, μ, ρ, rep, Step.refl _ _ _, sl, h0⟩, ?_⟩
  rintro m σ' H' ⟨F', μ', ρ', r', s', sl', h'⟩
  have k' := k.step s'
  refine ht F' μ' ρ' σ' H' AD.ex _ _ r' sl' (k'.konx sl') (turn m ρ' μ' h') fun F1 μ1 H1 b r1 s1 q1 => ?_
  have k1 := k'.step s1
  cases b with
  | true =>
    rw [if_pos rfl] at q1 ⊢
    refine ⟨fun σ2 H2 => ∃ F2 μ2 ρ2, Rep W.toWd F2 μ2 H2 ∧ Step F μ H F2 μ2 H2 ∧ SlAt W.toWd F2 ρ2 σ2 ∧ ∃ m', m' < m ∧ I m' ρ2 μ2, ?_, ?_⟩
    · rintro σ2 H2 ⟨F2, μ2, ρ2, r2, s2, sl2, m', hm, h2⟩
      exact ⟨m', hm, F2, μ2, ρ2, r2, s2, sl2, h2⟩
    · refine hb F1 μ1 ρ' σ' H1 _ _ r1 (sl'.mono s1.ex) ?_ q1
      exact ⟨fun F4 μ4 H4 ρ4 σ4 r4 s4 sl4 q4 => ⟨F4, μ4, ρ4, r4, (s'.trans s1).trans s4, sl4, q4⟩, k1.rt, fun F4 μ4 H4 ρ4 σ4 r4 s4 sl4 q4 => k1.nx _ _ _ _ _ r4 s4 sl4 q4,
        fun F4 μ4 H4 ρ4 σ4 r4 s4 sl4 q4 => ⟨F4, μ4, ρ4, r4, (s'.trans s1).trans s4, sl4, q4⟩, k1.ex⟩
  | false =>
    rw [if_neg Bool.false_ne_true] at q1 ⊢
    exact k1.nx _ _ _ _ _ r1 (Step.refl _ _ _) (sl'.mono s1.ex) q1
theorem ds_while (c : Ctx X WW) {t : Expr} {body : List Stmt} {tt : TT} {at_ : AT} {tb : TS} {ab : AS} {pos : Pos} (ht : DT X WW t tt at_) (hb : DSs X WW body tb ab) : DS X WW (.While t body [] pos) (tWhile tt tb) (sWhile at_ ab) :=
  ⟨ps_while c.hp ht.p hb.p, sim_while ht.s hb.s⟩
end
end DL

namespace DL
open PySem PySem.Spec PyProof.Rows L2

abbrev W0 : WX := fun _ _ _ _ => False
abbrev Xp0 : XP := fun _ _ _ => False
def wipeD (ρ : Sl) : List Nat → Sl
  | [] => ρ
  | v :: vs => (wipeD ρ vs).set v none
theorem slAt_wipe {W : Wd} {F : Hp} {ρ : Sl} {σ : L2.St} (h : SlAt W F ρ σ) : ∀ vs : List Nat, SlAt W F (wipeD ρ vs) (wipe σ vs)
  | [] => h
  | v :: vs => (slAt_wipe h vs).unset v
theorem wipe_get (σ : L2.St) : ∀ (vs : List Nat) (j : Nat), (wipe σ vs)[j]? = if j ∈ vs then (if j < σ.length then some none else none) else σ[j]?
  | [], j => by simp [wipe]
  | v :: vs, j => by
    unfold wipe
    by_cases e : v = j
    · subst e
      rw [if_pos List.mem_cons_self, List.getElem?_set, if_pos rfl, wipe_length]
    · rw [List.getElem?_set_ne e, wipe_get σ vs j]
      by_cases h : j ∈ vs
      · rw [if_pos h, if_pos (List.mem_cons_of_mem _ h)]
      · rw [if_neg h, if_neg (by simp [h, Ne.symm e])]
theorem wipe_set {σ : L2.St} {vs : List Nat} {i : Nat} {x : Option V} (h : i ∈ vs) : wipe (σ.set i x) vs = wipe σ vs := by
  refine List.ext_getElem? fun j => ?_
  rw [wipe_get, wipe_get, List.length_set]
  by_cases hj : j ∈ vs
  · rw [if_pos hj, if_pos hj]
  · rw [if_neg hj, if_neg hj]
    have ne : i ≠ j := fun e => hj (e ▸ h)
    rw [List.getElem?_set_ne ne]
theorem wipe_idem {σ : L2.St} {vs : List Nat} : wipe (wipe σ vs) vs = wipe σ vs := by
  refine List.ext_getElem? fun j => ?_
  rw [wipe_get, wipe_get, wipe_length]
  by_cases hj : j ∈ vs <;> simp [hj]

abbrev blkX (X : Cx) (scope : Scope) (s : Shared) (H : Hp) (C : Addr) (cl : List (Str × Addr)) (fp : List Addr) : Cx := X.blk s H scope (compEnvC scope cl C X.env) fp
section
variable {X : Cx} {WW : WX} {W : Wm}
theorem ctx_blk (c : Ctx X WW) {scope : Scope} {s : Shared} {H : Hp} {C : Addr} {cl : List (Str × Addr)} {fp : List Addr} : Ctx (blkX X scope s H C cl fp) W0 := ⟨takes0, PassesOwn.never, c.hc, c.nd⟩
/-- targets within a block: names alone -/
def SimGv (W : Wm) (vs : List Nat) (g : TG) (ag : AG) : Prop := ∀ F μ ρ σ H d v Q R, Rep W.toWd F μ H → SlAt W.toWd F ρ σ → At W.toWd F d v → ag Xp0 d ρ μ Q →
  (∀ F' μ' H' ρ' σ', Rep W.toWd F' μ' H' → Step F μ H F' μ' H' → SlAt W.toWd F' ρ' σ' → wipe σ' vs = wipe σ vs → Q ρ' μ' → R σ' H') → g v σ H R
structure DGv (X : Cx) (e : Expr) (g : TG) (ag : AG) (vs : List Nat) : Prop where
  p : PG X e g
  s : SimGv (wm X) vs g ag
theorem dgv_name {WW : WX} (c : Ctx X WW) (i : Nat) {vs : List Nat} {x : Str} {pos : Pos} (hm : i ∈ vs := by decide) (hi : X.N[i]? = some x := by rfl) (hx : Loc X.env.scope x := by first | exact Or.inl rfl | exact Or.inr rfl) (hf : X.fn x = true ∨ X.env.scope.names.lookup x = some .local := by first | exact .inl rfl | exact .inr rfl) :
    DGv X (.Name x pos) (gName i) (gNm i) vs := ⟨pg_name c.nd hi hx hf, fun F μ ρ σ H d v Q R rep sl a q k => k _ _ _ _ _ rep (Step.refl _ _ _) (sl.set i a) (wipe_set hm) q⟩
def SimGsv (W : Wm) (vs : List Nat) (g : TGs) (ag : AGs) : Prop := ∀ F μ ρ σ H ds us Q R, Rep W.toWd F μ H → SlAt W.toWd F ρ σ → AtL W.toWd F ds us → ag ds ρ μ Q →
  (∀ F' μ' H' ρ' σ', Rep W.toWd F' μ' H' → Step F μ H F' μ' H' → SlAt W.toWd F' ρ' σ' → wipe σ' vs = wipe σ vs → Q ρ' μ' → R σ' H') → g us σ H R
structure DGsv (X : Cx) (es : List Expr) (g : TGs) (ag : AGs) (vs : List Nat) : Prop where
  p : PGs X es g
  s : SimGsv (wm X) vs g ag
theorem dgsv_nil {vs : List Nat} : DGsv X [] gNil gNil_ vs := by
  refine ⟨pgs_nil, fun F μ ρ σ H ds us Q R rep sl a ⟨e, q⟩ k => ?_⟩
  subst e
  cases (show us = [] from a)
  exact ⟨rfl, k _ _ _ _ _ rep (Step.refl _ _ _) sl rfl q⟩
theorem dgsv_cons {WW : WX} (c : Ctx X WW) (i : Nat) {vs : List Nat} {x : Str} {pos : Pos} {es : List Expr} {g : TGs} {ag : AGs} (h2 : DGsv X es g ag vs) (hm : i ∈ vs := by decide) (hi : X.N[i]? = some x := by rfl) (hx : Loc X.env.scope x := by first | exact Or.inl rfl | exact Or.inr rfl)
    (hf : X.fn x = true ∨ X.env.scope.names.lookup x = some .local := by first | exact .inl rfl | exact .inr rfl) (hs : (assignEach (.Name x pos :: es) X.env).map (·.2) = assign (.Name x pos) X.env :: (assignEach es X.env).map (·.2) := by rfl) :
    DGsv X (.Name x pos :: es) (gCons (gName i) g) (gCons_ i ag) vs := by
  refine ⟨pgs_cons (pg_name c.nd hi hx hf) h2.p hs, fun F μ ρ σ H ds us Q R rep sl a ⟨d, fs, e, q⟩ k => ?_⟩
  subst e
  obtain ⟨v, vs', rfl, b, c⟩ := a
  exact ⟨v, vs', rfl, h2.s F μ _ _ H fs vs' Q R rep (sl.set i b) c q fun F' μ' H' ρ' σ' r s sl' w q' => k F' μ' H' ρ' σ' r s sl' (w.trans (wipe_set hm)) q'⟩
theorem dgv_tup {WW : WX} (c : Ctx X WW) {vs : List Nat} {es : List Expr} {k n : Nat} {pos : Pos} {g : TGs} {ag : AGs} (h : DGsv X es g ag vs) (hn : (assignEach es X.env).length = n := by rfl) (hst : (assignEach es X.env).findIdx? (·.1) = none := by rfl) :
    DGv X (.Tuple es k pos) (gTup X.K n g) (gTupN n ag) vs := by
  refine ⟨pg_tup c.hc h.p hn hst, fun F μ ρ σ H d v Q R rep sl a ⟨ds, e, hl, q⟩ k => ?_⟩
  subst e
  obtain ⟨p, us, rfl, hp, al⟩ := a
  exact ⟨p, us, rfl, rep.ex.sqt hp, by rw [← al.length]; exact hl, h.s F μ ρ σ H ds us Q R rep sl al q k⟩
/-- a clause's tests -/
structure DTs (X : Cx) (ifs : List Expr) (tt : TT) (at_ : AT) : Prop where
  p : PTs X ifs tt
  s : SimT (wm X) W0 tt at_
def tstYes : AT := fun _ _ μ Q => Q true μ
theorem dts_nil : DTs X [] tYes tstYes := ⟨pts_nil, fun F μ ρ σ H Xp Q R rep sl kx q k => k _ _ _ _ rep (Step.refl _ _ _) q⟩
theorem dts_one {c : Expr} {t : TT} {a : AT} (h : DT X W0 c t a) : DTs X [c] t a := ⟨pts_one h.p, h.s⟩
/-! the list comprehension -/
def lcL (ok : Mu → Prop) (g : AG) (t : AT) (e : AE) (w : Sl) (Q : List Dat → Mu → Prop) : List Dat → List Dat → Mu → Prop
  | [], acc, μ => ok μ ∧ Q acc μ
  | d :: r, acc, μ => ok μ ∧ g Xp0 d w μ fun ρ' μ1 => t Xp0 ρ' μ1 fun b μ2 => if b = true then e Xp0 ρ' μ2 fun y μ3 => acc.length < 16777216 ∧ lcL ok g t e w Q r (acc ++ [y]) μ3 else lcL ok g t e w Q r acc μ2
def aLc (ai : AI) (g : AG) (t : AT) (e : AE) (vs : List Nat) : AE := fun Xp ρ μ Q => ai Xp ρ μ fun I μ1 => lcL I.ok g t e (wipeD ρ vs) (fun acc μ2 => Q (.lst acc) μ2) I.ds [] μ1
def aLcM (ai : AI) (g : AG) (t : AT) (e : AE) (vs : List Nat) : AE := fun Xp ρ μ Q => ai Xp ρ μ fun I μ1 => lcL I.ok g t e (wipeD ρ vs) (fun acc μ2 => ∀ p, μ2 p = none → Q (.cell p) (mset μ2 p (.lst acc))) I.ds [] μ1
theorem Rep.other {F : Hp} {μ : Mu} {H : Hp} {p : Addr} {o : HO} (R : Rep W.toWd F μ H) (hf : F p = none) (hm : μ p = none) : Rep W.toWd F μ (upd H p o) := by
  refine ⟨fun a u e => ?_, fun a c e => ?_⟩
  · rw [upd_ne (ne_of_none e hf)]
    exact R.ex a u e
  · have ne : a ≠ p := fun z => by
      subst z
      rw [hm] at e
      cases e
    rw [upd_ne ne]
    exact R.cel a c e
/-- the block's walk: Q' is what is wanted of the made list -/
theorem lc_sim {J : It} {I : AIt} {g : TG} {ag : AG} {tt : TT} {at_ : AT} {te : TE} {ae : AE} {vs : List Nat} {F1 : Hp} {μ1 : Mu} {H1 : Hp} {ρ : Sl} {σ : L2.St} {Qa : List Dat → Mu → Prop} {Qc : VK} {L : Addr}
    (hg : SimGv W vs g ag) (ht : SimT W W0 tt at_) (he : SimE W W0 te ae) (iS : ItSim W F1 J I) (rep : Rep W.toWd F1 μ1 H1) (sl : SlAt W.toWd F1 ρ σ) (hL : H1 L = none) (h : lcL I.ok ag at_ ae (wipeD ρ vs) Qa I.ds [] μ1)
    (k : ∀ F' μ' H' acc us, Rep W.toWd F' μ' H' → Step F1 μ1 H1 F' μ' H' → H' L = some (.lst us) → F' L = none → μ' L = none → AtL W.toWd F' acc us → Qa acc μ' → Qc (.ref L) H') :
    ∃ Wd : Nat → Nat → Hp → Prop, (∃ m, Wd 0 m (upd H1 L (.lst []))) ∧ ∀ i m H, Wd i m H →
      (J.stop i H ∧ Qc (.ref L) H) ∨ (J.go i H ∧ ∃ Nx : Hp → Prop, (∀ H', Nx H' → ∃ m', m' < m ∧ Wd (i + 1) m' H') ∧ ∀ x H', J.yld i H x H' → g x (wipe σ vs) H' fun σ2 H2 => wipe σ2 vs = wipe σ vs ∧ tt σ2 H2 fun b H3 =>
        if b = true then te σ2 H3 fun y H4 => ∃ acc, H4 L = some (.lst acc) ∧ acc.length < sizeLine ∧ Nx (upd H4 L (.lst (acc ++ [y]))) else Nx H3) := by
  have fL := rep.f_none hL
  have mL := rep.mu_none hL
  -- the word of a turn
  let G : Nat → Hp → Prop := fun i H' => ∃ F' μ' acc us, Rep W.toWd F' μ' H' ∧ Step F1 μ1 H1 F' μ' H' ∧ H' L = some (.lst us) ∧ F' L = none ∧ μ' L = none ∧ AtL W.toWd F' acc us ∧ lcL I.ok ag at_ ae (wipeD ρ vs) Qa (I.ds.drop i) acc μ'
  have st0 : Step F1 μ1 H1 F1 μ1 (upd H1 L (.lst [])) := ⟨Ext.refl _, fun a o e _ => by rw [upd_ne (ne_of_none e hL)]; exact e, fun _ _ _ _ f => f, fun _ _ _ m => m⟩
  refine ⟨fun i m H' => m = (I.ds.drop i).length ∧ G i H', ⟨_, rfl, F1, μ1, [], [], rep.other fL mL, st0, upd_same, fL, mL, rfl, h⟩, ?_⟩
  rintro i m H' ⟨rfl, F', μ', acc, us, r', s', hH, hF, hM, al, h'⟩
  cases e : I.ds[i]? with
  | none =>
    have ed : I.ds.drop i = [] := List.drop_eq_nil_iff.mpr (List.getElem?_eq_none_iff.mp e)
    rw [ed] at h'
    obtain ⟨ok, hn⟩ := h'
    exact .inl ⟨(iS F' μ' H' s'.ex r' ok i).2 e, k _ _ _ _ _ r' s' hH hF hM al hn⟩
  | some d =>
    have hlt : i < I.ds.length := (List.getElem?_eq_some_iff.mp e).1
    have ed : I.ds.drop i = d :: I.ds.drop (i + 1) := by
      rw [List.drop_eq_getElem_cons hlt, (List.getElem?_eq_some_iff.mp e).2]
    rw [ed] at h'
    obtain ⟨ok, hq⟩ := h'
    obtain ⟨hgo, hy⟩ := (iS F' μ' H' s'.ex r' ok i).1 d e
    refine .inr ⟨hgo, G (i + 1), fun H2 h2 => ⟨_, ?_, rfl, h2⟩, ?_⟩
    · rw [ed, List.length_cons]
      omega
    · intro x H2 hx
      obtain ⟨F2, r2, s2, ax⟩ := hy x H2 hx
      have s12 := s'.trans s2
      have slw := slAt_wipe (sl.mono s12.ex) vs
      refine hg F2 μ' (wipeD ρ vs) (wipe σ vs) H2 d x _ _ r2 slw ax hq fun F3 μ3 H3 ρ3 σ3 r3 s3 sl3 hw q3 => ⟨hw.trans wipe_idem, ?_⟩
      refine ht F3 μ3 ρ3 σ3 H3 Xp0 _ _ r3 sl3 (fun _ _ _ _ _ _ _ _ _ z => z.elim) q3 fun F4 μ4 H4 b r4 s4 q4 => ?_
      have s24 := (s2.trans s3).trans s4
      cases b with
      | false =>
        rw [if_neg Bool.false_ne_true] at q4 ⊢
        exact ⟨F4, μ4, acc, us, r4, s'.trans s24, s24.fr _ _ hH hM, s24.nw _ _ hH hM hF, s24.mn _ _ hH hM, AtL.mono s24.ex _ _ al, q4⟩
      | true =>
        rw [if_pos rfl] at q4 ⊢
        refine he F4 μ4 ρ3 σ3 H4 Xp0 _ _ r4 (sl3.mono s4.ex) (fun _ _ _ _ _ _ _ _ _ z => z.elim) q4 fun F5 μ5 H5 y v r5 s5 a5 ⟨hl, q5⟩ => ?_
        have s25 := s24.trans s5
        have hH5 := s25.fr _ _ hH hM
        have hF5 := s25.nw _ _ hH hM hF
        have hM5 := s25.mn _ _ hH hM
        have al5 := AtL.mono s25.ex _ _ al
        refine ⟨us, hH5, by rw [← al5.length]; exact hl, F5, μ5, acc ++ [y], us ++ [v], r5.other hF5 hM5, ?_, upd_same, hF5, hM5, al5.append (AtL.cons a5 AtL.nil), q5⟩
        have s15 := s'.trans s25
        refine ⟨s15.ex, fun a o e m => ?_, s15.nw, s15.mn⟩
        rw [upd_ne (ne_of_none e hL)]
        exact s15.fr a o e m
theorem sim_lc {wi : TI} {ai : AI} {g : TG} {ag : AG} {tt : TT} {at_ : AT} {te : TE} {ae : AE} {vs : List Nat} (hi : SimI W WW wi ai) (hg : SimGv W vs g ag) (ht : SimT W W0 tt at_) (he : SimE W W0 te ae) : SimE W WW (tLc wi g tt te vs) (aLc ai ag at_ ae vs) := by
  intro F μ ρ σ H Xp Q R rep sl kx q k
  refine hi F μ ρ σ H Xp _ _ rep sl kx q fun F1 μ1 H1 J I r1 s1 iS h1 L hL => ?_
  refine lc_sim hg ht he iS r1 (sl.mono s1.ex) hL h1 fun F' μ' H' acc us r' s' hH hF hM al hq => ?_
  have ex : Ext F' (upd F' L (.lst us)) := Ext.new hF
  refine k (upd F' L (.lst us)) μ' H' (.lst acc) (.ref L) ⟨fun a o e => ?_, fun a c e => ?_⟩ (s1.trans ⟨s'.ex.trans ex, s'.fr, fun a o e m f => ?_, s'.mn⟩) ⟨L, us, rfl, upd_same, AtL.mono ex _ _ al⟩ hq
  · by_cases z : a = L
    · subst z
      rw [upd_same] at e
      rw [hH]
      exact e
    · rw [upd_ne z] at e
      exact r'.ex a o e
  · have z : a ≠ L := fun z => by
      subst z
      rw [hM] at e
      cases e
    rw [upd_ne z]
    obtain ⟨y1, y2⟩ := r'.cel a c e
    exact ⟨y1, y2.mono ex⟩
  · rw [upd_ne (ne_of_none e hL)]
    exact s'.nw a o e m f
theorem sim_lcM {wi : TI} {ai : AI} {g : TG} {ag : AG} {tt : TT} {at_ : AT} {te : TE} {ae : AE} {vs : List Nat} (hi : SimI W WW wi ai) (hg : SimGv W vs g ag) (ht : SimT W W0 tt at_) (he : SimE W W0 te ae) : SimE W WW (tLc wi g tt te vs) (aLcM ai ag at_ ae vs) := by
  intro F μ ρ σ H Xp Q R rep sl kx q k
  refine hi F μ ρ σ H Xp _ _ rep sl kx q fun F1 μ1 H1 J I r1 s1 iS h1 L hL => ?_
  refine lc_sim hg ht he iS r1 (sl.mono s1.ex) hL h1 fun F' μ' H' acc us r' s' hH hF hM al hq => ?_
  refine k F' (mset μ' L (.lst acc)) H' (.cell L) (.ref L) ⟨r'.ex, fun a c e => ?_⟩ (s1.trans ⟨s'.ex, s'.fr, s'.nw, fun a o e m => ?_⟩) (show At W.toWd F' (.cell L) (.ref L) from rfl) (hq L hM)
  · by_cases z : a = L
    · subst z
      rw [mset_same] at e
      cases e
      exact ⟨hF, us, hH, al⟩
    · rw [mset_ne z] at e
      exact r'.cel a c e
  · rw [mset_ne (ne_of_none e hL)]
    exact s'.mn a o e m
/-! readings told by their abstract ones: nothing of the block stands in them -/
def semE (Wx : Wm) (ae : AE) : TE := fun σ H R => ∃ F μ ρ Xp Q, Rep Wx.toWd F μ H ∧ SlAt Wx.toWd F ρ σ ∧ KonX Wx F μ H Xp W0 ρ σ ∧ ae Xp ρ μ Q ∧ Kont Wx F μ H Q R
def semT (Wx : Wm) (at_ : AT) : TT := fun σ H R => ∃ F μ ρ Xp Q, Rep Wx.toWd F μ H ∧ SlAt Wx.toWd F ρ σ ∧ KonX Wx F μ H Xp W0 ρ σ ∧ at_ Xp ρ μ Q ∧ KonB Wx F μ H Q R
def semG (Wx : Wm) (vs : List Nat) (ag : AG) : TG := fun v σ H R => ∃ F μ ρ d Q, Rep Wx.toWd F μ H ∧ SlAt Wx.toWd F ρ σ ∧ At Wx.toWd F d v ∧ ag Xp0 d ρ μ Q ∧
  (∀ F' μ' H' ρ' σ', Rep Wx.toWd F' μ' H' → Step F μ H F' μ' H' → SlAt Wx.toWd F' ρ' σ' → wipe σ' vs = wipe σ vs → Q ρ' μ' → R σ' H')
theorem de_sem {e : Expr} {ae : AE} (h : ∃ te, DE X W0 e te ae) : DE X W0 e (semE (wm X) ae) ae := by
  obtain ⟨te, h⟩ := h
  exact ⟨⟨fun pins s σ H Q I ⟨F, μ, ρ, Xp, Qa, r, sl, kx, q, k⟩ => h.p.run pins s σ H Q I (h.s F μ ρ σ H Xp Qa Q r sl kx q k)⟩, fun F μ ρ σ H Xp Q R r sl kx q k => ⟨F, μ, ρ, Xp, Q, r, sl, kx, q, k⟩⟩
theorem dts_sem {es : List Expr} {at_ : AT} (h : ∃ tt, DTs X es tt at_) : DTs X es (semT (wm X) at_) at_ := by
  obtain ⟨te, h⟩ := h
  exact ⟨⟨fun pins s σ H Q I ⟨F, μ, ρ, Xp, Qa, r, sl, kx, q, k⟩ => h.p.run pins s σ H Q I (h.s F μ ρ σ H Xp Qa Q r sl kx q k)⟩, fun F μ ρ σ H Xp Q R r sl kx q k => ⟨F, μ, ρ, Xp, Q, r, sl, kx, q, k⟩⟩
theorem dgv_sem {e : Expr} {ag : AG} {vs : List Nat} (h : ∃ g, DGv X e g ag vs) : DGv X e (semG (wm X) vs ag) ag vs := by
  obtain ⟨te, h⟩ := h
  exact ⟨⟨fun pins s σ H v u Q I rv ⟨F, μ, ρ, d, Qa, r, sl, a, q, k⟩ => h.p.run pins s σ H v u Q I rv (h.s F μ ρ σ H d v Qa Q r sl a q k)⟩, fun F μ ρ σ H d v Q R r sl a q k => ⟨F, μ, ρ, d, Q, r, sl, a, q, k⟩⟩
theorem de_lc {own : List (Str × Nat)} (c : Ctx X WW) {elt tg iter : Expr} {ifs : List Expr} {scope : Scope} {pos : Pos} {wi : TI} {ai : AI} {ag : AG} {at_ : AT} {ae : AE} (hi : DI X WW tg iter wi ai) (ok : BlkOk X.N X.env.scope scope own)
    (hg : ∀ s H C cl fp, ∃ g, DGv (blkX X scope s H C cl fp) tg g ag (own.map (·.2))) (ht : ∀ s H C cl fp, ∃ tt, DTs (blkX X scope s H C cl fp) ifs tt at_) (he : ∀ s H C cl fp, ∃ te, DE (blkX X scope s H C cl fp) W0 elt te ae) (hs : ∀ x, foldedSetIterable iter X.env x = pure x := by intro _; rfl) :
    DE X WW (.ListComp elt [⟨tg, iter, ifs, 0⟩] scope pos) (tLc wi (semG (wm X) (own.map (·.2)) ag) (semT (wm X) at_) (semE (wm X) ae) (own.map (·.2))) (aLc ai ag at_ ae (own.map (·.2))) :=
  ⟨pe_lc c.hc c.nd hi.p ok (fun s H C cl fp => (dgv_sem (hg s H C cl fp)).p) (fun s H C cl fp => (dts_sem (ht s H C cl fp)).p) (fun s H C cl fp => (de_sem (he s H C cl fp)).p) hs,
    sim_lc hi.s (dgv_sem (hg X.s_0 X.H_0 0 [] [])).s (dts_sem (ht X.s_0 X.H_0 0 [] [])).s (de_sem (he X.s_0 X.H_0 0 [] [])).s⟩
theorem de_lcM {own : List (Str × Nat)} (c : Ctx X WW) {elt tg iter : Expr} {ifs : List Expr} {scope : Scope} {pos : Pos} {wi : TI} {ai : AI} {ag : AG} {at_ : AT} {ae : AE} (hi : DI X WW tg iter wi ai) (ok : BlkOk X.N X.env.scope scope own)
    (hg : ∀ s H C cl fp, ∃ g, DGv (blkX X scope s H C cl fp) tg g ag (own.map (·.2))) (ht : ∀ s H C cl fp, ∃ tt, DTs (blkX X scope s H C cl fp) ifs tt at_) (he : ∀ s H C cl fp, ∃ te, DE (blkX X scope s H C cl fp) W0 elt te ae) (hs : ∀ x, foldedSetIterable iter X.env x = pure x := by intro _; rfl) :
    DE X WW (.ListComp elt [⟨tg, iter, ifs, 0⟩] scope pos) (tLc wi (semG (wm X) (own.map (·.2)) ag) (semT (wm X) at_) (semE (wm X) ae) (own.map (·.2))) (aLcM ai ag at_ ae (own.map (·.2))) :=
  ⟨pe_lc c.hc c.nd hi.p ok (fun s H C cl fp => (dgv_sem (hg s H C cl fp)).p) (fun s H C cl fp => (dts_sem (ht s H C cl fp)).p) (fun s H C cl fp => (de_sem (he s H C cl fp)).p) hs,
    sim_lcM hi.s (dgv_sem (hg X.s_0 X.H_0 0 [] [])).s (dts_sem (ht X.s_0 X.H_0 0 [] [])).s (de_sem (he X.s_0 X.H_0 0 [] [])).s⟩
/-- name = [..] -/
theorem ds_setLc {i : Nat} {own : List (Str × Nat)} (c : Ctx X WW) {y : Str} {py spos : Pos} {elt tg iter : Expr} {ifs : List Expr} {scope : Scope} {pos : Pos} {wi : TI} {ai : AI} {ag : AG} {at_ : AT} {ae : AE} (hi : DI X WW tg iter wi ai) (ok : BlkOk X.N X.env.scope scope own)
    (hsw : swapsWith (.ListComp elt [⟨tg, iter, ifs, 0⟩] scope pos) (some (.Name y py)) spos.line X.env = pure true)
    (hg : ∀ s H C cl fp, ∃ g, DGv (blkX X scope s H C cl fp) tg g ag (own.map (·.2))) (ht : ∀ s H C cl fp, ∃ tt, DTs (blkX X scope s H C cl fp) ifs tt at_) (he : ∀ s H C cl fp, ∃ te, DE (blkX X scope s H C cl fp) W0 elt te ae)
    (hy : X.N[i]? = some y := by rfl) (hyl : X.env.scope.names.lookup y = some .local := by rfl) (hs : ∀ x, foldedSetIterable iter X.env x = pure x := by intro _; rfl) :
    DS X WW (.Assign [.Name y py] (.ListComp elt [⟨tg, iter, ifs, 0⟩] scope pos) spos) (tAsg (tLc wi (semG (wm X) (own.map (·.2)) ag) (semT (wm X) at_) (semE (wm X) ae) (own.map (·.2))) (gName i)) (sSet i (aLc ai ag at_ ae (own.map (·.2)))) :=
  ⟨ps_setLc c.hc c.nd hy hyl hsw hi.p ok (fun s H C cl fp => (dgv_sem (hg s H C cl fp)).p) (fun s H C cl fp => (dts_sem (ht s H C cl fp)).p) (fun s H C cl fp => (de_sem (he s H C cl fp)).p) hs,
    sim_set (sim_lc hi.s (dgv_sem (hg X.s_0 X.H_0 0 [] [])).s (dts_sem (ht X.s_0 X.H_0 0 [] [])).s (de_sem (he X.s_0 X.H_0 0 [] [])).s)⟩
theorem ds_setLcM {i : Nat} {own : List (Str × Nat)} (c : Ctx X WW) {y : Str} {py spos : Pos} {elt tg iter : Expr} {ifs : List Expr} {scope : Scope} {pos : Pos} {wi : TI} {ai : AI} {ag : AG} {at_ : AT} {ae : AE} (hi : DI X WW tg iter wi ai) (ok : BlkOk X.N X.env.scope scope own)
    (hsw : swapsWith (.ListComp elt [⟨tg, iter, ifs, 0⟩] scope pos) (some (.Name y py)) spos.line X.env = pure true)
    (hg : ∀ s H C cl fp, ∃ g, DGv (blkX X scope s H C cl fp) tg g ag (own.map (·.2))) (ht : ∀ s H C cl fp, ∃ tt, DTs (blkX X scope s H C cl fp) ifs tt at_) (he : ∀ s H C cl fp, ∃ te, DE (blkX X scope s H C cl fp) W0 elt te ae)
    (hy : X.N[i]? = some y := by rfl) (hyl : X.env.scope.names.lookup y = some .local := by rfl) (hs : ∀ x, foldedSetIterable iter X.env x = pure x := by intro _; rfl) :
    DS X WW (.Assign [.Name y py] (.ListComp elt [⟨tg, iter, ifs, 0⟩] scope pos) spos) (tAsg (tLc wi (semG (wm X) (own.map (·.2)) ag) (semT (wm X) at_) (semE (wm X) ae) (own.map (·.2))) (gName i)) (sSet i (aLcM ai ag at_ ae (own.map (·.2)))) :=
  ⟨ps_setLc c.hc c.nd hy hyl hsw hi.p ok (fun s H C cl fp => (dgv_sem (hg s H C cl fp)).p) (fun s H C cl fp => (dts_sem (ht s H C cl fp)).p) (fun s H C cl fp => (de_sem (he s H C cl fp)).p) hs,
    sim_set (sim_lcM hi.s (dgv_sem (hg X.s_0 X.H_0 0 [] [])).s (dts_sem (ht X.s_0 X.H_0 0 [] [])).s (de_sem (he X.s_0 X.H_0 0 [] [])).s)⟩
end
end DL

namespace DL
open PySem PySem.Spec PyProof.Rows L2 PpSet

/-! ### a set comprehension whose elements are keys -/
/-- the empty set, as it is made -/
abbrev emptySet (X : Cx) : Obj := { cls := .type "set", dict := none, data := .set #[] 0 (.fresh 0 0 (!X.w.params.followText "set-order")) }
/-- a turn's wish: Go reached by the new set -/
def scTurn (P : Program) (w : World) (g : TG) (tt : TT) (te : TE) (vs : List Nat) (σ : L2.St) (S : Addr) (Go : Hp → Prop) (x : V) (H : Hp) : Prop :=
  g x (wipe σ vs) H fun σ2 H2 => wipe σ2 vs = wipe σ vs ∧ tt σ2 H2 fun b H3 => if b = true then te σ2 H3 fun y H4 => ∃ (k : Key) (M : Key → Bool) (n : Nat), y = kV k ∧ H4 S = some (SetK P w S M n) ∧ n + 1 < scanBound ∧
    Go (upd H4 S (SetK P w S (fun j => M j || decide (j = k)) (if M k = true then n else n + 1))) else Go H3
def tScK (P : Program) (w : World) (wi : TI) (g : TG) (tt : TT) (te : TE) (vs : List Nat) : TE := fun σ H Q => wi σ H fun J H1 => ∀ S, H1 S = none → ∃ Wd : Nat → Nat → Hp → Prop, (∃ m, Wd 0 m (upd H1 S (SetK P w S (fun _ => false) 0))) ∧
  ∀ i m H, Wd i m H → (J.stop i H ∧ Q (.ref S) H) ∨ (J.go i H ∧ ∃ Go : Hp → Prop, (∀ H', Go H' → ∃ m', m' < m ∧ Wd (i + 1) m' H') ∧ ∀ x H', J.yld i H x H' → scTurn P w g tt te vs σ S Go x H')
section
variable {X : Cx}
theorem keyset_comp {pins : List (Addr × Obj)} {s : Shared} {σ : L2.St} {H : Hp} {Q : VK} {elt tg iter : Expr} {ifs : List Expr} {scope : Scope} {own : List (PySem.Str × Nat)} {pos pos' : Pos} {wi : TI} {g : TG} {tt : TT} {te : TE} {use : Option (Value → Sem Unit)} {Qf : Value → Shared → Prop}
    (calm : X.calm = true) (nd : X.N.Nodup) (I : Inv X pins σ H s) (walk : PI X tg iter wi) (ok : BlkOk X.N X.env.scope scope own) (plain : ∀ x, foldedSetIterable iter X.env x = pure x)
    (tgt : ∀ s H C cl fp, PG (blkX X scope s H C cl fp) tg g) (tst : ∀ s H C cl fp, PTs (blkX X scope s H C cl fp) ifs tt) (val : ∀ s H C cl fp, PE (blkX X scope s H C cl fp) elt te)
    (h : tScK X.prog X.w wi g tt te (own.map (·.2)) σ H Q)
    (back : ∀ S C s' m H', Inv X pins σ H' s' → Q (.ref S) H' → s'.heap.Ns C m → FpOk X pins H' C → compPost (model X.prog X.w) X.A X.xe use Qf (.ref S) C (.ok .next) s') :
    wpAny (model X.prog X.w) X.A (comprehension (.SetComp elt [⟨tg, iter, ifs, 0⟩] scope pos) scope X.env pos' (newSet (.type "set")) false (eval iter X.env) use) Qf X.xe s := by
  have caps : ∀ y ∈ scope.names, y.2 = .free → ∃ c, X.env.cells.lookup y.1 = some c := fun y hy e => (ok.free y hy e).elim (fun k => I.ok.has _ (.inl k)) fun k => I.ok.has _ (.inr k)
  refine wpAny_comprehension_free (use := use) rfl plain (closure_ok caps) ok.kind (fun y hy e => (ok.uniq y hy).trans (congrArg some e)) (thn (walk.run pins s σ H _ I h) fun _ sA hA => thn hA fun _ sB hB => ?_)
  obtain ⟨it, fp, here, J, HB, rfl, IB, T, stB, okB, q⟩ := hB
  refine newSet_ok (newEnv_comp ?_)
  -- the set's address
  obtain ⟨S, hS⟩ : ∃ S, sB.heap.objs.size = S := ⟨_, rfl⟩
  rw [hS]
  have freeS : HB S = none := IB.hok.fresh (Nat.le_of_eq hS)
  obtain ⟨Wd, ⟨m0, w0⟩, turn⟩ := q S freeS
  obtain ⟨HC, hHC⟩ : ∃ HC, upd HB S (SetK X.prog X.w S (fun _ => false) 0) = HC := ⟨_, rfl⟩
  obtain ⟨sC, hsC⟩ : ∃ sC : Shared, ({ sB with heap := sB.heap.push (emptySet X) } : Shared) = sC := ⟨_, rfl⟩
  have heapC : sC.heap = sB.heap.push (emptySet X) := by rw [← hsC]
  have IC : Inv X pins σ HC sC := by
    rw [← hsC, ← hHC]
    refine IB.laid (t' := sB.toks) (fun b o e => Heap.get?_push_of_some _ e) (Nat.le_of_eq hS) ?_
    rw [← hS]
    exact setK_new ⟨_, #[], 0, _, Heap.get?_push_size _ rfl, ⟨rfl, rfl, rfl⟩, rfl, (fun e he => by simp at he), (fun k => by simp), (by decide), (by rfl), rfl⟩
  have low : ∀ b ∈ fp, b < S := fun b hb => by
    obtain ⟨o, e, _⟩ := T.obj _ _ stB b hb
    rw [← hS]
    exact Heap.lt_size e
  have okC : ∀ b ∈ fp, FpOk X pins HC b ∧ b < sC.heap.objs.size := fun b hb => by
    refine ⟨⟨?_, (okB b hb).2⟩, ?_⟩
    · rw [← hHC, upd_ne (Nat.ne_of_lt (low b hb))]
      exact (okB b hb).1
    · rw [heapC, Heap.size_push, hS]
      exact Nat.lt_succ_of_lt (low b hb)
  have stC : here 0 sC.heap := T.keep _ _ _ stB fun b _ o e => by
    rw [heapC]
    exact Heap.get?_push_of_some _ e
  have ID := block_start IC ok nd okC
  have pg := tgt sC HC sC.heap.objs.size (cellsFrom (sC.heap.objs.size + 1) scope.names (cloFrom X.env.cells scope.names [])) fp
  have pt := tst sC HC sC.heap.objs.size (cellsFrom (sC.heap.objs.size + 1) scope.names (cloFrom X.env.cells scope.names [])) fp
  have pv := val sC HC sC.heap.objs.size (cellsFrom (sC.heap.objs.size + 1) scope.names (cloFrom X.env.cells scope.names [])) fp
  have key : codeAny (model X.prog X.w) X.A (.compStart (.SetComp elt [⟨tg, iter, ifs, 0⟩] scope pos) 0 (.ref it) (.ref S) (compEnvC scope (cellsFrom (sC.heap.objs.size + 1) scope.names (cloFrom X.env.cells scope.names [])) sC.heap.objs.size X.env))
      (compPost (model X.prog X.w) X.A X.xe use Qf (.ref S) sC.heap.objs.size) { sC with heap := pushCells (sC.heap.push { cls := .type "dict", data := .dict #[] }) scope.names } := by
    have gone : ∀ b ∈ fp, HC b = none := fun b hb => (okC b hb).1.1
    obtain ⟨env, henv⟩ : ∃ env, compEnvC scope (cellsFrom (sC.heap.objs.size + 1) scope.names (cloFrom X.env.cells scope.names [])) sC.heap.objs.size X.env = env := ⟨_, rfl⟩
    have locE : env.locals = sC.heap.objs.size := by
      rw [← henv]
      rfl
    obtain ⟨sD, hsD⟩ : ∃ sD : Shared, ({ sC with heap := pushCells (sC.heap.push { cls := .type "dict", data := .dict #[] }) scope.names } : Shared) = sD := ⟨_, rfl⟩
    have stD : here 0 sD.heap := T.keep _ _ _ stC fun b _ o e => by
      rw [← hsD]
      exact pushCells_keeps _ _ _ _ (Heap.get?_push_of_some _ e)
    unfold blkX at pg pt pv
    rw [henv] at ID pg pt pv ⊢
    rw [hsD] at ID ⊢
    have steady : ∀ {σ' : L2.St} {H' : Hp} {s' : Shared}, Inv (X.blk sC HC scope env fp) [] σ' H' s' → (∀ b ∈ fp, H' b = none) → ∀ b ∈ fp, FpOk (X.blk sC HC scope env fp) [] H' b := fun {σ' H' s'} I' hn b hb =>
      ⟨hn b hb, (I'.ok.exf b hb).1, I'.ok.exfs b hb, .inl hb, fun x c e => (I'.ok.exf b hb).2 x c e, fun p hp => nomatch (show p ∈ ([] : List (Addr × Obj)) from hp)⟩
    have run : codeAny (model X.prog X.w) X.A (.compLoop (.SetComp elt [⟨tg, iter, ifs, 0⟩] scope pos) 0 (.ref it) (.ref S) env) (compPost (model X.prog X.w) X.A X.xe use Qf (.ref S) sC.heap.objs.size) sD := by
      refine compLoopS_any (fun n s' => ∃ i H', Inv (X.blk sC HC scope env fp) [] (wipe σ (own.map (·.2))) H' s' ∧ here i s'.heap ∧ (∀ b ∈ fp, H' b = none) ∧ Wd i n H') ?_ m0 ⟨0, HC, ID, stD, gone, by rw [← hHC]; exact w0⟩
      rintro n sE ⟨i, HE, IE, stE, gE, wE⟩
      rcases turn i n HE wE with ⟨halt, fin⟩ | ⟨go, Go, less, step⟩
      · -- no item is left
        refine thnF (T.done (X.blk sC HC scope env fp) rfl rfl rfl calm i [] sE _ HE (fun _ _ => False) IE (steady IE gE) stE halt) fun r sF ⟨hr, IF⟩ => ?_
        subst hr
        obtain ⟨m, hm, _⟩ := IF.loc
        have hm : sF.heap.Ns env.locals m := hm
        have nE : HE env.locals = none := IF.free
        rw [locE] at hm nE
        refine back S sC.heap.objs.size sF m HE (IC.call' (ch := fp) IF.os IF.base IF.hok IF.bare fun b hb => ?_) fin hm (IC.fpOk (Nat.le_refl _) nE)
        obtain ⟨_, z1, z2, z3, z4, z5⟩ := (okC b hb).1
        exact ⟨z3, z1, z4, z5⟩
      · refine thnF (T.item (X.blk sC HC scope env fp) rfl rfl rfl calm i [] sE _ HE (fun _ _ => False) IE (steady IE gE) stE go) fun r sF ⟨u, hr, hF⟩ => ?_
        subst hr
        refine thnF hF fun _ sG ⟨x, HG, IG, rG, yG, stG, gG⟩ => ?_
        refine thnF (pg.run _ sG _ HG x u _ (IG.pinned (steady IG gG) (T.obj _ _ stG)) rG (step x HG yG)) fun _ sH ⟨σH, HH, IH, same, qH⟩ => ?_
        refine thnF (pt.run _ sH σH HH _ IH qH) fun b sI ⟨HI, II, qI⟩ => ?_
        have close : ∀ {s' : Shared} {H' : Hp}, Inv (X.blk sC HC scope env fp) ([] ++ pinsAt fp sG.heap) σH H' s' → Go H' → ∃ m, m < n ∧ ∃ i H', Inv (X.blk sC HC scope env fp) [] (wipe σ (own.map (·.2))) H' s' ∧ here i s'.heap ∧ (∀ b ∈ fp, H' b = none) ∧ Wd i m H' := fun {s' H'} I' nx => by
          obtain ⟨m', hm, w'⟩ := less H' nx
          have held : ∀ b ∈ fp, ∀ o, sG.heap.get? b = some o → s'.heap.get? b = some o ∧ H' b = none := fun b hb o e =>
            have z := I'.pin (b, o) (List.mem_append_right _ (List.mem_append_right _ (mem_pinsAt hb e)))
            ⟨z.1, z.2.1⟩
          refine ⟨m', hm, i + 1, H', (I'.unpinned (pins := [])).weak (by rw [← same, wipe_length]) (fun j v e => ?_), T.keep _ _ _ stG fun b hb o e => (held b hb o e).1, fun b hb => ?_, w'⟩
          · exact (wipe_some (same ▸ e)).1
          · obtain ⟨o, e, _⟩ := T.obj _ _ stG b hb
            exact (held b hb o e).2
        cases b with
        | false => exact close II qI
        | true =>
          refine thnF (pv.run _ sI σH HI _ II qI) fun z sJ ⟨y, HJ, IJ, rJ, k, M, c, ey, hJ, room, nx⟩ => ?_
          subst ey
          exact thnF (mt_saddK (X := X.blk sC HC scope env fp) _ sJ σH HJ (.ref S) [kV k] (.ref S) [z] (fun v H => v = .non ∧ Go H) IJ rfl (.cons rJ .nil) ⟨S, k, M, c, rfl, rfl, hJ, room, rfl, nx⟩) fun _ _ ⟨_, _, IL, _, _, gl⟩ => close IL gl
    exact codeAny_compStart_set run (T.self X.A 0 _ _ _ stD run)
  rw [← hsC] at key
  rw [← hS]
  rw [← hS] at key
  exact key
theorem pe_scK {elt tg iter : Expr} {ifs : List Expr} {scope : Scope} {own : List (PySem.Str × Nat)} {pos : Pos} {wi : TI} {g : TG} {tt : TT} {te : TE} (calm : X.calm = true) (nd : X.N.Nodup) (walk : PI X tg iter wi) (ok : BlkOk X.N X.env.scope scope own)
    (tgt : ∀ s H C cl fp, PG (blkX X scope s H C cl fp) tg g) (tst : ∀ s H C cl fp, PTs (blkX X scope s H C cl fp) ifs tt) (val : ∀ s H C cl fp, PE (blkX X scope s H C cl fp) elt te) (plain : ∀ x, foldedSetIterable iter X.env x = pure x := by intro _; rfl) :
    PE X (.SetComp elt [⟨tg, iter, ifs, 0⟩] scope pos) (tScK X.prog X.w wi g tt te (own.map (·.2))) := by
  refine ⟨fun pins s σ H Q I h => ?_⟩
  rw [eval_SetComp]
  refine keyset_comp calm nd I walk ok plain tgt tst val h fun S C s' m H' I' q hn f => ⟨m, hn, fun h'' sb => ⟨.ref S, H', ?_, rfl, q⟩⟩
  exact I'.turned (t' := s'.toks) (fun b o hb e => (sb.2 b hb).trans e) f.1 f.2.1 f.2.2.2.1 f.2.2.2.2.1 f.2.2.2.2.2
theorem ps_setScK {i : Nat} {y : Str} {py spos : Pos} {elt tg iter : Expr} {ifs : List Expr} {scope : Scope} {own : List (PySem.Str × Nat)} {pos : Pos} {wi : TI} {g : TG} {tt : TT} {te : TE} (calm : X.calm = true) (nd : X.N.Nodup) (hy : X.N[i]? = some y) (hyl : X.env.scope.names.lookup y = some .local)
    (sw : swapsWith (.SetComp elt [⟨tg, iter, ifs, 0⟩] scope pos) (some (.Name y py)) spos.line X.env = pure true) (walk : PI X tg iter wi) (ok : BlkOk X.N X.env.scope scope own)
    (tgt : ∀ s H C cl fp, PG (blkX X scope s H C cl fp) tg g) (tst : ∀ s H C cl fp, PTs (blkX X scope s H C cl fp) ifs tt) (val : ∀ s H C cl fp, PE (blkX X scope s H C cl fp) elt te) (plain : ∀ x, foldedSetIterable iter X.env x = pure x := by intro _; rfl) :
    PS X (.Assign [.Name y py] (.SetComp elt [⟨tg, iter, ifs, 0⟩] scope pos) spos) (tAsg (tScK X.prog X.w wi g tt te (own.map (·.2))) (gName i)) := by
  refine ⟨fun pins s σ H D I h => ?_⟩
  rw [exec_Assign_Name_used _ _ _ _ sw]
  refine wpAny_bind (wpAny_standAt (wpAny_bind ?_))
  have h' : tScK X.prog X.w wi g tt te (own.map (·.2)) σ H (fun x H1 => gName i x σ H1 D.nx) := h
  show wpAny _ X.A (comprehension (.SetComp elt [⟨tg, iter, ifs, 0⟩] scope pos) scope X.env (firstIterPos [⟨tg, iter, ifs, 0⟩] pos) (newSet (.type "set")) false (eval iter X.env) (some (assign (.Name y py) X.env)) >>= _) _ _ s
  refine wpAny_bind (thn (keyset_comp (Qf := fun _ s' => SP X pins D .next s') calm nd I walk ok plain tgt tst val h' fun S C s' m H' I' q hn f => ?_) fun _ s' hq => wpAny_pure (wpAny_pure hq))
  show wpAny _ _ (assign (.Name y py) X.env (.ref S)) _ _ _
  refine wpAny_assign_Name (store_ok2 (v := V.ref S) I' nd hy (.inl hyl) rfl (fun s2 I2 ⟨a, sb, ha⟩ => ?_) (.inr hyl))
  have apart : C ≠ a := ha.elim (fun z => z ▸ f.2.1) fun z e => f.2.2.2.2.1 y a z e.symm
  exact ⟨m, hn.sameBut sb apart, fun h3 sb3 => ⟨_, H', I2.turned (t' := s2.toks) (fun b o hb e => (sb3.2 b hb).trans e) f.1 f.2.1 f.2.2.2.1 f.2.2.2.2.1 f.2.2.2.2.2, q⟩⟩
theorem sw_trueS {elt : Expr} {gs : List Comprehension} {scope : Scope} {pos py : Pos} {y : Str} {l : Nat} {env : PySem.Env} (hk : env.scope.kind = .function) (hy : env.scope.names.lookup y = some .local) (hl : (py.line == pos.line) = true)
    (ha : (scope.names.any fun (n, k) => n == y && (k == .local || k == .cell)) = false) : swapsWith (.SetComp elt gs scope pos) (some (.Name y py)) l env = pure true := by
  have ky : env.kindOf y = some .local := hy
  have hb : env.blockKind = .function := by
    unfold Env.blockKind
    rw [hk]
    rfl
  unfold swapsWith
  simp only [hb, ky, ha, Expr.pos, hl]
  rfl
def scL (ok : Mu → Prop) (g : AG) (t : AT) (e : AE) (w : Sl) (Q : List Key → Mu → Prop) : List Dat → List Key → Mu → Prop
  | [], acc, μ => ok μ ∧ Q acc μ
  | d :: r, acc, μ => ok μ ∧ g Xp0 d w μ fun ρ' μ1 => t Xp0 ρ' μ1 fun b μ2 => if b = true then e Xp0 ρ' μ2 fun y μ3 => ∃ k, keyOf y = some k ∧ acc.length < 4000 ∧ scL ok g t e w Q r (acc ++ [k]) μ3 else scL ok g t e w Q r acc μ2
def aSc (ai : AI) (g : AG) (t : AT) (e : AE) (vs : List Nat) : AE := fun Xp ρ μ Q => ai Xp ρ μ fun I μ1 => scL I.ok g t e (wipeD ρ vs) (fun acc μ2 => Q (.set acc) μ2) I.ds [] μ1
variable {W : Wm} {WW : WX}
theorem sim_sc {wi : TI} {ai : AI} {g : TG} {ag : AG} {tt : TT} {at_ : AT} {te : TE} {ae : AE} {vs : List Nat} (hi : SimI W WW wi ai) (hg : SimGv W vs g ag) (ht : SimT W W0 tt at_) (he : SimE W W0 te ae) : SimE W WW (tScK W.P W.w wi g tt te vs) (aSc ai ag at_ ae vs) := by
  intro F μ ρ σ H Xp Q R rep sl kx q k
  refine hi F μ ρ σ H Xp _ _ rep sl kx q fun F1 μ1 H1 J I r1 s1 iS h L hL => ?_
  have fL := r1.f_none hL
  have mL := r1.mu_none hL
  have sl1 := sl.mono s1.ex
  let G : Nat → Hp → Prop := fun i H' => ∃ F' μ' acc M n, Rep W.toWd F' μ' H' ∧ Step F1 μ1 H1 F' μ' H' ∧ H' L = some (SetK W.P W.w L M n) ∧ F' L = none ∧ μ' L = none ∧ (∀ k, M k = true ↔ k ∈ acc) ∧ n ≤ acc.length ∧ scL I.ok ag at_ ae (wipeD ρ vs) (fun acc μ2 => Q (.set acc) μ2) (I.ds.drop i) acc μ'
  have st0 : ∀ o, Step F1 μ1 H1 F1 μ1 (upd H1 L o) := fun o => ⟨Ext.refl _, fun a o e _ => by rw [upd_ne (ne_of_none e hL)]; exact e, fun _ _ _ _ f => f, fun _ _ _ m => m⟩
  refine ⟨fun i m H' => m = (I.ds.drop i).length ∧ G i H', ⟨_, rfl, F1, μ1, [], _, 0, r1.other fL mL, st0 _, upd_same, fL, mL, (fun k => by simp), Nat.le_refl _, h⟩, ?_⟩
  rintro i m H' ⟨rfl, F', μ', acc, M, n, r', s', hH, hF, hM, hS, hn, h'⟩
  cases e : I.ds[i]? with
  | none =>
    have ed : I.ds.drop i = [] := List.drop_eq_nil_iff.mpr (List.getElem?_eq_none_iff.mp e)
    rw [ed] at h'
    obtain ⟨ok, hq⟩ := h'
    refine .inl ⟨(iS F' μ' H' s'.ex r' ok i).2 e, ?_⟩
    have ex : Ext F' (upd F' L (SetK W.P W.w L M n)) := Ext.new hF
    refine k (upd F' L (SetK W.P W.w L M n)) μ' H' (.set acc) (.ref L) ⟨fun a o e => ?_, fun a c e => ?_⟩ (s1.trans ⟨s'.ex.trans ex, s'.fr, fun a o e m f => ?_, s'.mn⟩) ⟨L, M, n, rfl, upd_same, hS⟩ hq
    · by_cases z : a = L
      · subst z
        rw [upd_same] at e
        rw [hH]
        exact e
      · rw [upd_ne z] at e
        exact r'.ex a o e
    · have z : a ≠ L := fun z => by
        subst z
        rw [hM] at e
        cases e
      rw [upd_ne z]
      obtain ⟨y1, y2⟩ := r'.cel a c e
      exact ⟨y1, y2.mono ex⟩
    · rw [upd_ne (ne_of_none e hL)]
      exact s'.nw a o e m f
  | some d =>
    have hlt : i < I.ds.length := (List.getElem?_eq_some_iff.mp e).1
    have ed : I.ds.drop i = d :: I.ds.drop (i + 1) := by
      rw [List.drop_eq_getElem_cons hlt, (List.getElem?_eq_some_iff.mp e).2]
    rw [ed] at h'
    obtain ⟨ok, hq⟩ := h'
    obtain ⟨hgo, hy⟩ := (iS F' μ' H' s'.ex r' ok i).1 d e
    refine .inr ⟨hgo, G (i + 1), fun H2 h2 => ⟨_, ?_, rfl, h2⟩, ?_⟩
    · rw [ed, List.length_cons]
      omega
    · intro x H2 hx
      obtain ⟨F2, r2, s2, ax⟩ := hy x H2 hx
      have slw := slAt_wipe (sl1.mono (s'.trans s2).ex) vs
      refine hg F2 μ' (wipeD ρ vs) (wipe σ vs) H2 d x _ _ r2 slw ax hq fun F3 μ3 H3 ρ3 σ3 r3 s3 sl3 hw q3 => ⟨hw.trans wipe_idem, ?_⟩
      refine ht F3 μ3 ρ3 σ3 H3 Xp0 _ _ r3 sl3 (fun _ _ _ _ _ _ _ _ _ z => z.elim) q3 fun F4 μ4 H4 b r4 s4 q4 => ?_
      have s24 := (s2.trans s3).trans s4
      cases b with
      | false =>
        rw [if_neg Bool.false_ne_true] at q4 ⊢
        exact ⟨F4, μ4, acc, M, n, r4, s'.trans s24, s24.fr _ _ hH hM, s24.nw _ _ hH hM hF, s24.mn _ _ hH hM, hS, hn, q4⟩
      | true =>
        rw [if_pos rfl] at q4 ⊢
        refine he F4 μ4 ρ3 σ3 H4 Xp0 _ _ r4 (sl3.mono s4.ex) (fun _ _ _ _ _ _ _ _ _ z => z.elim) q4 fun F5 μ5 H5 y v r5 s5 a5 ⟨ky, hky, hl, q5⟩ => ?_
        have s25 := s24.trans s5
        have hF5 := s25.nw _ _ hH hM hF
        have hM5 := s25.mn _ _ hH hM
        have s15 := s'.trans s25
        refine ⟨ky, M, n, key_at a5 hky, s25.fr _ _ hH hM, by have : scanBound = 4096 := rfl; omega, F5, μ5, acc ++ [ky], _, _, r5.other hF5 hM5, ⟨s15.ex, fun a o e m => ?_, s15.nw, s15.mn⟩, upd_same, hF5, hM5, fun j => ?_, ?_, q5⟩
        · rw [upd_ne (ne_of_none e hL)]
          exact s15.fr a o e m
        · rw [Bool.or_eq_true, decide_eq_true_iff, hS j, List.mem_append, List.mem_singleton]
        · rw [List.length_append, List.length_singleton]
          split <;> omega
theorem de_sc {own : List (Str × Nat)} (c : Ctx X WW) {elt tg iter : Expr} {ifs : List Expr} {scope : Scope} {pos : Pos} {wi : TI} {ai : AI} {ag : AG} {at_ : AT} {ae : AE} (hi : DI X WW tg iter wi ai) (ok : BlkOk X.N X.env.scope scope own)
    (hg : ∀ s H C cl fp, ∃ g, DGv (blkX X scope s H C cl fp) tg g ag (own.map (·.2))) (ht : ∀ s H C cl fp, ∃ tt, DTs (blkX X scope s H C cl fp) ifs tt at_) (he : ∀ s H C cl fp, ∃ te, DE (blkX X scope s H C cl fp) W0 elt te ae) (hs : ∀ x, foldedSetIterable iter X.env x = pure x := by intro _; rfl) :
    DE X WW (.SetComp elt [⟨tg, iter, ifs, 0⟩] scope pos) (tScK X.prog X.w wi (semG (wm X) (own.map (·.2)) ag) (semT (wm X) at_) (semE (wm X) ae) (own.map (·.2))) (aSc ai ag at_ ae (own.map (·.2))) :=
  ⟨pe_scK c.hc c.nd hi.p ok (fun s H C cl fp => (dgv_sem (hg s H C cl fp)).p) (fun s H C cl fp => (dts_sem (ht s H C cl fp)).p) (fun s H C cl fp => (de_sem (he s H C cl fp)).p) hs,
    sim_sc hi.s (dgv_sem (hg X.s_0 X.H_0 0 [] [])).s (dts_sem (ht X.s_0 X.H_0 0 [] [])).s (de_sem (he X.s_0 X.H_0 0 [] [])).s⟩
theorem ds_setSc {i : Nat} {own : List (Str × Nat)} (c : Ctx X WW) {y : Str} {py spos : Pos} {elt tg iter : Expr} {ifs : List Expr} {scope : Scope} {pos : Pos} {wi : TI} {ai : AI} {ag : AG} {at_ : AT} {ae : AE} (hi : DI X WW tg iter wi ai) (ok : BlkOk X.N X.env.scope scope own)
    (hsw : swapsWith (.SetComp elt [⟨tg, iter, ifs, 0⟩] scope pos) (some (.Name y py)) spos.line X.env = pure true)
    (hg : ∀ s H C cl fp, ∃ g, DGv (blkX X scope s H C cl fp) tg g ag (own.map (·.2))) (ht : ∀ s H C cl fp, ∃ tt, DTs (blkX X scope s H C cl fp) ifs tt at_) (he : ∀ s H C cl fp, ∃ te, DE (blkX X scope s H C cl fp) W0 elt te ae)
    (hy : X.N[i]? = some y := by rfl) (hyl : X.env.scope.names.lookup y = some .local := by rfl) (hs : ∀ x, foldedSetIterable iter X.env x = pure x := by intro _; rfl) :
    DS X WW (.Assign [.Name y py] (.SetComp elt [⟨tg, iter, ifs, 0⟩] scope pos) spos) (tAsg (tScK X.prog X.w wi (semG (wm X) (own.map (·.2)) ag) (semT (wm X) at_) (semE (wm X) ae) (own.map (·.2))) (gName i)) (sSet i (aSc ai ag at_ ae (own.map (·.2)))) :=
  ⟨ps_setScK c.hc c.nd hy hyl hsw hi.p ok (fun s H C cl fp => (dgv_sem (hg s H C cl fp)).p) (fun s H C cl fp => (dts_sem (ht s H C cl fp)).p) (fun s H C cl fp => (de_sem (he s H C cl fp)).p) hs,
    sim_set (sim_sc hi.s (dgv_sem (hg X.s_0 X.H_0 0 [] [])).s (dts_sem (ht X.s_0 X.H_0 0 [] [])).s (de_sem (he X.s_0 X.H_0 0 [] [])).s)⟩
end
end DL

namespace DL
open PySem PySem.Spec PyProof.Rows L2
theorem bt_len : bootBuiltins "len" = some (.builtin "len") := by decide +kernel
theorem bt_abs : bootBuiltins "abs" = some (.builtin "abs") := by decide +kernel
theorem bt_max : bootBuiltins "max" = some (.builtin "max") := by decide +kernel
theorem bt_min : bootBuiltins "min" = some (.builtin "min") := by decide +kernel
theorem bt_sum : bootBuiltins "sum" = some (.builtin "sum") := by decide +kernel
theorem bt_all : bootBuiltins "all" = some (.builtin "all") := by decide +kernel
theorem bt_sorted : bootBuiltins "sorted" = some (.builtin "sorted") := by decide +kernel
theorem bt_isinstance : bootBuiltins "isinstance" = some (.builtin "isinstance") := by decide +kernel
theorem bt_int : bootBuiltins "int" = some (.type "int") := by decide +kernel
theorem bt_str : bootBuiltins "str" = some (.type "str") := by decide +kernel
theorem bt_bool : bootBuiltins "bool" = some (.type "bool") := by decide +kernel
theorem bt_list : bootBuiltins "list" = some (.type "list") := by decide +kernel
theorem bt_tuple : bootBuiltins "tuple" = some (.type "tuple") := by decide +kernel
theorem bt_dict : bootBuiltins "dict" = some (.type "dict") := by decide +kernel
theorem bt_range : bootBuiltins "range" = some (.type "range") := by decide +kernel
section
variable {X : Cx} {WW : WX} {W : Wm} {p pos : Pos} {e : Expr} {es : List Expr} {t : TA} {aa : AA}
theorem de_len (hm : X.mg "len" = none) (ha : DA X WW (e :: es) t aa) (hg : Gl X "len" := by rfl) (he : starEach (e :: es) X.env = (false, eval e X.env) :: starEach es X.env := by rfl) (hpl : (backTo pos (starEach es X.env)).any (·.1) = false := by rfl) :
    DE X WW (.Call (.Name "len" p) (e :: es) [] pos) (tCB (rLenA X.K) t) (aCB fLen aa) := de_callB call_lenA sim_len hg hm bt_len ha (by decide) (by decide) he hpl
theorem de_abs (hm : X.mg "abs" = none) (ha : DA X WW (e :: es) t aa) (hg : Gl X "abs" := by rfl) (he : starEach (e :: es) X.env = (false, eval e X.env) :: starEach es X.env := by rfl) (hpl : (backTo pos (starEach es X.env)).any (·.1) = false := by rfl) :
    DE X WW (.Call (.Name "abs" p) (e :: es) [] pos) (tCB (fun xs H Q => ∃ i, xs = [V.int i] ∧ Q (.int (if i < 0 then -i else i)) H) t) (aCB fAbs aa) := de_callB call_abs sim_abs hg hm bt_abs ha (by decide) (by decide) he hpl
theorem de_max2 (c : Ctx X WW) (hm : X.mg "max" = none) (ha : DA X WW (e :: es) t aa) (hg : Gl X "max" := by rfl) (he : starEach (e :: es) X.env = (false, eval e X.env) :: starEach es X.env := by rfl) (hpl : (backTo pos (starEach es X.env)).any (·.1) = false := by rfl) :
    DE X WW (.Call (.Name "max" p) (e :: es) [] pos) (tCB (fun xs H Q => ∃ i j, xs = [V.int i, .int j] ∧ Q (.int (if j > i then j else i)) H) t) (aCB fMax2 aa) := de_callB (call_max2 c.hc) sim_max2 hg hm bt_max ha (by decide) (by decide) he hpl
theorem de_min2 (c : Ctx X WW) (hm : X.mg "min" = none) (ha : DA X WW (e :: es) t aa) (hg : Gl X "min" := by rfl) (he : starEach (e :: es) X.env = (false, eval e X.env) :: starEach es X.env := by rfl) (hpl : (backTo pos (starEach es X.env)).any (·.1) = false := by rfl) :
    DE X WW (.Call (.Name "min" p) (e :: es) [] pos) (tCB (fun xs H Q => ∃ i j, xs = [V.int i, .int j] ∧ Q (.int (if j < i then j else i)) H) t) (aCB fMin2 aa) := de_callB (call_min2 c.hc) sim_min2 hg hm bt_min ha (by decide) (by decide) he hpl
theorem de_int1 (hm : X.mg "int" = none) (ha : DA X WW (e :: es) t aa) (hg : Gl X "int" := by rfl) (he : starEach (e :: es) X.env = (false, eval e X.env) :: starEach es X.env := by rfl) (hpl : (backTo pos (starEach es X.env)).any (·.1) = false := by rfl) :
    DE X WW (.Call (.Name "int" p) (e :: es) [] pos) (tCB (fun xs H Q => (∃ i, xs = [V.int i] ∧ Q (.int i) H) ∨ ∃ k, xs = [V.bl k] ∧ Q (.int (if k then 1 else 0)) H) t) (aCB fInt aa) := de_callTy call_int1 sim_int1 hg hm bt_int ha (by decide) (by decide) he hpl
theorem de_strI (hm : X.mg "str" = none) (ha : DA X WW (e :: es) t aa) (hg : Gl X "str" := by rfl) (he : starEach (e :: es) X.env = (false, eval e X.env) :: starEach es X.env := by rfl) (hpl : (backTo pos (starEach es X.env)).any (·.1) = false := by rfl) :
    DE X WW (.Call (.Name "str" p) (e :: es) [] pos) (tCB (fun xs H Q => ∃ i, xs = [V.int i] ∧ i.natAbs.log2 < 1920 ∧ Q (.str (toString i)) H) t) (aCB fStrI aa) := de_callTy call_str_int sim_strI hg hm bt_str ha (by decide) (by decide) he hpl
theorem de_list (hm : X.mg "list" = none) (ha : DA X WW (e :: es) t aa) (hg : Gl X "list" := by rfl) (he : starEach (e :: es) X.env = (false, eval e X.env) :: starEach es X.env := by rfl) (hpl : (backTo pos (starEach es X.env)).any (·.1) = false := by rfl) :
    DE X WW (.Call (.Name "list" p) (e :: es) [] pos) (tCB (rListOf X.K) t) (aCB fList aa) := de_callTy call_list_of sim_list hg hm bt_list ha (by decide) (by decide) he hpl
theorem de_listM (hm : X.mg "list" = none) (ha : DA X WW (e :: es) t aa) (hg : Gl X "list" := by rfl) (he : starEach (e :: es) X.env = (false, eval e X.env) :: starEach es X.env := by rfl) (hpl : (backTo pos (starEach es X.env)).any (·.1) = false := by rfl) :
    DE X WW (.Call (.Name "list" p) (e :: es) [] pos) (tCB (rListOf X.K) t) (aCB fListM aa) := de_callTy call_list_of sim_listM hg hm bt_list ha (by decide) (by decide) he hpl
theorem de_tuple (hm : X.mg "tuple" = none) (ha : DA X WW (e :: es) t aa) (hg : Gl X "tuple" := by rfl) (he : starEach (e :: es) X.env = (false, eval e X.env) :: starEach es X.env := by rfl) (hpl : (backTo pos (starEach es X.env)).any (·.1) = false := by rfl) :
    DE X WW (.Call (.Name "tuple" p) (e :: es) [] pos) (tCB (rTupOf X.K) t) (aCB fTuple aa) := de_callTy call_tuple_of sim_tuple hg hm bt_tuple ha (by decide) (by decide) he hpl
theorem de_isi (hm : X.mg "isinstance" = none) (ha : DA X WW (e :: es) t aa) (hg : Gl X "isinstance" := by rfl) (he : starEach (e :: es) X.env = (false, eval e X.env) :: starEach es X.env := by rfl) (hpl : (backTo pos (starEach es X.env)).any (·.1) = false := by rfl) :
    DE X WW (.Call (.Name "isinstance" p) (e :: es) [] pos) (tCB (rIsi X.K) t) (aCB fIsi aa) := de_callB call_isi sim_isi hg hm bt_isinstance ha (by decide) (by decide) he hpl
/-- a built-in type as a value -/
theorem de_ty {x : Str} {n : String} (hm : X.mg x = none) (hg : Gl X x := by rfl) (hv : bootBuiltins x = some (.type n) := by first | exact bt_int | exact bt_bool | exact bt_str | exact bt_list | exact bt_tuple | exact bt_dict) (hn : x ≠ "__name__" := by decide) (hd : (x == ("__debug__" : Str)) = false := by decide) :
    DE X WW (.Name x pos) (tC (.ty n)) (aC (.ty n)) := ⟨pe_bltn hg hm hv rfl hn hd, sim_c fun _ => rfl⟩
/-- a module's int, a module's text -/
theorem de_gint {x : Str} {n : Int} {tk : Tok} (hm : X.mg x = some (.int n tk)) (hg : Gl X x := by rfl) (hd : (x == ("__debug__" : Str)) = false := by decide) : DE X WW (.Name x pos) (tC (.int n)) (aC (.int n)) := ⟨pe_glob hg hm ⟨tk, rfl⟩ hd, sim_c fun _ => rfl⟩
theorem de_gstr {x : Str} {s : Str} {tk : Tok} (hm : X.mg x = some (.str s tk)) (hg : Gl X x := by rfl) (hd : (x == ("__debug__" : Str)) = false := by decide) : DE X WW (.Name x pos) (tC (.str s)) (aC (.str s)) := ⟨pe_glob hg hm ⟨tk, rfl⟩ hd, sim_c fun _ => rfl⟩
end
end DL

namespace DL
open PySem PySem.Spec PyProof.Rows L2
/-! ### reckoning -/
theorem ofList_eq (l : List Nat) (m : List Nat) : (Str.mk l.toArray = Str.mk m.toArray) ↔ l = m := by
  constructor
  · intro h
    have := congrArg (fun s : Str => s.cps.toList) h
    simpa using this
  · intro h
    rw [h]
theorem char_inj {l m : List Char} (h : l.map Char.toNat = m.map Char.toNat) : l = m := by
  induction l generalizing m with
  | nil => cases m with
    | nil => rfl
    | cons a m => simp at h
  | cons a l ih => cases m with
    | nil => simp at h
    | cons b m =>
      simp only [List.map_cons, List.cons.injEq] at h
      have e : a = b := Char.toNat_inj.mp h.1
      rw [e, ih h.2]
@[simp] theorem ofString_inj (a b : String) : (Str.ofString a = Str.ofString b) ↔ a = b := by
  constructor
  · intro h
    rw [Str.ofString_eq_toList, Str.ofString_eq_toList, ofList_eq] at h
    have := char_inj h
    exact String.ext this
  · intro h
    rw [h]
@[simp] theorem atI_0 {α : Type} {a : α} {r : List α} : atI (a :: r) 0 = some a := by
  unfold atI ixN
  rw [if_pos (by omega), if_pos (by rw [List.length_cons]; omega)]
  rfl
@[simp] theorem atI_1 {α : Type} {a b : α} {r : List α} : atI (a :: b :: r) 1 = some b := by
  unfold atI ixN
  rw [if_pos (by omega), if_pos (by rw [List.length_cons, List.length_cons]; omega)]
  rfl
@[simp] theorem atI_2 {α : Type} {a b c : α} {r : List α} : atI (a :: b :: c :: r) 2 = some c := by
  unfold atI ixN
  rw [if_pos (by omega), if_pos (by rw [List.length_cons, List.length_cons, List.length_cons]; omega)]
  rfl
theorem atI_nat' {α : Type} {xs : List α} {j : Nat} : atI xs (j : Int) = xs[j]? := by
  unfold atI ixN
  rw [if_pos (by omega)]
  by_cases h : j < xs.length
  · rw [if_pos (by omega)]
    rfl
  · rw [if_neg (by omega), List.getElem?_eq_none (by omega)]
    rfl
@[simp] theorem atI_last' {α : Type} {xs : List α} {x : α} : atI (xs ++ [x]) (-1) = some x := by
  unfold atI ixN
  rw [if_neg (by omega), if_pos (by rw [List.length_append, List.length_singleton]; omega)]
  rw [List.length_append, List.length_singleton]
  have e : (-1 + ((xs.length + 1 : Nat) : Int)).toNat = xs.length := by omega
  rw [e]
  simp
@[simp] theorem ixOf_tup {μ : Mu} {ds : List Dat} {i : Int} {z : Dat} : ixOf μ (.tup ds) (.int i) z ↔ atI ds i = some z := by
  simp [ixOf, dicOf]
@[simp] theorem ixOf_lst {μ : Mu} {ds : List Dat} {i : Int} {z : Dat} : ixOf μ (.lst ds) (.int i) z ↔ atI ds i = some z := by
  simp [ixOf, dicOf]
@[simp] theorem ixOf_ro {μ : Mu} {ds : List Dat} {i : Int} {z : Dat} : ixOf μ (.ro ds) (.int i) z ↔ atI ds i = some z := by
  simp [ixOf, dicOf]
theorem ixOf_cell {μ : Mu} {a : Addr} {ds : List Dat} {i : Int} {z : Dat} (h : μ a = some (.lst ds)) : ixOf μ (.cell a) (.int i) z ↔ atI ds i = some z := by
  simp [ixOf, dicOf, h, seqOf]
@[simp] theorem ixOf_str {μ : Mu} {s : Str} {i : Int} {z : Dat} : ixOf μ (.str s) (.int i) z ↔ s.length ≤ 16777216 ∧ ∃ c, atI s.cps.toList i = some c ∧ z = .str ⟨#[c]⟩ := by
  simp [ixOf]
@[simp] theorem fEq_int {i j : Int} {μ : Mu} {Q : AQ} : fEq (.int i) (.int j) μ Q ↔ Q (.bl (decide (i = j))) μ := by simp [fEq, eqB]
@[simp] theorem fEq_str {i j : Str} {μ : Mu} {Q : AQ} : fEq (.str i) (.str j) μ Q ↔ Q (.bl (decide (i = j))) μ := by simp [fEq, eqB]
@[simp] theorem fEq_bl {i j : Bool} {μ : Mu} {Q : AQ} : fEq (.bl i) (.bl j) μ Q ↔ Q (.bl (decide (i = j))) μ := by simp [fEq, eqB]
@[simp] theorem fNe_int {i j : Int} {μ : Mu} {Q : AQ} : fNe (.int i) (.int j) μ Q ↔ Q (.bl (!decide (i = j))) μ := by simp [fNe, eqB]
@[simp] theorem fNe_str {i j : Str} {μ : Mu} {Q : AQ} : fNe (.str i) (.str j) μ Q ↔ Q (.bl (!decide (i = j))) μ := by simp [fNe, eqB]
@[simp] theorem fNe_bl {i j : Bool} {μ : Mu} {Q : AQ} : fNe (.bl i) (.bl j) μ Q ↔ Q (.bl (!decide (i = j))) μ := by simp [fNe, eqB]
theorem shaped_nil : SeqAt.shaped (.list []) = true := by decide +kernel
/-- a list against [] -/
theorem pyOfL_len : ∀ {ds : List Dat} {xs : List PyData}, pyOfL ds = some xs → ds.length = xs.length
  | [], _, h => by cases h; rfl
  | d :: ds, _, h => by
    simp only [pyOfL] at h
    cases q : pyOf d with
    | none => rw [q] at h; cases h
    | some x => cases q2 : pyOfL ds with
      | none => rw [q, q2] at h; cases h
      | some xs => rw [q, q2] at h; cases h; rw [List.length_cons, List.length_cons, pyOfL_len q2]
@[simp] theorem fAdd_int {i j : Int} {μ : Mu} {Q : AQ} : fAdd (.int i) (.int j) μ Q ↔ Q (.int (i + j)) μ := by simp [fAdd]
@[simp] theorem fAdd_str {i j : Str} {μ : Mu} {Q : AQ} : fAdd (.str i) (.str j) μ Q ↔ i.length + j.length ≤ 16777216 ∧ Q (.str (i ++ j)) μ := by simp [fAdd]
@[simp] theorem fAdd_lst {a b : List Dat} {μ : Mu} {Q : AQ} : fAdd (.lst a) (.lst b) μ Q ↔ a.length + b.length ≤ 16777216 ∧ Q (.lst (a ++ b)) μ := by simp [fAdd, lstOf]
@[simp] theorem lenOf_tup {μ : Mu} {ds : List Dat} {n : Nat} : lenOf μ (.tup ds) n ↔ n = ds.length := by simp [lenOf, dicOf]
@[simp] theorem lenOf_lst {μ : Mu} {ds : List Dat} {n : Nat} : lenOf μ (.lst ds) n ↔ n = ds.length := by simp [lenOf, dicOf]
@[simp] theorem lenOf_ro {μ : Mu} {ds : List Dat} {n : Nat} : lenOf μ (.ro ds) n ↔ n = ds.length := by simp [lenOf, dicOf]
@[simp] theorem lenOf_str {μ : Mu} {s : Str} {n : Nat} : lenOf μ (.str s) n ↔ s.length ≤ 16777216 ∧ n = s.length := by simp [lenOf]
theorem lenOf_cell {μ : Mu} {a : Addr} {ds : List Dat} {n : Nat} (h : μ a = some (.lst ds)) : lenOf μ (.cell a) n ↔ n = ds.length := by simp [lenOf, dicOf, h, seqOf]
@[simp] theorem truB_bl {μ : Mu} {b c : Bool} : truB μ (.bl b) c ↔ c = b := by simp [truB]
@[simp] theorem truB_int {μ : Mu} {i : Int} {c : Bool} : truB μ (.int i) c ↔ c = decide (i ≠ 0) := by simp [truB]
@[simp] theorem truB_non {μ : Mu} {c : Bool} : truB μ .non c ↔ c = false := by simp [truB]
@[simp] theorem truB_lst {μ : Mu} {ds : List Dat} {c : Bool} : truB μ (.lst ds) c ↔ c = !ds.isEmpty := by simp [truB, dicOf]
theorem truB_cell {μ : Mu} {a : Addr} {ds : List Dat} {c : Bool} (h : μ a = some (.lst ds)) : truB μ (.cell a) c ↔ c = !ds.isEmpty := by simp [truB, dicOf, h, seqOf]
@[simp] theorem isNon_tup {ds : List Dat} : isNon (.tup ds) = false := rfl
@[simp] theorem isNon_lst {ds : List Dat} : isNon (.lst ds) = false := rfl
@[simp] theorem isNon_int {i : Int} : isNon (.int i) = false := rfl
@[simp] theorem isNon_str {i : Str} : isNon (.str i) = false := rfl
@[simp] theorem isNon_bl {i : Bool} : isNon (.bl i) = false := rfl
@[simp] theorem isNon_non : isNon .non = true := rfl
theorem mset_same' {μ : Mu} {a : Addr} {c : Cell} : mset μ a c a = some c := mset_same
end DL

namespace DL
open PySem PySem.Spec PyProof.Rows L2
section
variable {Xp : XP} {ρ : Sl} {μ : Mu} {Q : AQ} {QA : List Dat → Mu → Prop} {QB : Bool → Mu → Prop} {D : AEnds} {a b e : AE} {t u : AT} {aa bb : AA} {s s' : AS} {i : Nat} {d : Dat} {C : Con}
@[simp] theorem u_var : aVar i Xp ρ μ Q = (∃ d, ρ[i]? = some (some d) ∧ Q d μ) := rfl
@[simp] theorem u_c : aC d Xp ρ μ Q = Q d μ := rfl
@[simp] theorem u_op {f : A2} : aOp f a b Xp ρ μ Q = a Xp ρ μ fun x μ1 => b Xp ρ μ1 fun y μ2 => f x y μ2 Q := rfl
@[simp] theorem u_un {f : A1} : aUn f a Xp ρ μ Q = a Xp ρ μ fun x μ1 => f x μ1 Q := rfl
@[simp] theorem u_nil : aNil Xp ρ μ QA = QA [] μ := rfl
@[simp] theorem u_cons : aCons a aa Xp ρ μ QA = a Xp ρ μ fun x μ1 => aa Xp ρ μ1 fun xs μ2 => QA (x :: xs) μ2 := rfl
@[simp] theorem u_tup : aTup aa Xp ρ μ Q = aa Xp ρ μ fun xs μ1 => xs.length ≤ 16777216 ∧ Q (.tup xs) μ1 := rfl
@[simp] theorem u_lst : aLst aa Xp ρ μ Q = aa Xp ρ μ fun xs μ1 => xs.length ≤ 16777216 ∧ Q (.lst xs) μ1 := rfl
@[simp] theorem u_lstM : aLstM aa Xp ρ μ Q = aa Xp ρ μ fun xs μ1 => xs.length ≤ 16777216 ∧ ∀ p, μ1 p = none → Q (.cell p) (mset μ1 p (.lst xs)) := rfl
@[simp] theorem u_frz : aFrz a Xp ρ μ Q = a Xp ρ μ fun x μ1 => ∃ p ds, x = .cell p ∧ μ1 p = some (.lst ds) ∧ Q (.lst ds) (mdel μ1 p) := rfl
@[simp] theorem u_II {K : Int → Int → Prop} {g : Int → Int → Dat} {x y : Int} : fII K g (.int x) (.int y) μ Q ↔ K x y ∧ Q (g x y) μ := by simp [fII]
@[simp] theorem u_II0 {g : Int → Int → Dat} {x y : Int} : fII0 g (.int x) (.int y) μ Q ↔ Q (g x y) μ := by simp [fII0]
@[simp] theorem u_mulI {x y : Int} : fMul (.int x) (.int y) μ Q ↔ ((-18446744073709551616 < x ∧ x < 18446744073709551616) ∨ (-18446744073709551616 < y ∧ y < 18446744073709551616)) ∧ Q (.int (x * y)) μ := by simp [fMul, fMulI]
@[simp] theorem u_neg {x : Int} : fNeg (.int x) μ Q ↔ Q (.int (-x)) μ := by simp [fNeg]
@[simp] theorem u_not : aNot a Xp ρ μ Q = a Xp ρ μ fun x μ1 => ∃ b, x = .bl b ∧ Q (.bl (!b)) μ1 := rfl
@[simp] theorem u_ix {x y : Dat} : fIx x y μ Q = ∃ z, ixOf μ x y z ∧ Q z μ := rfl
@[simp] theorem u_is {x : Dat} : fIs x .non μ Q ↔ Q (.bl (isNon x)) μ := by simp [fIs]
@[simp] theorem u_isNot {x : Dat} : fIsNot x .non μ Q ↔ Q (.bl (!isNon x)) μ := by simp [fIsNot]
@[simp] theorem u_in {x y : Dat} : fIn x y μ Q = ∃ b, inB μ x y b ∧ Q (.bl b) μ := rfl
@[simp] theorem u_notIn {x y : Dat} : fNotIn x y μ Q = ∃ b, inB μ x y b ∧ Q (.bl (!b)) μ := rfl
@[simp] theorem u_noPart {QO : Option Int → Mu → Prop} : aNoPart Xp ρ μ QO = QO none μ := rfl
@[simp] theorem u_part {QO : Option Int → Mu → Prop} : aPart a Xp ρ μ QO = a Xp ρ μ fun x μ1 => ∃ i, x = .int i ∧ QO (some i) μ1 := rfl
@[simp] theorem u_sl {f : ASl} {lo hi : AO} : aSl f a lo hi Xp ρ μ Q = a Xp ρ μ fun x μ1 => lo Xp ρ μ1 fun l μ2 => hi Xp ρ μ2 fun u μ3 => f x l u μ3 Q := rfl
@[simp] theorem u_fsl_tup {ds : List Dat} {lo hi : Option Int} : fSl (.tup ds) lo hi μ Q = Q (.tup (cutD ds lo hi)) μ := rfl
@[simp] theorem u_fsl_lst {ds : List Dat} {lo hi : Option Int} : fSl (.lst ds) lo hi μ Q ↔ Q (.lst (cutD ds lo hi)) μ := by simp [fSl, rolOf]
@[simp] theorem u_fsl_str {z : Str} {lo hi : Option Int} : fSl (.str z) lo hi μ Q = (z.length ≤ 16777216 ∧ Q (.str (cutS z lo hi)) μ) := rfl
@[simp] theorem u_rev : aRev a Xp ρ μ Q = a Xp ρ μ fun x μ1 => ∃ ds, rolOf μ1 x = some ds ∧ Q (.lst ds.reverse) μ1 := rfl
@[simp] theorem rolOf_lst {ds : List Dat} : rolOf μ (.lst ds) = some ds := rfl
@[simp] theorem rolOf_ro {ds : List Dat} : rolOf μ (.ro ds) = some ds := rfl
@[simp] theorem u_tstB : tstB a Xp ρ μ QB = a Xp ρ μ fun x μ1 => ∃ b, x = .bl b ∧ QB b μ1 := rfl
@[simp] theorem u_tstV : tstV a Xp ρ μ QB = a Xp ρ μ fun x μ1 => ∃ b, truB μ1 x b ∧ QB b μ1 := rfl
@[simp] theorem u_tstAnd : tstAnd t u Xp ρ μ QB = t Xp ρ μ fun b μ1 => if b = true then u Xp ρ μ1 QB else QB false μ1 := rfl
@[simp] theorem u_tstOr : tstOr t u Xp ρ μ QB = t Xp ρ μ fun b μ1 => if b = true then QB true μ1 else u Xp ρ μ1 QB := rfl
@[simp] theorem u_tstNot : tstNot t Xp ρ μ QB = t Xp ρ μ fun b μ1 => QB (!b) μ1 := rfl
@[simp] theorem u_tstYes : tstYes Xp ρ μ QB = QB true μ := rfl
@[simp] theorem u_and : aAnd a b Xp ρ μ Q = a Xp ρ μ fun x μ1 => ∃ c, x = .bl c ∧ if c = true then b Xp ρ μ1 Q else Q (.bl false) μ1 := rfl
@[simp] theorem u_or : aOr a b Xp ρ μ Q = a Xp ρ μ fun x μ1 => ∃ c, x = .bl c ∧ if c = true then Q (.bl true) μ1 else b Xp ρ μ1 Q := rfl
@[simp] theorem u_if : aIf t a b Xp ρ μ Q = t Xp ρ μ fun c μ1 => if c = true then a Xp ρ μ1 Q else b Xp ρ μ1 Q := rfl
@[simp] theorem u_chain {f g : A2} : aChain f g a b e Xp ρ μ Q = a Xp ρ μ fun x μ1 => b Xp ρ μ1 fun y μ2 => f x y μ2 fun z μ3 => ∃ k, z = .bl k ∧ if k = true then e Xp ρ μ3 fun w μ4 => g y w μ4 Q else Q (.bl false) μ3 := rfl
@[simp] theorem u_cb {f : AN} : aCB f aa Xp ρ μ Q = aa Xp ρ μ fun ds μ1 => f ds μ1 Q := rfl
@[simp] theorem u_len {x : Dat} : fLen [x] μ Q ↔ ∃ n, lenOf μ x n ∧ Q (.int n) μ := by simp [fLen]
@[simp] theorem u_abs {x : Int} : fAbs [.int x] μ Q ↔ Q (.int (if x < 0 then -x else x)) μ := by simp [fAbs]
@[simp] theorem u_int {x : Int} : fInt [.int x] μ Q ↔ Q (.int x) μ := by simp [fInt]
@[simp] theorem u_strI {x : Int} : fStrI [.int x] μ Q ↔ x.natAbs.log2 < 1920 ∧ Q (.str (toString x)) μ := by simp [fStrI]
@[simp] theorem u_max2 {x y : Int} : fMax2 [.int x, .int y] μ Q ↔ Q (.int (if y > x then y else x)) μ := ⟨fun ⟨_, _, e, q⟩ => by cases e; exact q, fun q => ⟨x, y, rfl, q⟩⟩
@[simp] theorem u_min2 {x y : Int} : fMin2 [.int x, .int y] μ Q ↔ Q (.int (if y < x then y else x)) μ := ⟨fun ⟨_, _, e, q⟩ => by cases e; exact q, fun q => ⟨x, y, rfl, q⟩⟩
@[simp] theorem u_list {x : Dat} : fList [x] μ Q ↔ ∃ es, seqOf μ x = some es ∧ Q (.lst es) μ := by simp [fList]
@[simp] theorem u_listM {x : Dat} : fListM [x] μ Q ↔ ∃ es, seqOf μ x = some es ∧ ∀ p, μ p = none → Q (.cell p) (mset μ p (.lst es)) := by simp [fListM]
@[simp] theorem u_tuple {x : Dat} : fTuple [x] μ Q ↔ ∃ es, seqOf μ x = some es ∧ Q (.tup es) μ := by simp [fTuple]
@[simp] theorem u_isiT : aIsiT a aa Xp ρ μ Q = a Xp ρ μ fun x μ1 => aa Xp ρ μ1 fun ds μ2 => ∃ Ts t, ds = Ts.map Dat.ty ∧ (∀ T ∈ Ts, isiT T) ∧ ds.length ≤ 16777216 ∧ tyD μ2 x = some t ∧ Q (.bl (isiAny t Ts)) μ2 := rfl
@[simp] theorem u_call : aCall C aa Xp ρ μ Q = aa Xp ρ μ fun ds μ1 => C ds μ1 Q fun x μ2 => Xp x ρ μ2 := rfl
@[simp] theorem u_bm {T : String} {f : AM} : aBM T f a aa Xp ρ μ Q = a Xp ρ μ fun x μ1 => tyOk T μ1 x ∧ aa Xp ρ μ1 fun ds μ2 => f x ds μ2 Q := rfl
@[simp] theorem u_bm0 {T : String} {f : AM} : aBM0 T f a Xp ρ μ Q = a Xp ρ μ fun x μ1 => tyOk T μ1 x ∧ f x [] μ1 Q := rfl
@[simp] theorem u_app {p : Addr} : fApp (.cell p) [d] μ Q ↔ ∃ es, μ p = some (.lst es) ∧ es.length < 16777216 ∧ Q .non (mset μ p (.lst (es ++ [d]))) := by simp [fApp]
@[simp] theorem u_ext {p : Addr} : fExt (.cell p) [d] μ Q ↔ ∃ es fs, μ p = some (.lst es) ∧ lstOf μ d = some fs ∧ es.length + fs.length ≤ 16777216 ∧ Q .non (mset μ p (.lst (es ++ fs))) := by simp [fExt]
@[simp] theorem u_pop {p : Addr} : fPop (.cell p) [] μ Q ↔ ∃ es d, μ p = some (.lst (es ++ [d])) ∧ Q d (mset μ p (.lst es)) := by simp [fPop]
@[simp] theorem u_popAt {p : Addr} {k : Int} : fPopAt (.cell p) [.int k] μ Q ↔ ∃ es j d, μ p = some (.lst es) ∧ ixN es.length k = some j ∧ es.length ≤ 16777216 ∧ es[j]? = some d ∧ Q d (mset μ p (.lst (es.eraseIdx j))) := by simp [fPopAt]
theorem tyOk_list {x : Dat} : tyOk "list" μ x ↔ ∃ ds, lstOf μ x = some ds := by simp [tyOk]
theorem tyOk_cell {p : Addr} {ds : List Dat} (h : μ p = some (.lst ds)) : tyOk "list" μ (.cell p) := .inl ⟨rfl, ds, lstOf_cell h⟩
@[simp] theorem u_next : sNext D ρ μ = D.nx ρ μ := rfl
@[simp] theorem u_seq : sSeq s s' D ρ μ = s { D with nx := s' D } ρ μ := rfl
@[simp] theorem u_set : sSet i a D ρ μ = a D.ex ρ μ fun d μ1 => D.nx (ρ.set i (some d)) μ1 := rfl
@[simp] theorem u_drop : sDrop a D ρ μ = a D.ex ρ μ fun _ μ1 => D.nx ρ μ1 := rfl
@[simp] theorem u_ret : sRet a D ρ μ = a D.ex ρ μ D.rt := rfl
@[simp] theorem u_retN : sRetN D ρ μ = D.rt .non μ := rfl
@[simp] theorem u_ifS : sIf t s s' D ρ μ = t D.ex ρ μ fun c μ1 => if c = true then s D ρ μ1 else s' D ρ μ1 := rfl
@[simp] theorem u_break : sBreak D ρ μ = D.bk ρ μ := rfl
@[simp] theorem u_cont : sCont D ρ μ = D.ct ρ μ := rfl
@[simp] theorem u_nm {R : Sl → Mu → Prop} : gNm i Xp d ρ μ R = R (ρ.set i (some d)) μ := rfl
@[simp] theorem u_gnil {R : Sl → Mu → Prop} : gNil_ [] ρ μ R ↔ R ρ μ := by simp [gNil_]
@[simp] theorem u_gcons {R : Sl → Mu → Prop} {g : AGs} {d : Dat} {ds : List Dat} : gCons_ i g (d :: ds) ρ μ R ↔ g ds (ρ.set i (some d)) μ R := by
  constructor
  · rintro ⟨d', es, e, h⟩
    cases e
    exact h
  · intro h
    exact ⟨d, ds, rfl, h⟩
@[simp] theorem u_gtup {R : Sl → Mu → Prop} {g : AGs} {n : Nat} {ds : List Dat} : gTupN n g Xp (.tup ds) ρ μ R ↔ ds.length = n ∧ g ds ρ μ R := by
  constructor
  · rintro ⟨d', e, h⟩
    cases e
    exact h
  · intro h
    exact ⟨ds, rfl, h⟩
@[simp] theorem u_asg {g : AG} : sAsg a g D ρ μ = a D.ex ρ μ fun d μ1 => g D.ex d ρ μ1 D.nx := rfl
@[simp] theorem u_gix {R : Sl → Mu → Prop} : gIx a b Xp d ρ μ R = a Xp ρ μ fun x μ1 => b Xp ρ μ1 fun y μ2 => ∃ p es i j, x = .cell p ∧ y = .int i ∧ μ2 p = some (.lst es) ∧ ixN es.length i = some j ∧ R ρ (mset μ2 p (.lst (es.set j d))) := rfl
@[simp] theorem u_aug {f : A2} : sAug i a f D ρ μ = ∃ x, ρ[i]? = some (some x) ∧ a D.ex ρ μ fun y μ1 => f x y μ1 fun z μ2 => D.nx (ρ.set i (some z)) μ2 := rfl
@[simp] theorem u_raise {x : Str} : sRaise x D ρ μ = D.ex ⟨x, none⟩ ρ μ := rfl
@[simp] theorem u_iseq {R : AIt → Mu → Prop} : iSeq a Xp ρ μ R = a Xp ρ μ fun x μ1 => ∃ ds, seqOf μ1 x = some ds ∧ R ⟨ds, okOf μ1 x⟩ μ1 := rfl
@[simp] theorem u_rg1 {R : AIt → Mu → Prop} : iRg1 aa Xp ρ μ R = aa Xp ρ μ fun ds μ1 => ∃ j : Int, ds = [.int j] ∧ -4611686018427387904 ≤ j ∧ j < 4611686018427387904 ∧ R ⟨rngD 0 j.toNat, fun _ => True⟩ μ1 := rfl
@[simp] theorem u_rg2 {R : AIt → Mu → Prop} : iRg2 aa Xp ρ μ R = aa Xp ρ μ fun ds μ1 => ∃ i j : Int, ds = [.int i, .int j] ∧ (-4611686018427387904 ≤ i ∧ i < 4611686018427387904 ∧ -4611686018427387904 ≤ j ∧ j < 4611686018427387904) ∧ R ⟨rngD i (j - i).toNat, fun _ => True⟩ μ1 := rfl
@[simp] theorem u_en {R : AIt → Mu → Prop} : iEn a Xp ρ μ R = a Xp ρ μ fun x μ1 => ∃ ds, rolOf μ1 x = some ds ∧ R ⟨enumD ds, okOf μ1 x⟩ μ1 := rfl
@[simp] theorem u_zp {R : AIt → Mu → Prop} : iZp a b Xp ρ μ R = a Xp ρ μ fun x μ1 => b Xp ρ μ1 fun y μ2 => ∃ ds es, rolOf μ2 x = some ds ∧ rolOf μ2 y = some es ∧ R ⟨zipD ds es, fun μ => okOf μ2 x μ ∧ okOf μ2 y μ⟩ μ2 := rfl
@[simp] theorem okOf_lst {ds : List Dat} {μ' : Mu} : okOf μ (.lst ds) μ' = True := rfl
@[simp] theorem okOf_tup {ds : List Dat} {μ' : Mu} : okOf μ (.tup ds) μ' = True := rfl
@[simp] theorem okOf_ro {ds : List Dat} {μ' : Mu} : okOf μ (.ro ds) μ' = True := rfl
@[simp] theorem u_for {ai : AI} {g : AG} : sFor ai g s D ρ μ = ai D.ex ρ μ fun I μ1 => forL I.ok g s D I.ds ρ μ1 := rfl
@[simp] theorem u_forL_nil {ok : Mu → Prop} {g : AG} : forL ok g s D [] ρ μ = (ok μ ∧ D.nx ρ μ) := rfl
@[simp] theorem u_forL_cons {ok : Mu → Prop} {g : AG} {r : List Dat} : forL ok g s D (d :: r) ρ μ = (ok μ ∧ g D.ex d ρ μ fun ρ' μ' => s { D with nx := forL ok g s D r, ct := forL ok g s D r, bk := D.nx } ρ' μ') := rfl
@[simp] theorem u_lc {ai : AI} {g : AG} {vs : List Nat} : aLc ai g t e vs Xp ρ μ Q = ai Xp ρ μ fun I μ1 => lcL I.ok g t e (wipeD ρ vs) (fun acc μ2 => Q (.lst acc) μ2) I.ds [] μ1 := rfl
@[simp] theorem u_lcM {ai : AI} {g : AG} {vs : List Nat} : aLcM ai g t e vs Xp ρ μ Q = ai Xp ρ μ fun I μ1 => lcL I.ok g t e (wipeD ρ vs) (fun acc μ2 => ∀ p, μ2 p = none → Q (.cell p) (mset μ2 p (.lst acc))) I.ds [] μ1 := rfl
@[simp] theorem u_sc {ai : AI} {g : AG} {vs : List Nat} : aSc ai g t e vs Xp ρ μ Q = ai Xp ρ μ fun I μ1 => scL I.ok g t e (wipeD ρ vs) (fun acc μ2 => Q (.set acc) μ2) I.ds [] μ1 := rfl
@[simp] theorem wipeD_nil : wipeD ρ [] = ρ := rfl
@[simp] theorem wipeD_cons {v : Nat} {vs : List Nat} : wipeD ρ (v :: vs) = (wipeD ρ vs).set v none := rfl
@[simp] theorem lstOf_cell' {p : Addr} {ds : List Dat} : lstOf μ (.cell p) = some ds ↔ μ p = some (.lst ds) := by
  constructor
  · intro h
    simp only [lstOf] at h
    split at h
    · rename_i es q
      cases h
      exact q
    · cases h
  · exact lstOf_cell
@[simp] theorem seqOf_cell' {p : Addr} {ds : List Dat} : seqOf μ (.cell p) = some ds ↔ μ p = some (.lst ds) := by
  rw [← lstOf_cell']
  rfl
@[simp] theorem rolOf_cell' {p : Addr} {ds : List Dat} : rolOf μ (.cell p) = some ds ↔ μ p = some (.lst ds) := by
  rw [← lstOf_cell']
  rfl
@[simp] theorem dicOf_cell' {p : Addr} {ks : List Key} {ds : List Dat} : dicOf μ (.cell p) = some (ks, ds) ↔ μ p = some (.dK ks ds) := by
  constructor
  · intro h
    simp only [dicOf] at h
    split at h
    · rename_i es q
      cases h
      exact q
    · cases h
  · intro h
    simp only [dicOf, h]
@[simp] theorem tyOk_cell' {p : Addr} : tyOk "list" μ (.cell p) ↔ ∃ ds, μ p = some (.lst ds) := by simp [tyOk]
@[simp] theorem ixOf_cell' {p : Addr} {k : Int} {z : Dat} : ixOf μ (.cell p) (.int k) z ↔ (∃ ds, μ p = some (.lst ds) ∧ atI ds k = some z) ∨ ∃ ks ds, μ p = some (.dK ks ds) ∧ atK ks ds (.inl k) = some z := by
  simp [ixOf, keyOf]
@[simp] theorem lenOf_cell' {p : Addr} {n : Nat} : lenOf μ (.cell p) n ↔ (∃ ds, μ p = some (.lst ds) ∧ n = ds.length) ∨ ∃ ks ds, μ p = some (.dK ks ds) ∧ ks.length = ds.length ∧ n = ks.length := by
  simp [lenOf]
@[simp] theorem truB_cell' {p : Addr} {b : Bool} : truB μ (.cell p) b ↔ (∃ ds, μ p = some (.lst ds) ∧ b = !ds.isEmpty) ∨ ∃ ks ds, μ p = some (.dK ks ds) ∧ ks.length = ds.length ∧ b = !ks.isEmpty := by
  simp [truB]
@[simp] theorem okOf_cell' {p : Addr} {μ' : Mu} : okOf μ (.cell p) μ' = ∃ ds, μ p = some (.lst ds) ∧ μ' p = some (.lst ds) := rfl
@[simp] theorem mset_same_ {p : Addr} {c : Cell} : mset μ p c p = some c := mset_same
@[simp] theorem mset_mset_ {p : Addr} {c c' : Cell} : mset (mset μ p c) p c' = mset μ p c' := mset_mset
@[simp] theorem mdel_same_ {p : Addr} : mdel μ p p = none := mdel_same
theorem mset_in {p q : Addr} {c d e : Cell} (h : p ≠ q) : mset (mset (mset μ p c) q d) p e = mset (mset μ p e) q d := by
  rw [mset_comm h.symm, mset_mset]
/-! ### loops by an invariant -/
theorem forL_inv {α : Type} {ok : Mu → Prop} {g : AG} (f : α → Dat) (I : List α → List α → Sl → Mu → Prop)
    (step : ∀ pre x r ρ μ (N : Sl → Mu → Prop), I pre (x :: r) ρ μ → (∀ ρ' μ', I (pre ++ [x]) r ρ' μ' → N ρ' μ') → ok μ ∧ g D.ex (f x) ρ μ fun ρ' μ' => s { D with nx := N, ct := N, bk := D.nx } ρ' μ')
    (fin : ∀ pre ρ μ, I pre [] ρ μ → ok μ ∧ D.nx ρ μ) : ∀ (xs pre : List α) (ρ : Sl) (μ : Mu), I pre xs ρ μ → forL ok g s D (xs.map f) ρ μ
  | [], pre, ρ, μ, h => fin pre ρ μ h
  | x :: r, pre, ρ, μ, h => step pre x r ρ μ _ h fun ρ' μ' h' => forL_inv f I step fin r (pre ++ [x]) ρ' μ' h'
/-- over a range: the turn's number -/
theorem forL_rng {ok : Mu → Prop} {g : AG} {lo : Int} (I : Nat → Sl → Mu → Prop) {n : Nat}
    (step : ∀ i ρ μ (N : Sl → Mu → Prop), i < n → I i ρ μ → (∀ ρ' μ', I (i + 1) ρ' μ' → N ρ' μ') → ok μ ∧ g D.ex (.int (lo + (i : Int))) ρ μ fun ρ' μ' => s { D with nx := N, ct := N, bk := D.nx } ρ' μ')
    (fin : ∀ ρ μ, I n ρ μ → ok μ ∧ D.nx ρ μ) {ρ : Sl} {μ : Mu} (h : I 0 ρ μ) : forL ok g s D (rngD lo n) ρ μ := by
  have key : ∀ (k : Nat) (ρ : Sl) (μ : Mu), k ≤ n → I (n - k) ρ μ → forL ok g s D (((List.range n).drop (n - k)).map fun (i : Nat) => Dat.int (lo + (i : Int))) ρ μ := by
    intro k
    induction k with
    | zero =>
      intro ρ μ hk hI
      rw [Nat.sub_zero] at hI ⊢
      rw [List.drop_eq_nil_iff.mpr (by simp)]
      exact fin ρ μ hI
    | succ k ih =>
      intro ρ μ hk hI
      have hlt : n - (k + 1) < (List.range n).length := by rw [List.length_range]; omega
      rw [List.drop_eq_getElem_cons hlt, List.map_cons, List.getElem_range]
      have e : n - (k + 1) + 1 = n - k := by omega
      refine step (n - (k + 1)) ρ μ _ (by omega) hI fun ρ' μ' h' => ?_
      rw [e] at h' ⊢
      exact ih ρ' μ' (by omega) h'
  have := key n ρ μ (Nat.le_refl _) (by rw [Nat.sub_self]; exact h)
  rw [Nat.sub_self, List.drop_zero] at this
  exact this
/-- a comprehension that changes nothing -/
theorem lcL_pure {α : Type} {ok : Mu → Prop} {g : AG} {w : Sl} {R : List Dat → Mu → Prop} (f : α → Dat) (c : α → Bool) (v : α → Dat) (hok : ok μ) : ∀ (xs : List α) (acc : List Dat),
    (∀ x ∈ xs, ∀ (R1 : Dat → Mu → Prop) (R0 : Mu → Prop), (c x = true → R1 (v x) μ) → (c x = false → R0 μ) → g Xp0 (f x) w μ fun ρ' μ1 => t Xp0 ρ' μ1 fun b μ2 => if b = true then e Xp0 ρ' μ2 fun y μ3 => R1 y μ3 else R0 μ2) →
    acc.length + xs.length ≤ 16777216 → R (acc ++ (xs.filter c).map v) μ → lcL ok g t e w R (xs.map f) acc μ
  | [], acc, _, _, h => ⟨hok, by simpa using h⟩
  | x :: r, acc, hs, hl, h => by
    rw [List.length_cons] at hl
    have hs' := fun y hy => hs y (List.mem_cons_of_mem x hy)
    refine ⟨hok, hs x List.mem_cons_self (fun y μ3 => acc.length < 16777216 ∧ lcL ok g t e w R (r.map f) (acc ++ [y]) μ3) _ (fun hc => ⟨by omega, ?_⟩) fun hc => ?_⟩
    · refine lcL_pure f c v hok r (acc ++ [v x]) hs' (by rw [List.length_append, List.length_singleton]; omega) ?_
      rw [List.filter_cons, if_pos hc, List.map_cons] at h
      rw [List.append_assoc]
      exact h
    · refine lcL_pure f c v hok r acc hs' (by omega) ?_
      rw [List.filter_cons, if_neg (by rw [hc]; decide)] at h
      exact h
/-- .. of keys -/
theorem scL_pure {α : Type} {ok : Mu → Prop} {g : AG} {w : Sl} {R : List Key → Mu → Prop} (f : α → Dat) (c : α → Bool) (u : α → Dat) (v : α → Key) (hv : ∀ x, keyOf (u x) = some (v x)) (hok : ok μ) : ∀ (xs : List α) (acc : List Key),
    (∀ x ∈ xs, ∀ (R1 : Dat → Mu → Prop) (R0 : Mu → Prop), (c x = true → R1 (u x) μ) → (c x = false → R0 μ) → g Xp0 (f x) w μ fun ρ' μ1 => t Xp0 ρ' μ1 fun b μ2 => if b = true then e Xp0 ρ' μ2 fun y μ3 => R1 y μ3 else R0 μ2) →
    acc.length + xs.length ≤ 4000 → R (acc ++ (xs.filter c).map v) μ → scL ok g t e w R (xs.map f) acc μ
  | [], acc, _, _, h => ⟨hok, by simpa using h⟩
  | x :: r, acc, hs, hl, h => by
    rw [List.length_cons] at hl
    have hs' := fun y hy => hs y (List.mem_cons_of_mem x hy)
    refine ⟨hok, hs x List.mem_cons_self (fun y μ3 => ∃ k, keyOf y = some k ∧ acc.length < 4000 ∧ scL ok g t e w R (r.map f) (acc ++ [k]) μ3) _ (fun hc => ⟨_, hv x, by omega, ?_⟩) fun hc => ?_⟩
    · refine scL_pure f c u v hv hok r (acc ++ [v x]) hs' (by rw [List.length_append, List.length_singleton]; omega) ?_
      rw [List.filter_cons, if_pos hc, List.map_cons] at h
      rw [List.append_assoc]
      exact h
    · refine scL_pure f c u v hv hok r acc hs' (by omega) ?_
      rw [List.filter_cons, if_neg (by rw [hc]; decide)] at h
      exact h
end
end DL

namespace DL
open PySem PySem.Spec PyProof.Rows L2
/-- a class of the module by its name -/
def clsA (W : Wm) (x : Str) : Addr := match W.mg x with
  | some (.ref C) => C
  | _ => 0
theorem clsA_of {W : Wm} {x : Str} {C : Addr} (h : W.mg x = some (.ref C)) : clsA W x = C := by
  unfold clsA
  rw [h]
/-- what the top says of an exception class without fields -/
structure ExcD (W : Wm) (x : Str) : Prop where
  hm : W.mg x = some (.ref (clsA W x))
  hc : ExcC W.K (clsA W x)
section
variable {X : Cx} {WW : WX} {W : Wm}
def rIsEx (K : PySem.W.Frag) (cls : Value) (d : Option Addr) (a : Addr) : List V → Hp → VK → Prop := fun xs H Q => ∃ C, cls = .ref C ∧ d = none ∧ ExcC K C ∧ rIsE K C a xs H Q
theorem call_isEx {a : Addr} {oe : Obj} {cls : Value} {d : Option Addr} {pn : List (Addr × Obj)} (hz : Zc cls d oe) (hf : ∃ vs, oe.data = .fields vs) : CallR (X.suite a ((a, oe) :: pn)) (.builtin "isinstance") (rIsEx X.K cls d a) := by
  intro pins s σ H xs us Q I r ⟨C, e1, e2, hC, h⟩
  subst e1 e2
  exact call_isE hC hz hf pins s σ H xs us Q I r h
/-- isinstance(e, C), e the exception of slot i -/
def aIsE (i : Nat) (a : Addr) (b : Bool) : AE := fun _ ρ μ Q => ρ[i]? = some (some (.cell a)) ∧ Q (.bl b) μ
@[simp] theorem u_isE {i : Nat} {a : Addr} {b : Bool} {Xp : XP} {ρ : Sl} {μ : Mu} {Q : AQ} : aIsE i a b Xp ρ μ Q = (ρ[i]? = some (some (.cell a)) ∧ Q (.bl b) μ) := rfl
def fIsE (a : Addr) (y : Dat) (b : Bool) : AN := fun ds μ Q => ds = [.cell a, y] ∧ Q (.bl b) μ
theorem sim_isE {c : Str} {a : Addr} {y : Dat} {b : Bool} {cv : Value} (hC : ExcC W.K (clsA W c)) (hy : (y = .cell (match cv with | .ref z => z | _ => 0) ∧ ∃ z, cv = .ref z) ∨ ∃ n, y = .ty n ∧ cv = .type n) (hk : PySem.W.kitOne W.K (.ref (clsA W c)) cv = some b) : SimRN W (rIsEx W.K (.ref (clsA W c)) none a) (fIsE a y b) := by
  intro F μ H xs ds Q R rep al ⟨e, q⟩ k
  subst e
  obtain ⟨v, u, rfl, av, au⟩ := two_at al
  cases (show v = .ref a from av)
  have q' := k.here rep (show At W.toWd F (.bl b) (.bl b) from rfl) q
  rcases hy with ⟨rfl, z, rfl⟩ | ⟨n, rfl, rfl⟩
  · cases (show u = .ref _ from au)
    exact ⟨_, rfl, rfl, hC, .ref z, .ref z, b, rfl, (fun w hw => hw), hk, q'⟩
  · cases (show u = .ty n from au)
    exact ⟨_, rfl, rfl, hC, .ty n, .type n, b, rfl, (fun w hw => hw), hk, q'⟩
theorem bt_ValueError : bootBuiltins "ValueError" = some (.type "ValueError") := by decide +kernel
/-- isinstance(e, C) in a suite -/
theorem de_isEo (i : Nat) {a : Addr} {oe : Obj} {pn : List (Addr × Obj)} {c n cn : Str} {b : Bool} {p p1 p2 pos : Pos} (hz : Zc (.ref (clsA (wm X) c)) none oe) (hf : ∃ vs, oe.data = .fields vs) (hm : X.mg "isinstance" = none) (hC : ExcC X.K (clsA (wm X) c))
    (hcn : X.mg cn = some (.ref (clsA (wm X) cn))) (hk : PySem.W.kitOne X.K (.ref (clsA (wm X) c)) (.ref (clsA (wm X) cn)) = some b) (d1 : DE (X.suite a ((a, oe) :: pn)) WW (.Name n p1) (tVar i) (aVar i))
    (hg : Gl (X.suite a ((a, oe) :: pn)) "isinstance" := by rfl) (hgc : Gl (X.suite a ((a, oe) :: pn)) cn := by rfl) (hd : (cn == ("__debug__" : Str)) = false := by decide)
    (he : starEach [.Name n p1, .Name cn p2] X.env = (false, eval (.Name n p1) X.env) :: starEach [.Name cn p2] X.env := by rfl) (hpl : (backTo pos (starEach [.Name cn p2] X.env)).any (·.1) = false := by rfl) :
    DE (X.suite a ((a, oe) :: pn)) WW (.Call (.Name "isinstance" p) [.Name n p1, .Name cn p2] [] pos) (tCB (rIsEx X.K (.ref (clsA (wm X) c)) none a) (tCons (tVar i) (tCons (tC (.ref (clsA (wm X) cn))) tNil))) (aIsE i a b) := by
  have d2 : DE (X.suite a ((a, oe) :: pn)) WW (.Name cn p2) (tC (.ref (clsA (wm X) cn))) (aC (.cell (clsA (wm X) cn))) := ⟨pe_glob hgc hcn rfl hd, sim_c fun _ => rfl⟩
  have ha := da_cons d1 (da_cons d2 da_nil)
  refine ⟨pe_callB (call_isEx hz hf) hg hm bt_isinstance ha.p (by decide) (by decide) he hpl, fun F μ ρ σ H Xp Q R rep sl kx ⟨h1, q⟩ k => ?_⟩
  exact sim_cb ha.s (sim_isE (y := .cell (clsA (wm X) cn)) hC (.inl ⟨rfl, _, rfl⟩) hk) F μ ρ σ H Xp Q R rep sl kx ⟨.cell a, h1, rfl, q⟩ k
/-- isinstance(e, ValueError) -/
theorem de_isEv (i : Nat) {a : Addr} {oe : Obj} {pn : List (Addr × Obj)} {c n : Str} {b : Bool} {p p1 p2 pos : Pos} (hz : Zc (.ref (clsA (wm X) c)) none oe) (hf : ∃ vs, oe.data = .fields vs) (hm : X.mg "isinstance" = none) (hC : ExcC X.K (clsA (wm X) c))
    (hcn : X.mg "ValueError" = none) (hk : PySem.W.kitOne X.K (.ref (clsA (wm X) c)) (.type "ValueError") = some b) (d1 : DE (X.suite a ((a, oe) :: pn)) WW (.Name n p1) (tVar i) (aVar i))
    (hg : Gl (X.suite a ((a, oe) :: pn)) "isinstance" := by rfl) (hgc : Gl (X.suite a ((a, oe) :: pn)) "ValueError" := by rfl)
    (he : starEach [.Name n p1, .Name "ValueError" p2] X.env = (false, eval (.Name n p1) X.env) :: starEach [.Name "ValueError" p2] X.env := by rfl) (hpl : (backTo pos (starEach [.Name "ValueError" p2] X.env)).any (·.1) = false := by rfl) :
    DE (X.suite a ((a, oe) :: pn)) WW (.Call (.Name "isinstance" p) [.Name n p1, .Name "ValueError" p2] [] pos) (tCB (rIsEx X.K (.ref (clsA (wm X) c)) none a) (tCons (tVar i) (tCons (tC (.ty "ValueError")) tNil))) (aIsE i a b) := by
  have d2 : DE (X.suite a ((a, oe) :: pn)) WW (.Name "ValueError" p2) (tC (.ty "ValueError")) (aC (.ty "ValueError")) := ⟨pe_bltn hgc hcn bt_ValueError rfl (by decide) (by decide), sim_c fun _ => rfl⟩
  have ha := da_cons d1 (da_cons d2 da_nil)
  refine ⟨pe_callB (call_isEx hz hf) hg hm bt_isinstance ha.p (by decide) (by decide) he hpl, fun F μ ρ σ H Xp Q R rep sl kx ⟨h1, q⟩ k => ?_⟩
  exact sim_cb ha.s (sim_isE (y := .ty "ValueError") hC (.inr ⟨_, rfl, rfl⟩) hk) F μ ρ σ H Xp Q R rep sl kx ⟨.cell a, h1, rfl, q⟩ k
/-- name = e without the calm -/
theorem ds_setN (nd : X.N.Nodup) (i : Nat) {x : Str} {e : Expr} {te : TE} {a : AE} {pos pos' : Pos} (he : DE X WW e te a) (hi : X.N[i]? = some x := by rfl) (hx : Loc X.env.scope x := by first | exact Or.inl rfl | exact Or.inr rfl)
    (hs : swapsWith e (some (.Name x pos')) pos.line X.env = pure false := by rfl) (hf : X.fn x = true ∨ X.env.scope.names.lookup x = some .local := by first | exact .inl rfl | exact .inr rfl) : DS X WW (.Assign [.Name x pos'] e pos) (tAsg te (gName i)) (sSet i a) :=
  ⟨ps_set nd hi hx he.p hs hf, sim_set he.s⟩
theorem pss_weak {st : List Stmt} {t t' : TS} (h : PSs X st t) (k : ∀ D σ H, t' D σ H → t D σ H) : PSs X st t' := ⟨fun pins s σ H D I hw => h.run pins s σ H D I (k _ _ _ hw)⟩
/-- a reading that is told by its abstract one -/
def semS (Wx : Wm) (WW : WX) (as : AS) : TS := fun D σ H => ∃ F μ ρ AD, Rep Wx.toWd F μ H ∧ SlAt Wx.toWd F ρ σ ∧ Link Wx WW F μ H AD D ∧ as AD ρ μ
theorem DSs.sem {st : List Stmt} {t : TS} {as : AS} (h : DSs X WW st t as) : PSs X st (semS (wm X) WW as) := pss_weak h.p fun D σ H ⟨F, μ, ρ, AD, r, s, k, q⟩ => h.s F μ ρ σ H AD D r s k q
/-! try: body / except C as n: suite; what the body raises is of classes without fields; cat tells whether the clause takes a class -/
def sTry (cat : Str → Option Bool) (i : Nat) (ab : AS) (asu : Str → Addr → AS) : AS := fun D ρ μ => ab { D with ex := fun x ρ' μ' => x.fs = none ∧ ∃ b, cat x.cls = some b ∧
    (b = true → ∀ a, μ' a = none → asu x.cls a { nx := fun ρ2 μ2 => D.nx (ρ2.set i none) μ2, rt := D.rt, bk := fun ρ2 μ2 => D.bk (ρ2.set i none) μ2, ct := fun ρ2 μ2 => D.ct (ρ2.set i none) μ2 } (ρ'.set i (some (.cell a))) μ') ∧ (b = false → D.ex x ρ' μ') } ρ μ
@[simp] theorem u_try {cat : Str → Option Bool} {i : Nat} {ab : AS} {asu : Str → Addr → AS} {D : AEnds} {ρ : Sl} {μ : Mu} : sTry cat i ab asu D ρ μ = ab { D with ex := fun x ρ' μ' => x.fs = none ∧ ∃ b, cat x.cls = some b ∧
    (b = true → ∀ a, μ' a = none → asu x.cls a { nx := fun ρ2 μ2 => D.nx (ρ2.set i none) μ2, rt := D.rt, bk := fun ρ2 μ2 => D.bk (ρ2.set i none) μ2, ct := fun ρ2 μ2 => D.ct (ρ2.set i none) μ2 } (ρ'.set i (some (.cell a))) μ') ∧ (b = false → D.ex x ρ' μ') } ρ μ := rfl
open Classical in
noncomputable def tsuite (W : Wm) (cat : Str → Option Bool) (asu : Str → Addr → AS) : Addr → Value → Option Addr → TS := fun a cls d =>
  fun D σ H => d = none ∧ ∃ x, cat x = some true ∧ W.mg x = some cls ∧ cls = .ref (clsA W x) ∧ semS W W0 (asu x a) D σ H
theorem ds_try (c : Ctx X WW) (cat : Str → Option Bool) (i : Nat) {xn n : Str} {body suite : List Stmt} {b₀ : Stmt} {np pos pos' : Pos} {ab : AS} {asu : Str → Addr → AS} (hC : X.mg xn = some (.ref (clsA (wm X) xn)))
    (hcat : ∀ x b, cat x = some b → PySem.W.exmOne X.K (.ref (clsA (wm X) x)) (.ref (clsA (wm X) xn)) = some b)
    (hs : X.stack = X.env :: X.outer) (hf : X.env.frame = some X.env.locals)
    (hb : ∀ (W : WX) (pn : List (Addr × Obj)) (xe : Value → Shared → Prop), Ctx (X.tr pn xe) W → ∃ t, DSs (X.tr pn xe) W body t ab)
    (hsu : ∀ (x : Str) (a : Addr) (oe : Obj) (pn : List (Addr × Obj)), cat x = some true → Zc (.ref (clsA (wm X) x)) none oe → (∃ vs, oe.data = .fields vs) → (X.suite a ((a, oe) :: pn)).N.Nodup → ∃ t, DSs (X.suite a ((a, oe) :: pn)) W0 (b₀ :: suite) t (asu x a))
    (hi : X.N[i]? = some n := by rfl) (hln : X.env.kindOf n = some .local := by rfl) (hg : Gl X xn := by rfl) (hdb : (xn == ("__debug__" : Str)) = false := by decide) :
    DS X WW (.Try body [.ExceptHandler (some (.Name xn np)) (some n) (b₀ :: suite) pos'] [] [] pos) (fun D σ H => semS (wm X) (wAs X.K (.ref (clsA (wm X) xn)) i (tsuite (wm X) cat asu) WW D) ab D σ H) (sTry cat i ab asu) := by
  refine ⟨ps_try_as hs hf c.nd hi hln ⟨hg, hdb, .inl hC⟩ c.tk (tb := fun Wx => semS (wm X) Wx ab) (fun W pn xe tk hp => ?_) (fun a oe cls d pn hz hfl => ?_), fun F μ ρ σ H AD D rep sl k q => ?_⟩
  · obtain ⟨t, h⟩ := hb W pn xe ⟨tk, hp, c.hc, c.nd⟩
    exact h.sem
  · refine ⟨fun pins s σ H D I ⟨e, x, hx, hm, ec, q⟩ => ?_⟩
    subst e ec
    obtain ⟨t, h⟩ := hsu x a oe pn hx hz hfl c.nd
    exact h.sem.run pins s σ H D I q
  · refine ⟨F, μ, ρ, { AD with ex := fun x ρ' μ' => x.fs = none ∧ ∃ b, cat x.cls = some b ∧ (b = true → ∀ a, μ' a = none → asu x.cls a { nx := fun ρ2 μ2 => AD.nx (ρ2.set i none) μ2, rt := AD.rt, bk := fun ρ2 μ2 => AD.bk (ρ2.set i none) μ2, ct := fun ρ2 μ2 => AD.ct (ρ2.set i none) μ2 } (ρ'.set i (some (.cell a))) μ') ∧ (b = false → AD.ex x ρ' μ') }, rep, sl, ⟨k.nx, k.rt, k.bk, k.ct, fun F' μ' H' ρ' σ' x cls dd r st sl' xa hh => ?_⟩, q⟩
    obtain ⟨hfs, b, hcb, h1, h0⟩ := hh
    have xa0 := xa
    obtain ⟨C, m1, m2, m3⟩ := xa
    have eC : C = clsA (wm X) x.cls := (clsA_of m1).symm
    subst eC
    rw [hfs] at m3
    have m3' : dd = none := m3
    subst m2 m3'
    refine ⟨b, hcat _ _ hcb, fun hbt a ha => ⟨rfl, x.cls, by rw [hcb, hbt], m1, rfl, ?_⟩, fun hbf => k.ex _ _ _ _ _ _ _ _ r st sl' xa0 (h0 hbf)⟩
    have k' := k.step st
    exact ⟨F', μ', _, { nx := fun ρ2 μ2 => AD.nx (ρ2.set i none) μ2, rt := AD.rt, bk := fun ρ2 μ2 => AD.bk (ρ2.set i none) μ2, ct := fun ρ2 μ2 => AD.ct (ρ2.set i none) μ2 }, r, sl'.set i (show At _ F' (.cell a) (.ref a) from rfl), ⟨fun F2 μ2 H2 ρ2 σ2 r2 s2 sl2 q2 => k'.nx _ _ _ _ _ r2 s2 (sl2.unset i) q2, k'.rt, fun F2 μ2 H2 ρ2 σ2 r2 s2 sl2 q2 => k'.bk _ _ _ _ _ r2 s2 (sl2.unset i) q2, fun F2 μ2 H2 ρ2 σ2 r2 s2 sl2 q2 => k'.ct _ _ _ _ _ r2 s2 (sl2.unset i) q2, fun F2 μ2 H2 ρ2 σ2 x cls dd r2 s2 sl2 xa q2 => q2.elim⟩, h1 hbt a (r.mu_none ha)⟩
end
end DL

namespace DL
open PySem PySem.Spec PyProof.Rows L2
def veT : List Value := [.type "ValueError", .type "Exception", .type "BaseException", .type "object"]
/-- an own class over ValueError (at any height) without __init__ -/
structure RaiseD (W : Wm) (x : Str) : Prop where
  hm : W.mg x = some (.ref (clsA W x))
  xP : PySem.W.excIn W.K (clsA W x) [.type "ValueError", .type "Exception", .type "BaseException", .type "object"] "ValueError.__new__" = true
  kP : PySem.W.keepIn W.K (.ref (clsA W x)) = true
  bP : PySem.W.subIn W.K (.ref (clsA W x)) (.type "BaseException") = some true
  tP : PySem.W.typeIn W.K (.ref (clsA W x)) = some (.type "type")
section
variable {X : Cx} {WW : WX} {W : Wm}
theorem ds_raiseD (c : Ctx X WW) {x m : Str} {j : Nat} {p p2 pos pos' : Pos} (R : RaiseD (wm X) x) (hg : Gl X x := by rfl) (hdb : (x == ("__debug__" : Str)) = false := by decide) :
    DS X WW (.Raise (some (.Call (.Name x p) [.Constant (.str m) j p2] [] pos)) none pos') (fun _ σ H => (fun (cls : Value) d (H' : Hp) => WW cls d σ H') (.ref (clsA (wm X) x)) none H) (sRaise x) :=
  ds_raise c (pmk_own PySem.F.excBase_ValueError R.xP R.hm R.kP (raises_own R.bP R.tP) hg hdb) R.hm
/-- try with one class that can come -/
def cat1 (c0 : Str) : Str → Option Bool := fun x => if x = c0 then some true else none
theorem ds_try1 (c : Ctx X WW) (c0 : Str) (i : Nat) {xn n : Str} {body suite : List Stmt} {b₀ : Stmt} {np pos pos' : Pos} {ab : AS} {asu : Addr → AS} (hC : X.mg xn = some (.ref (clsA (wm X) xn)))
    (hex : PySem.W.exmOne X.K (.ref (clsA (wm X) c0)) (.ref (clsA (wm X) xn)) = some true)
    (hs : X.stack = X.env :: X.outer) (hf : X.env.frame = some X.env.locals)
    (hb : ∀ (W : WX) (pn : List (Addr × Obj)) (xe : Value → Shared → Prop), Ctx (X.tr pn xe) W → ∃ t, DSs (X.tr pn xe) W body t ab)
    (hsu : ∀ (a : Addr) (oe : Obj) (pn : List (Addr × Obj)), Zc (.ref (clsA (wm X) c0)) none oe → (∃ vs, oe.data = .fields vs) → (X.suite a ((a, oe) :: pn)).N.Nodup → ∃ t, DSs (X.suite a ((a, oe) :: pn)) W0 (b₀ :: suite) t (asu a))
    (hi : X.N[i]? = some n := by rfl) (hln : X.env.kindOf n = some .local := by rfl) (hg : Gl X xn := by rfl) (hdb : (xn == ("__debug__" : Str)) = false := by decide) :
    DS X WW (.Try body [.ExceptHandler (some (.Name xn np)) (some n) (b₀ :: suite) pos'] [] [] pos) (fun D σ H => semS (wm X) (wAs X.K (.ref (clsA (wm X) xn)) i (tsuite (wm X) (cat1 c0) fun _ => asu) WW D) ab D σ H) (sTry (cat1 c0) i ab fun _ => asu) := by
  refine ds_try c (cat1 c0) i hC (fun x b h => ?_) hs hf hb (fun x a oe pn h hz hfl nd => ?_) hi hln hg hdb
  · unfold cat1 at h
    split at h
    · rename_i e
      subst e
      cases h
      exact hex
    · cases h
  · unfold cat1 at h
    split at h
    · rename_i e
      subst e
      exact hsu a oe pn hz hfl nd
    · cases h
@[simp] theorem cat1_same {c0 : Str} : cat1 c0 c0 = some true := if_pos rfl
end
/-! facts of the top -/
section
variable {K : PySem.W.Frag} {P : Program} {w : World} {mg : Str → Option Value}
abbrev wmk (P : Program) (w : World) (K : PySem.W.Frag) (mg : Str → Option Value) : Wm := ⟨⟨P, w, K⟩, mg⟩
theorem kit_ref {C D : Addr} {b : Bool} (hd : PySem.W.hasDictIn K C = true) (ht : PySem.W.typeIn K (.ref C) = some (.type "type")) (hr : PySem.W.subIn K (.ref D) (.ref D) = some true) (h : PySem.W.subIn K (.ref D) (.ref C) = some b) : PySem.W.kitOne K (.ref D) (.ref C) = some b := by
  unfold PySem.W.kitOne
  by_cases e : ((Value.ref D) == .ref C) = true
  · rw [if_pos e]
    have e' : D = C := by simpa using e
    subst e'
    rw [hr] at h
    exact h
  · rw [if_neg e]
    have hc : (PySem.W.clsIn K C).isSome = true := by
      unfold PySem.W.hasDictIn at hd
      cases q : PySem.W.clsIn K C with
      | none =>
        rw [q] at hd
        cases hd
      | some _ => rfl
    show (if ((PySem.W.clsIn K C).isSome && PySem.W.typeIn K (.ref C) == some (.type "type")) = true then PySem.W.subIn K (.ref D) (.ref C) else none) = some b
    rw [if_pos (by rw [hc, ht]; rfl)]
    exact h
theorem kit_ve {D : Addr} {b : Bool} (h : PySem.W.subIn K (.ref D) (.type "ValueError") = some b) : PySem.W.kitOne K (.ref D) (.type "ValueError") = some b := by
  unfold PySem.W.kitOne
  rw [if_neg (by intro h; cases h)]
  show (if PySem.W.kitMeta "ValueError" = true then PySem.W.subIn K (.ref D) (.type "ValueError") else none) = some b
  rw [if_pos (by decide +kernel)]
  exact h
theorem exc_mk {x : Str} {C : Addr} (hm : mg x = some (.ref C)) (hc : ExcC K C) : ExcC K (clsA (wmk P w K mg) x) := by
  rw [clsA_of (W := wmk P w K mg) hm]
  exact hc
theorem cl_mk {x : Str} {C : Addr} (hm : mg x = some (.ref C)) : (wmk P w K mg).mg x = some (.ref (clsA (wmk P w K mg) x)) := by
  rw [clsA_of (W := wmk P w K mg) hm]
  exact hm
theorem raise_mk {x : Str} {C : Addr} (hm : mg x = some (.ref C)) (xP : PySem.W.excIn K C [.type "ValueError", .type "Exception", .type "BaseException", .type "object"] "ValueError.__new__" = true) (kP : PySem.W.keepIn K (.ref C) = true)
    (bP : PySem.W.subIn K (.ref C) (.type "BaseException") = some true) (tP : PySem.W.typeIn K (.ref C) = some (.type "type")) : RaiseD (wmk P w K mg) x := by
  have e := clsA_of (W := wmk P w K mg) hm
  exact ⟨cl_mk hm, by rw [e]; exact xP, by rw [e]; exact kP, by rw [e]; exact bP, by rw [e]; exact tP⟩
theorem ex_mk {x y : Str} {C D : Addr} {b : Bool} (hm : mg x = some (.ref D)) (hn : mg y = some (.ref C)) (h1 : PySem.W.subIn K (.ref C) (.type "BaseException") = some true) (hdct : PySem.W.hasDictIn K C = true) (ht : PySem.W.typeIn K (.ref C) = some (.type "type")) (h4 : PySem.W.subIn K (.ref D) (.ref C) = some b) :
    PySem.W.exmOne K (.ref (clsA (wmk P w K mg) x)) (.ref (clsA (wmk P w K mg) y)) = some b := by
  rw [clsA_of (W := wmk P w K mg) hm, clsA_of (W := wmk P w K mg) hn]
  exact PySem.W.exm_ref h1 hdct ht h4
theorem ix_mk {x y : Str} {C D : Addr} {b : Bool} (hm : mg x = some (.ref D)) (hn : mg y = some (.ref C)) (hd : PySem.W.hasDictIn K C = true) (ht : PySem.W.typeIn K (.ref C) = some (.type "type")) (hr : PySem.W.subIn K (.ref D) (.ref D) = some true) (h : PySem.W.subIn K (.ref D) (.ref C) = some b) :
    PySem.W.kitOne K (.ref (clsA (wmk P w K mg) x)) (.ref (clsA (wmk P w K mg) y)) = some b := by
  rw [clsA_of (W := wmk P w K mg) hm, clsA_of (W := wmk P w K mg) hn]
  exact kit_ref hd ht hr h
theorem ixv_mk {x : Str} {D : Addr} {b : Bool} (hm : mg x = some (.ref D)) (h : PySem.W.subIn K (.ref D) (.type "ValueError") = some b) : PySem.W.kitOne K (.ref (clsA (wmk P w K mg) x)) (.type "ValueError") = some b := by
  rw [clsA_of (W := wmk P w K mg) hm]
  exact kit_ve h
theorem def_mk {x : Str} {st : Stmt} {ps : List Str} {f : Addr} {oc : Value} {od an : Option Addr} {osl : Array (Option Value)} {kV doc pm cdv ct : Value} (hm : mg x = some (.ref f))
    (l : K.lookup f = some ⟨oc, od, .func (PySem.W.fnOf x x (defArgs st) (defBody st) (defScope st) .none kV doc pm an cdv ct), osl⟩) (c : PySem.W.codeIn K cdv x = true) (k : PySem.W.keepIn K (.ref f) = true)
    (b : ∀ (kV doc pm : Value) (an : Option Addr) (cdv ct : Value) (us : List Value), us.length = ps.length → bindArgs (PySem.W.fnOf x x (defArgs st) (defBody st) (defScope st) .none kV doc pm an cdv ct) ⟨us, []⟩ = pure (ps.zip us)) : DefD (wmk P w K mg) x st ps :=
  ⟨f, _, hm, fun_mk l c k, (fun_mk l c k).binds b⟩
/-! the end -/
abbrev c_law : Con := fun ds μ Q _ => ∃ ns : List Int, ds = [.ro (ns.map .int)] ∧ ns.length ≤ 63 ∧ Q (.bl true) μ
def spLaw (K : PySem.W.Frag) : Sp := fun vs H Q _ => ∃ (a : Addr) (ns : List Int), vs = [.ref a] ∧ ns.length ≤ 63 ∧ SqL K H a (ns.map V.int) ∧ ∀ H', Q (.bl true) H'
theorem atL_ints {W : Wd} {F : Hp} : ∀ ns : List Int, AtL W F (ns.map .int) (ns.map V.int)
  | [] => rfl
  | n :: ns => ⟨_, _, rfl, rfl, atL_ints ns⟩
theorem sp_imp : ∀ vs H Q E, spLaw K vs H Q E → spOf (wmk P w K mg) c_law vs H Q E := fun vs H Q E ⟨a, ns, e, hl, hS, q⟩ => by
  subst e
  refine ⟨H, mu0, [.ro (ns.map .int)], fun d _ => d = .bl true, fun _ _ => False, ⟨fun _ _ h => h, fun a c h => (nomatch h)⟩, AtL.cons ⟨a, _, rfl, hS, atL_ints ns⟩ AtL.nil, ⟨ns, rfl, hl, rfl⟩, ?_, fun _ _ _ _ _ _ _ _ _ z => z.elim⟩
  intro F' μ' H' d v r st ad e
  subst e
  cases (show v = .bl true from ad)
  exact q H'
end
/-- the law's def -/
structure LawD (W : Wm) (st : Stmt) : Prop where
  ex : ∃ f fd, W.mg "law" = some (.ref f) ∧ Fun W.K "law" "law" st f fd ∧ ∀ (s : Shared) (u : Value), BindsTo s fd ⟨[u], []⟩ [("script", u)]
def FnA (W : Wm) (k : Nat) : Prop := ∃ f fd, W.mg "law" = some (.ref f) ∧ (∀ (s : Shared) (u : Value), BindsTo s fd ⟨[u], []⟩ [("script", u)]) ∧ ∀ base, FnOk W.P W.w W.K W.mg base (L2.CX W.P W.w) k f fd ["script"] (spOf W c_law)
theorem LawD.ok {W : Wm} {st : Stmt} {N : List Str} {k : Nat} (D : LawD W st) (S : FnScope N ["script"] (defScope st))
    (hb : ∀ (base : Heap) (f : Addr) (cdv : Value) (A : Around) (outer : List PySem.Env) (s : Shared) (H : Hp) (E : XK), Room k (A.deeper (envOfC "law" (defScope st) s.heap.objs.size f cdv)) → Ctx (bodyX W base N "law" st f cdv A outer s H E) (bodyW E) →
      ∀ ds μ QA EA, c_law ds μ QA EA → ∃ t as, DSs (bodyX W base N "law" st f cdv A outer s H E) (bodyW E) (defBody st) t as ∧ as (bodyE QA EA) (startD N ds) μ) : FnA W (k + 1) := by
  obtain ⟨f, fd, hm, F, hbi⟩ := D.ex
  refine ⟨f, fd, hm, hbi, fun base => F.okX S (fun vs H Q E ⟨G, μ, ds, QA, EA, h1, h2, h3, h4⟩ => ?_) fun cdv A outer s H vs Q E hr ⟨G, μ, ds, QA, EA, rep, al, hC, kq, ke⟩ => ?_⟩
  · rw [← h2.length]
    obtain ⟨ns, e, _⟩ := h3
    rw [e]
    rfl
  · have ctx : Ctx (bodyX W base N "law" st f cdv A outer s H E) (bodyW E) := ⟨takes_of rfl rfl rfl rfl, passes_of rfl, rfl, S.nd⟩
    obtain ⟨t, as, hd, ha⟩ := hb base f cdv A outer s H E hr ctx ds μ QA EA hC
    refine ⟨t, hd.p, hd.s G μ (startD N ds) (L2.start N vs) H (bodyE QA EA) _ rep (slAt_start al) ?_ ha⟩
    exact ⟨fun F' μ' H' ρ' σ' r st _ ⟨ν, sb, q⟩ => kq _ _ _ _ _ (r.less sb) (st.sub sb) (show At W.toWd F' .non .non from rfl) q, fun F' μ' H' d v r st a ⟨ν, sb, q⟩ => kq _ _ _ _ _ (r.less sb) (st.sub sb) a q, fun _ _ _ _ _ _ _ _ z => z.elim, fun _ _ _ _ _ _ _ _ z => z.elim,
      fun F' μ' H' ρ' σ' x cls dd r st _ a ⟨ν, sb, q⟩ => ke _ _ _ _ _ _ (r.less sb) (st.sub sb) a q⟩
theorem law_mk {K : PySem.W.Frag} {P : Program} {w : World} {mg : Str → Option Value} {st : Stmt} {f : Addr} {oc : Value} {od an : Option Addr} {osl : Array (Option Value)} {kV doc pm cdv ct : Value} (hm : mg "law" = some (.ref f))
    (l : K.lookup f = some ⟨oc, od, .func (PySem.W.fnOf "law" "law" (defArgs st) (defBody st) (defScope st) .none kV doc pm an cdv ct), osl⟩) (c : PySem.W.codeIn K cdv "law" = true) (k : PySem.W.keepIn K (.ref f) = true)
    (b : ∀ (u : Value), bindArgs (PySem.W.fnOf "law" "law" (defArgs st) (defBody st) (defScope st) .none kV doc pm an cdv ct) ⟨[u], []⟩ = pure [(("script" : Str), u)]) : LawD (wmk P w K mg) st :=
  ⟨f, _, hm, fun_mk l c k, fun s u => .of_eq (b u)⟩
theorem walk_law {l : PySem.W.OpenLaw} {k : Nat} {q : Program} {loose : List Str} {XP : (Str → Option Value) → Heap → Prop} {YP : World → Heap → Prop} {d : DefRec} {K : Params → PySem.W.Frag} (hn : l.most = some 63) (hdf : d.params.defaults = [])
    (hr : Room k callerA) (hY : ∀ (w : World) (h : Heap), YP w h → (K w.params).In h) (hd : d.name = "law")
    (F : ∀ (w : World) (mg : Str → Option Value) (fa : Addr) (h : Heap), (K w.params).In h → h.Ns mainGlobals mg → mg "law" = some (.ref fa) → FnA (wmk l.prog w (K w.params) mg) k) :
    PySem.W.WalkO q loose XP YP l.row.toRowW d [] (fun f vs => PySem.call f vs) := by
  refine L2.walk_of (n := 63) (k := k) (x := "script") (CX := fun w => L2.CX l.prog w) (sp := fun w => spLaw (K w.params)) hn (by decide) hdf hr hY (fun w mg fa h KX G hmg => ?_) (fun _ _ a ns hl _ hS => ⟨a, ns, rfl, hl, hS, fun _ => rfl⟩) fun w H s e s' z => ?_
  · rw [hd] at hmg
    obtain ⟨f, fd, h1, h2, h3⟩ := F w mg fa h KX G hmg
    cases hmg.symm.trans h1
    exact ⟨fd, h2, fun base _ _ => (h3 base).imp sp_imp⟩
  · obtain ⟨_, _, _, _, _, _, _, _, _, _, _, _, z⟩ := z
    exact z
end DL

namespace DL
open PySem PySem.Spec PyProof.Rows L2
theorem DefD.none {W : Wm} {base : Heap} {name : Str} {st : Stmt} {ps : List Str} (D : DefD W name st ps) : FnD W base 0 name ps fun _ _ _ _ => False := by
  obtain ⟨f, fd, hm, F, hb⟩ := D.ex
  exact ⟨f, fd, hm, F.kp, hb, ⟨fun vs H Q E ⟨_, _, _, _, _, _, _, z, _⟩ => z.elim, fun A outer s H args us vs Q E _ _ _ _ ⟨_, _, _, _, _, _, _, z, _⟩ => z.elim⟩⟩
section
variable {X : Cx} {WW : WX} {W : Wm} {p p2 pos pos2 : Pos} {e : Expr} {es : List Expr} {t : TA} {aa : AA}
theorem at_rg {F : Hp} {a b : Int} : AtL W.toWd F (rngD a (b - a).toNat) (rgV a b) := by
  have : ∀ l : List Nat, AtL W.toWd F (l.map fun (i : Nat) => Dat.int (a + (i : Int))) (l.map fun (i : Nat) => V.int (a + (i : Int))) := fun l => by
    induction l with
    | nil => rfl
    | cons x r ih => exact ⟨_, _, rfl, rfl, ih⟩
  exact this _
def rgB (a b : Int) : Prop := -4611686018427387904 ≤ a ∧ a < 4611686018427387904 ∧ -4611686018427387904 ≤ b ∧ b < 4611686018427387904 ∧ (b - a).toNat ≤ 16777216
theorem rgB_ok {a b : Int} (h : rgB a b) : RgOk a b := by
  obtain ⟨h1, h2, h3, h4, h5⟩ := h
  exact ⟨by omega, by omega, by omega, by omega, by omega⟩
/-- the ends of a range -/
def aRgE (aa : AA) (k : Int → Int → Mu → Prop) : XP → Sl → Mu → Prop := fun Xp ρ μ => aa Xp ρ μ fun ds μ1 => ∃ a b, (ds = [.int b] ∧ a = 0 ∨ ds = [.int a, .int b]) ∧ k a b μ1
def aLstRg (a1 b1 : AE) : AE := fun Xp ρ μ Q => a1 Xp ρ μ fun x μ1 => b1 Xp ρ μ1 fun y μ2 => ∃ a b, x = .int a ∧ y = .int b ∧ rgB a b ∧ Q (.lst (rngD a (b - a).toNat)) μ2
def aLstRgM (a1 b1 : AE) : AE := fun Xp ρ μ Q => a1 Xp ρ μ fun x μ1 => b1 Xp ρ μ1 fun y μ2 => ∃ a b, x = .int a ∧ y = .int b ∧ rgB a b ∧ ∀ p, μ2 p = none → Q (.cell p) (mset μ2 p (.lst (rngD a (b - a).toNat)))
def aTupRg (a1 b1 : AE) : AE := fun Xp ρ μ Q => a1 Xp ρ μ fun x μ1 => b1 Xp ρ μ1 fun y μ2 => ∃ a b, x = .int a ∧ y = .int b ∧ rgB a b ∧ Q (.tup (rngD a (b - a).toNat)) μ2
@[simp] theorem u_lstRg {a1 b1 : AE} {Xp : XP} {ρ : Sl} {μ : Mu} {Q : AQ} : aLstRg a1 b1 Xp ρ μ Q = a1 Xp ρ μ fun x μ1 => b1 Xp ρ μ1 fun y μ2 => ∃ a b, x = .int a ∧ y = .int b ∧ rgB a b ∧ Q (.lst (rngD a (b - a).toNat)) μ2 := rfl
@[simp] theorem u_lstRgM {a1 b1 : AE} {Xp : XP} {ρ : Sl} {μ : Mu} {Q : AQ} : aLstRgM a1 b1 Xp ρ μ Q = a1 Xp ρ μ fun x μ1 => b1 Xp ρ μ1 fun y μ2 => ∃ a b, x = .int a ∧ y = .int b ∧ rgB a b ∧ ∀ p, μ2 p = none → Q (.cell p) (mset μ2 p (.lst (rngD a (b - a).toNat))) := rfl
@[simp] theorem u_tupRg {a1 b1 : AE} {Xp : XP} {ρ : Sl} {μ : Mu} {Q : AQ} : aTupRg a1 b1 Xp ρ μ Q = a1 Xp ρ μ fun x μ1 => b1 Xp ρ μ1 fun y μ2 => ∃ a b, x = .int a ∧ y = .int b ∧ rgB a b ∧ Q (.tup (rngD a (b - a).toNat)) μ2 := rfl
section
variable {ea eb : Expr} {ta tb : TE} {a1 b1 : AE}
theorem rg2_sim {kind : V → Hp → V → Hp → Prop} (ha : SimE W WW ta a1) (hb : SimE W WW tb b1) {F : Hp} {μ : Mu} {ρ : Sl} {σ : L2.St} {H : Hp} {Xp : XP} {R : Int → Int → Hp → Prop} {Q : Int → Int → Mu → Prop}
    (rep : Rep W.toWd F μ H) (sl : SlAt W.toWd F ρ σ) (kx : KonX W F μ H Xp WW ρ σ) (q : a1 Xp ρ μ fun x μ1 => b1 Xp ρ μ1 fun y μ2 => ∃ a b, x = .int a ∧ y = .int b ∧ Q a b μ2)
    (k : ∀ F' μ' H' a b, Rep W.toWd F' μ' H' → Step F μ H F' μ' H' → Q a b μ' → R a b H') : tRg2 ta tb σ H R := by
  refine ha F μ ρ σ H Xp _ _ rep sl kx q fun F1 μ1 H1 x vx r1 s1 ax q1 => ?_
  refine hb F1 μ1 ρ σ H1 Xp _ _ r1 (sl.mono s1.ex) (kx.step s1) q1 fun F2 μ2 H2 y vy r2 s2 ay ⟨a, b, e1, e2, q2⟩ => ?_
  subst e1 e2
  cases (show vx = .int a from ax)
  cases (show vy = .int b from ay)
  exact ⟨a, b, rfl, rfl, k _ _ _ _ _ r2 (s1.trans s2) q2⟩
theorem rg1_sim (hb : SimE W WW tb b1) {F : Hp} {μ : Mu} {ρ : Sl} {σ : L2.St} {H : Hp} {Xp : XP} {R : Int → Int → Hp → Prop} {Q : Int → Int → Mu → Prop}
    (rep : Rep W.toWd F μ H) (sl : SlAt W.toWd F ρ σ) (kx : KonX W F μ H Xp WW ρ σ) (q : aC (.int 0) Xp ρ μ fun x μ1 => b1 Xp ρ μ1 fun y μ2 => ∃ a b, x = .int a ∧ y = .int b ∧ Q a b μ2)
    (k : ∀ F' μ' H' a b, Rep W.toWd F' μ' H' → Step F μ H F' μ' H' → Q a b μ' → R a b H') : tRg1 tb σ H R := by
  refine hb F μ ρ σ H Xp _ _ rep sl kx q fun F2 μ2 H2 y vy r2 s2 ay ⟨a, b, e1, e2, q2⟩ => ?_
  cases e1
  subst e2
  cases (show vy = .int b from ay)
  exact ⟨b, rfl, k _ _ _ _ _ r2 s2 q2⟩
theorem de_listRg2 (c : Ctx X WW) (hm : X.mg "list" = none) (hm2 : X.mg "range" = none) (ha : DE X WW ea ta a1) (hb : DE X WW eb tb b1) (hg : Gl X "list" := by rfl) (hg2 : Gl X "range" := by rfl)
    (na : starEach [ea, eb] X.env = (false, eval ea X.env) :: starEach [eb] X.env := by rfl) (nb : starEach [eb] X.env = (false, eval eb X.env) :: starEach [] X.env := by rfl) (hp : (backTo pos2 (starEach [eb] X.env)).any (·.1) = false := by rfl)
    (nr : starEach [.Call (.Name "range" p2) [ea, eb] [] pos2] X.env = (false, eval (.Call (.Name "range" p2) [ea, eb] [] pos2) X.env) :: starEach [] X.env := by rfl) :
    DE X WW (.Call (.Name "list" p) [.Call (.Name "range" p2) [ea, eb] [] pos2] [] pos) (tLstRg (tRg2 ta tb)) (aLstRg a1 b1) := by
  refine ⟨pe_listRg c.hc hg hm (prg_2 hg2 hm2 ha.p hb.p na nb hp) nr, fun F μ ρ σ H Xp Q R rep sl kx q k => ?_⟩
  refine rg2_sim (kind := fun _ _ _ _ => True) (Q := fun a b μ2 => rgB a b ∧ Q (.lst (rngD a (b - a).toNat)) μ2) ha.s hb.s rep sl kx q fun F' μ' H' a b r st ⟨h1, h2⟩ => ⟨rgB_ok h1, fun q hq => ?_⟩
  exact k _ _ _ _ _ (r.alloc hq) (st.trans (Step.alloc r hq)) (at_newL (r.f_none hq) at_rg) h2
theorem de_listRg2M (c : Ctx X WW) (hm : X.mg "list" = none) (hm2 : X.mg "range" = none) (ha : DE X WW ea ta a1) (hb : DE X WW eb tb b1) (hg : Gl X "list" := by rfl) (hg2 : Gl X "range" := by rfl)
    (na : starEach [ea, eb] X.env = (false, eval ea X.env) :: starEach [eb] X.env := by rfl) (nb : starEach [eb] X.env = (false, eval eb X.env) :: starEach [] X.env := by rfl) (hp : (backTo pos2 (starEach [eb] X.env)).any (·.1) = false := by rfl)
    (nr : starEach [.Call (.Name "range" p2) [ea, eb] [] pos2] X.env = (false, eval (.Call (.Name "range" p2) [ea, eb] [] pos2) X.env) :: starEach [] X.env := by rfl) :
    DE X WW (.Call (.Name "list" p) [.Call (.Name "range" p2) [ea, eb] [] pos2] [] pos) (tLstRg (tRg2 ta tb)) (aLstRgM a1 b1) := by
  refine ⟨pe_listRg c.hc hg hm (prg_2 hg2 hm2 ha.p hb.p na nb hp) nr, fun F μ ρ σ H Xp Q R rep sl kx q k => ?_⟩
  refine rg2_sim (kind := fun _ _ _ _ => True) (Q := fun a b μ2 => rgB a b ∧ ∀ p, μ2 p = none → Q (.cell p) (mset μ2 p (.lst (rngD a (b - a).toNat)))) ha.s hb.s rep sl kx q fun F' μ' H' a b r st ⟨h1, h2⟩ => ⟨rgB_ok h1, fun q hq => ?_⟩
  exact k _ _ _ _ _ (r.allocM (c := .lst _) hq ⟨_, rfl, at_rg⟩) (st.trans (Step.allocM r hq)) (show At (wm X).toWd F' (.cell q) (.ref q) from rfl) (h2 q (r.mu_none hq))
theorem de_listRg1 (c : Ctx X WW) (hm : X.mg "list" = none) (hm2 : X.mg "range" = none) (hb : DE X WW eb tb b1) (hg : Gl X "list" := by rfl) (hg2 : Gl X "range" := by rfl) (nb : starEach [eb] X.env = (false, eval eb X.env) :: starEach [] X.env := by rfl)
    (nr : starEach [.Call (.Name "range" p2) [eb] [] pos2] X.env = (false, eval (.Call (.Name "range" p2) [eb] [] pos2) X.env) :: starEach [] X.env := by rfl) :
    DE X WW (.Call (.Name "list" p) [.Call (.Name "range" p2) [eb] [] pos2] [] pos) (tLstRg (tRg1 tb)) (aLstRg (aC (.int 0)) b1) := by
  refine ⟨pe_listRg c.hc hg hm (prg_1 hg2 hm2 hb.p nb) nr, fun F μ ρ σ H Xp Q R rep sl kx q k => ?_⟩
  refine rg1_sim (Q := fun a b μ2 => rgB a b ∧ Q (.lst (rngD a (b - a).toNat)) μ2) hb.s rep sl kx q fun F' μ' H' a b r st ⟨h1, h2⟩ => ⟨rgB_ok h1, fun q hq => ?_⟩
  exact k _ _ _ _ _ (r.alloc hq) (st.trans (Step.alloc r hq)) (at_newL (r.f_none hq) at_rg) h2
theorem de_listRg1M (c : Ctx X WW) (hm : X.mg "list" = none) (hm2 : X.mg "range" = none) (hb : DE X WW eb tb b1) (hg : Gl X "list" := by rfl) (hg2 : Gl X "range" := by rfl) (nb : starEach [eb] X.env = (false, eval eb X.env) :: starEach [] X.env := by rfl)
    (nr : starEach [.Call (.Name "range" p2) [eb] [] pos2] X.env = (false, eval (.Call (.Name "range" p2) [eb] [] pos2) X.env) :: starEach [] X.env := by rfl) :
    DE X WW (.Call (.Name "list" p) [.Call (.Name "range" p2) [eb] [] pos2] [] pos) (tLstRg (tRg1 tb)) (aLstRgM (aC (.int 0)) b1) := by
  refine ⟨pe_listRg c.hc hg hm (prg_1 hg2 hm2 hb.p nb) nr, fun F μ ρ σ H Xp Q R rep sl kx q k => ?_⟩
  refine rg1_sim (Q := fun a b μ2 => rgB a b ∧ ∀ p, μ2 p = none → Q (.cell p) (mset μ2 p (.lst (rngD a (b - a).toNat)))) hb.s rep sl kx q fun F' μ' H' a b r st ⟨h1, h2⟩ => ⟨rgB_ok h1, fun q hq => ?_⟩
  exact k _ _ _ _ _ (r.allocM (c := .lst _) hq ⟨_, rfl, at_rg⟩) (st.trans (Step.allocM r hq)) (show At (wm X).toWd F' (.cell q) (.ref q) from rfl) (h2 q (r.mu_none hq))
theorem de_tupRg2 (c : Ctx X WW) (hm : X.mg "tuple" = none) (hm2 : X.mg "range" = none) (ha : DE X WW ea ta a1) (hb : DE X WW eb tb b1) (hg : Gl X "tuple" := by rfl) (hg2 : Gl X "range" := by rfl)
    (na : starEach [ea, eb] X.env = (false, eval ea X.env) :: starEach [eb] X.env := by rfl) (nb : starEach [eb] X.env = (false, eval eb X.env) :: starEach [] X.env := by rfl) (hp : (backTo pos2 (starEach [eb] X.env)).any (·.1) = false := by rfl)
    (nr : starEach [.Call (.Name "range" p2) [ea, eb] [] pos2] X.env = (false, eval (.Call (.Name "range" p2) [ea, eb] [] pos2) X.env) :: starEach [] X.env := by rfl) :
    DE X WW (.Call (.Name "tuple" p) [.Call (.Name "range" p2) [ea, eb] [] pos2] [] pos) (tTupRg (tRg2 ta tb)) (aTupRg a1 b1) := by
  refine ⟨pe_tupRg c.hc hg hm (prg_2 hg2 hm2 ha.p hb.p na nb hp) nr, fun F μ ρ σ H Xp Q R rep sl kx q k => ?_⟩
  refine rg2_sim (kind := fun _ _ _ _ => True) (Q := fun a b μ2 => rgB a b ∧ Q (.tup (rngD a (b - a).toNat)) μ2) ha.s hb.s rep sl kx q fun F' μ' H' a b r st ⟨h1, h2⟩ => ⟨rgB_ok h1, fun q hq => ?_⟩
  exact k _ _ _ _ _ (r.alloc hq) (st.trans (Step.alloc r hq)) (at_newT (r.f_none hq) at_rg) h2
theorem de_tupRg1 (c : Ctx X WW) (hm : X.mg "tuple" = none) (hm2 : X.mg "range" = none) (hb : DE X WW eb tb b1) (hg : Gl X "tuple" := by rfl) (hg2 : Gl X "range" := by rfl) (nb : starEach [eb] X.env = (false, eval eb X.env) :: starEach [] X.env := by rfl)
    (nr : starEach [.Call (.Name "range" p2) [eb] [] pos2] X.env = (false, eval (.Call (.Name "range" p2) [eb] [] pos2) X.env) :: starEach [] X.env := by rfl) :
    DE X WW (.Call (.Name "tuple" p) [.Call (.Name "range" p2) [eb] [] pos2] [] pos) (tTupRg (tRg1 tb)) (aTupRg (aC (.int 0)) b1) := by
  refine ⟨pe_tupRg c.hc hg hm (prg_1 hg2 hm2 hb.p nb) nr, fun F μ ρ σ H Xp Q R rep sl kx q k => ?_⟩
  refine rg1_sim (Q := fun a b μ2 => rgB a b ∧ Q (.tup (rngD a (b - a).toNat)) μ2) hb.s rep sl kx q fun F' μ' H' a b r st ⟨h1, h2⟩ => ⟨rgB_ok h1, fun q hq => ?_⟩
  exact k _ _ _ _ _ (r.alloc hq) (st.trans (Step.alloc r hq)) (at_newT (r.f_none hq) at_rg) h2
end
end
end DL

namespace DL
open PySem PySem.Spec PyProof.Rows L2
@[simp] theorem u_never {D : AEnds} {ρ : Sl} {μ : Mu} : sNever D ρ μ = False := rfl
/-! ### in -/
theorem inF_ints (i : Int) (xs : List Int) : inF (.int i) (xs.map .int) = decide (i ∈ xs) := by
  unfold inF
  rw [List.any_map]
  induction xs with
  | nil => simp
  | cons x r ih =>
    rw [List.any_cons, ih]
    by_cases h : x = i
    · subst h
      simp [eqF]
    · have h' : ¬ i = x := fun z => h z.symm
      simp [eqF, h, h']
theorem inF_strs (i : Str) (xs : List Str) : inF (.str i) (xs.map .str) = decide (i ∈ xs) := by
  unfold inF
  rw [List.any_map]
  induction xs with
  | nil => simp
  | cons x r ih =>
    rw [List.any_cons, ih]
    by_cases h : x = i
    · subst h
      simp [eqF]
    · have h' : ¬ i = x := fun z => h z.symm
      simp [eqF, h, h']
theorem flat_ints (xs : List Int) : (xs.map Dat.int).all flatD = true := by simp [flatD]
theorem flat_strs (xs : List Str) : (xs.map Dat.str).all flatD = true := by simp [flatD]
theorem inB_ints {μ : Mu} {y : Dat} {i : Int} {xs : List Int} (h : seqOf μ y = some (xs.map .int)) : inB μ (.int i) y (decide (i ∈ xs)) := .inl ⟨_, h, rfl, flat_ints xs, (inF_ints i xs).symm⟩
theorem inB_strs {μ : Mu} {y : Dat} {i : Str} {xs : List Str} (h : seqOf μ y = some (xs.map .str)) : inB μ (.str i) y (decide (i ∈ xs)) := .inl ⟨_, h, rfl, flat_strs xs, (inF_strs i xs).symm⟩
theorem inB_setS {μ : Mu} {ks : List Str} {i : Str} : inB μ (.str i) (.set (ks.map Sum.inr)) (decide (i ∈ ks)) := .inr (.inl ⟨_, _, rfl, rfl, by simp⟩)
theorem inB_setI {μ : Mu} {ks : List Int} {i : Int} : inB μ (.int i) (.set (ks.map Sum.inl)) (decide (i ∈ ks)) := .inr (.inl ⟨_, _, rfl, rfl, by simp⟩)
/-! ### == of plain data -/
mutual
/-- plain data of at most this depth -/
def plainD : Nat → Dat → Bool
  | _, .non => true
  | _, .bl _ => true
  | _, .int _ => true
  | _, .str x => PyData.strOk x
  | n + 1, .tup ds => plainDs n ds
  | n + 1, .lst ds => plainDs n ds
  | n + 1, .ro ds => plainDs n ds
  | _, _ => false
def plainDs : Nat → List Dat → Bool
  | _, [] => true
  | n, d :: ds => plainD n d && plainDs n ds
end
mutual
/-- == -/
def eqD : Dat → Dat → Bool
  | .non, .non => true
  | .bl a, .bl b => a == b
  | .bl a, .int j => (if a then 1 else 0) == j
  | .int i, .bl b => i == (if b then 1 else 0)
  | .int i, .int j => i == j
  | .str x, .str y => x == y
  | .tup xs, .tup ys => eqDs xs ys
  | .lst xs, .lst ys => eqDs xs ys
  | .lst xs, .ro ys => eqDs xs ys
  | .ro xs, .lst ys => eqDs xs ys
  | .ro xs, .ro ys => eqDs xs ys
  | _, _ => false
def eqDs : List Dat → List Dat → Bool
  | [], [] => true
  | x :: xs, y :: ys => eqD x y && eqDs xs ys
  | _, _ => false
end
mutual
theorem py_plain : ∀ (n : Nat) (d : Dat), plainD n d = true → ∃ x, pyOf d = some x ∧ x.canLay0 = true ∧ x.depth ≤ n
  | _, .non, _ => ⟨_, rfl, rfl, Nat.zero_le _⟩
  | _, .bl _, _ => ⟨_, rfl, rfl, Nat.zero_le _⟩
  | _, .int _, _ => ⟨_, rfl, rfl, Nat.zero_le _⟩
  | n, .str x, h => ⟨_, rfl, by cases n <;> exact h, Nat.zero_le _⟩
  | n + 1, .tup ds, h => by
    obtain ⟨xs, e, c, k⟩ := pys_plain n ds h
    exact ⟨.tuple xs, by simp only [pyOf, e]; rfl, c, Nat.succ_le_succ k⟩
  | n + 1, .lst ds, h => by
    obtain ⟨xs, e, c, k⟩ := pys_plain n ds h
    exact ⟨.list xs, by simp only [pyOf, e]; rfl, c, Nat.succ_le_succ k⟩
  | n + 1, .ro ds, h => by
    obtain ⟨xs, e, c, k⟩ := pys_plain n ds h
    exact ⟨.list xs, by simp only [pyOf, e]; rfl, c, Nat.succ_le_succ k⟩
  | 0, .tup ds, h => nomatch h
  | 0, .lst ds, h => nomatch h
  | 0, .ro ds, h => nomatch h
  | 0, .ty _, h => nomatch h
  | 0, .cell _, h => nomatch h
  | 0, .dic _ _, h => nomatch h
  | 0, .set _, h => nomatch h
  | 0, .ins _ _ _, h => nomatch h
  | 0, .exn _ _ _ _, h => nomatch h
  | 0, .exv _ _ _, h => nomatch h
  | n + 1, .ty _, h => nomatch h
  | n + 1, .cell _, h => nomatch h
  | n + 1, .dic _ _, h => nomatch h
  | n + 1, .set _, h => nomatch h
  | n + 1, .ins _ _ _, h => nomatch h
  | n + 1, .exn _ _ _ _, h => nomatch h
  | n + 1, .exv _ _ _, h => nomatch h
theorem pys_plain : ∀ (n : Nat) (ds : List Dat), plainDs n ds = true → ∃ xs, pyOfL ds = some xs ∧ PyData.canLayAll0 xs = true ∧ PyData.depthAll xs ≤ n
  | _, [], _ => ⟨[], rfl, rfl, Nat.zero_le _⟩
  | n, d :: ds, h => by
    have h' : plainD n d = true ∧ plainDs n ds = true := by
      have : (plainD n d && plainDs n ds) = true := by cases n <;> exact h
      exact Bool.and_eq_true_iff.mp this
    obtain ⟨x, e, c, k⟩ := py_plain n d h'.1
    obtain ⟨xs, e', c', k'⟩ := pys_plain n ds h'.2
    exact ⟨x :: xs, by simp only [pyOfL, e, e'], Bool.and_eq_true_iff.mpr ⟨c, c'⟩, Nat.max_le.mpr ⟨k, k'⟩⟩
end
mutual
theorem eqv_D : ∀ (d e : Dat) (x y : PyData), pyOf d = some x → pyOf e = some y → PyData.eqv x y = eqD d e
  | .non, e, _, _, h, k => by cases h; cases e <;> simp only [pyOf, Option.map_eq_some_iff, Option.some.injEq, reduceCtorEq] at k <;> first | (subst k; rfl) | (obtain ⟨_, _, rfl⟩ := k; rfl)
  | .bl _, e, _, _, h, k => by cases h; cases e <;> simp only [pyOf, Option.map_eq_some_iff, Option.some.injEq, reduceCtorEq] at k <;> first | (subst k; rfl) | (obtain ⟨_, _, rfl⟩ := k; rfl)
  | .int _, e, _, _, h, k => by cases h; cases e <;> simp only [pyOf, Option.map_eq_some_iff, Option.some.injEq, reduceCtorEq] at k <;> first | (subst k; rfl) | (obtain ⟨_, _, rfl⟩ := k; rfl)
  | .str _, e, _, _, h, k => by cases h; cases e <;> simp only [pyOf, Option.map_eq_some_iff, Option.some.injEq, reduceCtorEq] at k <;> first | (subst k; rfl) | (obtain ⟨_, _, rfl⟩ := k; rfl)
  | .tup ds, e, _, _, h, k => by
    simp only [pyOf, Option.map_eq_some_iff] at h
    obtain ⟨xs, hx, rfl⟩ := h
    cases e <;> simp only [pyOf, Option.map_eq_some_iff, Option.some.injEq, reduceCtorEq] at k <;> first | (subst k; rfl) | (obtain ⟨ys, hy, rfl⟩ := k; first | rfl | exact eqvs_D ds _ xs ys hx hy)
  | .lst ds, e, _, _, h, k => by
    simp only [pyOf, Option.map_eq_some_iff] at h
    obtain ⟨xs, hx, rfl⟩ := h
    cases e <;> simp only [pyOf, Option.map_eq_some_iff, Option.some.injEq, reduceCtorEq] at k <;> first | (subst k; rfl) | (obtain ⟨ys, hy, rfl⟩ := k; first | rfl | exact eqvs_D ds _ xs ys hx hy)
  | .ro ds, e, _, _, h, k => by
    simp only [pyOf, Option.map_eq_some_iff] at h
    obtain ⟨xs, hx, rfl⟩ := h
    cases e <;> simp only [pyOf, Option.map_eq_some_iff, Option.some.injEq, reduceCtorEq] at k <;> first | (subst k; rfl) | (obtain ⟨ys, hy, rfl⟩ := k; first | rfl | exact eqvs_D ds _ xs ys hx hy)
  | .ty _, _, _, _, h, _ => nomatch h
  | .cell _, _, _, _, h, _ => nomatch h
  | .dic _ _, _, _, _, h, _ => nomatch h
  | .set _, _, _, _, h, _ => nomatch h
  | .ins _ _ _, _, _, _, h, _ => nomatch h
  | .exn _ _ _ _, _, _, _, h, _ => nomatch h
  | .exv _ _ _, _, _, _, h, _ => nomatch h
theorem eqvs_D : ∀ (ds es : List Dat) (xs ys : List PyData), pyOfL ds = some xs → pyOfL es = some ys → PyData.eqvAll xs ys = eqDs ds es
  | [], [], _, _, h, k => by cases h; cases k; rfl
  | [], e :: es, _, _, h, k => by
    cases h
    simp only [pyOfL] at k
    split at k
    · cases k
      rfl
    · cases k
  | d :: ds, [], _, _, h, k => by
    cases k
    simp only [pyOfL] at h
    split at h
    · cases h
      rfl
    · cases h
  | d :: ds, e :: es, _, _, h, k => by
    simp only [pyOfL] at h k
    split at h
    · rename_i x xs hx hxs
      cases h
      split at k
      · rename_i y ys hy hys
        cases k
        show (PyData.eqv x y && PyData.eqvAll xs ys) = (eqD d e && eqDs ds es)
        rw [eqv_D d e x y hx hy, eqvs_D ds es xs ys hxs hys]
      · cases k
    · cases h
end
/-- what a value is, a cell looked up -/
def seenD (μ : Mu) : Dat → Dat
  | .cell a => match μ a with
    | some (.lst ds) => .lst ds
    | _ => .cell a
  | d => d
theorem top_seen {μ : Mu} {x : Dat} {n : Nat} (h : plainD n (seenD μ x) = true) : ∃ d, pyTop μ x = some d ∧ pyOf (seenD μ x) = some d ∧ d.canLay0 = true ∧ d.depth ≤ n := by
  obtain ⟨d, e, c, k⟩ := py_plain n _ h
  refine ⟨d, ?_, e, c, k⟩
  cases x with
  | cell a =>
    unfold seenD at h e
    cases q : μ a with
    | none =>
      simp only [q] at e
      cases e
    | some u =>
      cases u with
      | lst ds =>
        simp only [q] at e
        simp only [pyTop, lstOf, q]
        exact e
      | _ =>
        simp only [q] at e
        cases e
  | _ => exact e
theorem eqB_of {μ : Mu} {x y : Dat} (hx : plainD 64 (seenD μ x) = true) (hy : plainD 64 (seenD μ y) = true) : eqB μ x y (eqD (seenD μ x) (seenD μ y)) := by
  obtain ⟨d, t1, e1, c1, k1⟩ := top_seen hx
  obtain ⟨e, t2, e2, c2, k2⟩ := top_seen hy
  have h : PyData.eqv d e = eqD (seenD μ x) (seenD μ y) := eqv_D _ _ _ _ e1 e2
  have g : eqB μ x y (PyData.eqv d e) ∨ ∃ d e, pyTop μ x = some d ∧ pyTop μ y = some e ∧ SeqAt.shaped d = true ∧ SeqAt.shaped e = true ∧ PyData.eqv d e = PyData.eqv d e := .inr ⟨d, e, t1, t2, Bool.and_eq_true_iff.mpr ⟨c1, decide_eq_true k1⟩, Bool.and_eq_true_iff.mpr ⟨c2, decide_eq_true k2⟩, rfl⟩
  rw [← h]
  have s1 : SeqAt.shaped d = true := Bool.and_eq_true_iff.mpr ⟨c1, decide_eq_true k1⟩
  have s2 : SeqAt.shaped e = true := Bool.and_eq_true_iff.mpr ⟨c2, decide_eq_true k2⟩
  unfold eqB
  split
  · cases t1; cases t2; exact Bool.eq_iff_iff.mpr (by show (_ == _) = true ↔ _; rw [beq_iff_eq, decide_eq_true_iff])
  · cases t1; cases t2; exact Bool.eq_iff_iff.mpr (by show (_ == _) = true ↔ _; rw [beq_iff_eq, decide_eq_true_iff])
  · cases t1; cases t2; exact Bool.eq_iff_iff.mpr (by show (_ == _) = true ↔ _; rw [beq_iff_eq, decide_eq_true_iff])
  · exact ⟨d, e, t1, t2, s1, s2, rfl⟩
theorem fEq_of {μ : Mu} {x y : Dat} {Q : AQ} (hx : plainD 64 (seenD μ x) = true) (hy : plainD 64 (seenD μ y) = true) (q : Q (.bl (eqD (seenD μ x) (seenD μ y))) μ) : fEq x y μ Q := ⟨_, eqB_of hx hy, q⟩
theorem fNe_of {μ : Mu} {x y : Dat} {Q : AQ} (hx : plainD 64 (seenD μ x) = true) (hy : plainD 64 (seenD μ y) = true) (q : Q (.bl (!eqD (seenD μ x) (seenD μ y))) μ) : fNe x y μ Q := ⟨_, eqB_of hx hy, q⟩

/-! plain lists of texts and ints -/
theorem plainDs_map {α : Type} {n : Nat} {f : α → Dat} : ∀ (xs : List α), (∀ x ∈ xs, plainD n (f x) = true) → plainDs n (xs.map f) = true
  | [], _ => by cases n <;> rfl
  | x :: r, h => by
    have h1 := h x List.mem_cons_self
    have h2 := plainDs_map r fun y hy => h y (List.mem_cons_of_mem x hy)
    rw [List.map_cons]
    cases n <;> exact Bool.and_eq_true_iff.mpr ⟨h1, h2⟩
theorem plain_int {n : Nat} {i : Int} : plainD n (.int i) = true := by cases n <;> rfl
theorem plain_str {n : Nat} {x : Str} (h : PyData.strOk x = true) : plainD n (.str x) = true := by cases n <;> exact h
theorem plain_bl {n : Nat} {b : Bool} : plainD n (.bl b) = true := by cases n <;> rfl
theorem plain_non {n : Nat} : plainD n .non = true := by cases n <;> rfl
theorem plain_ints {n : Nat} {xs : List Int} : plainD (n + 1) (.lst (xs.map .int)) = true := plainDs_map xs fun _ _ => plain_int
theorem plain_strs {n : Nat} {xs : List Str} (h : ∀ x ∈ xs, PyData.strOk x = true) : plainD (n + 1) (.lst (xs.map .str)) = true := plainDs_map xs fun x hx => plain_str (h x hx)
theorem plain_nil {n : Nat} : plainD (n + 1) (.lst []) = true := by cases n <;> rfl
theorem eqDs_map {α : Type} {f : α → Dat} [DecidableEq α] : ∀ (xs ys : List α), (∀ x ∈ xs, ∀ y ∈ ys, eqD (f x) (f y) = decide (x = y)) → eqDs (xs.map f) (ys.map f) = decide (xs = ys)
  | [], [], _ => rfl
  | [], y :: ys, _ => rfl
  | x :: xs, [], _ => rfl
  | x :: xs, y :: ys, h => by
    have h1 := h x List.mem_cons_self y List.mem_cons_self
    have h2 := eqDs_map xs ys fun a ha b hb => h a (List.mem_cons_of_mem x ha) b (List.mem_cons_of_mem y hb)
    rw [List.map_cons, List.map_cons]
    show (eqD (f x) (f y) && eqDs (xs.map f) (ys.map f)) = _
    rw [h1, h2]
    by_cases a : x = y <;> by_cases b : xs = ys <;> simp [a, b]
theorem eqD_int {i j : Int} : eqD (.int i) (.int j) = decide (i = j) := rfl
theorem eqD_str {i j : Str} : eqD (.str i) (.str j) = decide (i = j) := Bool.eq_iff_iff.mpr (by show (_ == _) = true ↔ _; rw [beq_iff_eq, decide_eq_true_iff])
@[simp] theorem eqD_nil {ds : List Dat} : eqD (.lst ds) (.lst []) = ds.isEmpty := by cases ds <;> rfl
@[simp] theorem seenD_cell {μ : Mu} {p : Addr} {ds : List Dat} (h : μ p = some (.lst ds)) : seenD μ (.cell p) = .lst ds := by
  simp only [seenD, h]
@[simp] theorem seenD_lst {μ : Mu} {ds : List Dat} : seenD μ (.lst ds) = .lst ds := rfl
@[simp] theorem seenD_tup {μ : Mu} {ds : List Dat} : seenD μ (.tup ds) = .tup ds := rfl
theorem enumD_map {α : Type} (f : α → Dat) (xs : List α) : enumD (xs.map f) = xs.zipIdx.map fun p => Dat.tup [.int (p.2 : Nat), f p.1] := by
  unfold enumD
  rw [List.zipIdx_map, List.map_map]
  rfl
@[simp] theorem inB_lst {μ : Mu} {x : Dat} {ds : List Dat} {b : Bool} : inB μ x (.lst ds) b ↔ flatD x = true ∧ ds.all flatD = true ∧ b = inF x ds := by
  simp [inB, setOf, dicOf]
@[simp] theorem inB_tup {μ : Mu} {x : Dat} {ds : List Dat} {b : Bool} : inB μ x (.tup ds) b ↔ flatD x = true ∧ ds.all flatD = true ∧ b = inF x ds := by
  simp [inB, setOf, dicOf]
@[simp] theorem inB_ro {μ : Mu} {x : Dat} {ds : List Dat} {b : Bool} : inB μ x (.ro ds) b ↔ flatD x = true ∧ ds.all flatD = true ∧ b = inF x ds := by
  simp [inB, setOf, dicOf]
@[simp] theorem flatD_int {i : Int} : flatD (.int i) = true := rfl
@[simp] theorem flatD_str {i : Str} : flatD (.str i) = true := rfl
@[simp] theorem flatD_bl {i : Bool} : flatD (.bl i) = true := rfl
@[simp] theorem flatD_non : flatD .non = true := rfl
@[simp] theorem inF_nil {x : Dat} : inF x [] = false := rfl
@[simp] theorem inF_cons {x y : Dat} {ds : List Dat} : inF x (y :: ds) = (eqF y x || inF x ds) := rfl
@[simp] theorem eqF_int {i j : Int} : eqF (.int i) (.int j) = decide (i = j) := rfl
@[simp] theorem eqF_str {i j : Str} : eqF (.str i) (.str j) = decide (i = j) := Bool.eq_iff_iff.mpr (by show (_ == _) = true ↔ _; rw [beq_iff_eq, decide_eq_true_iff])
mutual
theorem plainD_mono : ∀ (n m : Nat) (d : Dat), n ≤ m → plainD n d = true → plainD m d = true
  | _, m, .non, _, _ => by cases m <;> rfl
  | _, m, .bl _, _, _ => by cases m <;> rfl
  | _, m, .int _, _, _ => by cases m <;> rfl
  | n, m, .str x, _, h => by
    have h' : PyData.strOk x = true := by cases n <;> exact h
    cases m <;> exact h'
  | n + 1, m + 1, .tup ds, l, h => plainDs_mono n m ds (Nat.le_of_succ_le_succ l) h
  | n + 1, m + 1, .lst ds, l, h => plainDs_mono n m ds (Nat.le_of_succ_le_succ l) h
  | n + 1, m + 1, .ro ds, l, h => plainDs_mono n m ds (Nat.le_of_succ_le_succ l) h
  | n + 1, 0, _, l, _ => by omega
  | 0, _, .tup ds, _, h => nomatch h
  | 0, _, .lst ds, _, h => nomatch h
  | 0, _, .ro ds, _, h => nomatch h
  | 0, _, .ty _, _, h => nomatch h
  | 0, _, .cell _, _, h => nomatch h
  | 0, _, .dic _ _, _, h => nomatch h
  | 0, _, .set _, _, h => nomatch h
  | 0, _, .ins _ _ _, _, h => nomatch h
  | 0, _, .exn _ _ _ _, _, h => nomatch h
  | 0, _, .exv _ _ _, _, h => nomatch h
  | n + 1, _, .ty _, _, h => nomatch h
  | n + 1, _, .cell _, _, h => nomatch h
  | n + 1, _, .dic _ _, _, h => nomatch h
  | n + 1, _, .set _, _, h => nomatch h
  | n + 1, _, .ins _ _ _, _, h => nomatch h
  | n + 1, _, .exn _ _ _ _, _, h => nomatch h
  | n + 1, _, .exv _ _ _, _, h => nomatch h
theorem plainDs_mono : ∀ (n m : Nat) (ds : List Dat), n ≤ m → plainDs n ds = true → plainDs m ds = true
  | _, m, [], _, _ => by cases m <;> rfl
  | n, m, d :: ds, l, h => by
    have h' : plainD n d = true ∧ plainDs n ds = true := by
      have : (plainD n d && plainDs n ds) = true := by cases n <;> exact h
      exact Bool.and_eq_true_iff.mp this
    have r : (plainD m d && plainDs m ds) = true := Bool.and_eq_true_iff.mpr ⟨plainD_mono n m d l h'.1, plainDs_mono n m ds l h'.2⟩
    cases m <;> exact r
end
theorem plain_tup {n : Nat} {ds : List Dat} (h : ∀ d ∈ ds, plainD n d = true) : plainD (n + 1) (.tup ds) = true := by
  have := plainDs_map (f := id) ds h
  rw [List.map_id] at this
  exact this
theorem plain_lst {n : Nat} {ds : List Dat} (h : ∀ d ∈ ds, plainD n d = true) : plainD (n + 1) (.lst ds) = true := by
  have := plainDs_map (f := id) ds h
  rw [List.map_id] at this
  exact this
/-! isinstance -/
@[simp] theorem u_isi {x : Dat} {T : String} {μ : Mu} {Q : AQ} : fIsi [x, .ty T] μ Q ↔ isiT T ∧ ∃ t, tyD μ x = some t ∧ ∃ b, isi t T = some b ∧ Q (.bl b) μ := by
  constructor
  · rintro ⟨x', T', t, b, e, h1, h2, h3, q⟩
    cases e
    exact ⟨h1, t, h2, b, h3, q⟩
  · rintro ⟨h1, t, h2, b, h3, q⟩
    exact ⟨x, T, t, b, rfl, h1, h2, h3, q⟩
@[simp] theorem isiT_int : isiT "int" := by unfold isiT; decide
@[simp] theorem isiT_bool : isiT "bool" := by unfold isiT; decide
@[simp] theorem isiT_str : isiT "str" := by unfold isiT; decide
@[simp] theorem isiT_tuple : isiT "tuple" := by unfold isiT; decide
@[simp] theorem isiT_list : isiT "list" := by unfold isiT; decide
@[simp] theorem isiT_dict : isiT "dict" := by unfold isiT; decide
@[simp] theorem isi_NoneType_int : isi "NoneType" "int" = some false := by decide +kernel
@[simp] theorem isi_NoneType_bool : isi "NoneType" "bool" = some false := by decide +kernel
@[simp] theorem isi_NoneType_str : isi "NoneType" "str" = some false := by decide +kernel
@[simp] theorem isi_NoneType_tuple : isi "NoneType" "tuple" = some false := by decide +kernel
@[simp] theorem isi_NoneType_list : isi "NoneType" "list" = some false := by decide +kernel
@[simp] theorem isi_NoneType_dict : isi "NoneType" "dict" = some false := by decide +kernel
@[simp] theorem isi_bool_int : isi "bool" "int" = some true := by decide +kernel
@[simp] theorem isi_bool_bool : isi "bool" "bool" = some true := by decide +kernel
@[simp] theorem isi_bool_str : isi "bool" "str" = some false := by decide +kernel
@[simp] theorem isi_bool_tuple : isi "bool" "tuple" = some false := by decide +kernel
@[simp] theorem isi_bool_list : isi "bool" "list" = some false := by decide +kernel
@[simp] theorem isi_bool_dict : isi "bool" "dict" = some false := by decide +kernel
@[simp] theorem isi_int_int : isi "int" "int" = some true := by decide +kernel
@[simp] theorem isi_int_bool : isi "int" "bool" = some false := by decide +kernel
@[simp] theorem isi_int_str : isi "int" "str" = some false := by decide +kernel
@[simp] theorem isi_int_tuple : isi "int" "tuple" = some false := by decide +kernel
@[simp] theorem isi_int_list : isi "int" "list" = some false := by decide +kernel
@[simp] theorem isi_int_dict : isi "int" "dict" = some false := by decide +kernel
@[simp] theorem isi_str_int : isi "str" "int" = some false := by decide +kernel
@[simp] theorem isi_str_bool : isi "str" "bool" = some false := by decide +kernel
@[simp] theorem isi_str_str : isi "str" "str" = some true := by decide +kernel
@[simp] theorem isi_str_tuple : isi "str" "tuple" = some false := by decide +kernel
@[simp] theorem isi_str_list : isi "str" "list" = some false := by decide +kernel
@[simp] theorem isi_str_dict : isi "str" "dict" = some false := by decide +kernel
@[simp] theorem isi_tuple_int : isi "tuple" "int" = some false := by decide +kernel
@[simp] theorem isi_tuple_bool : isi "tuple" "bool" = some false := by decide +kernel
@[simp] theorem isi_tuple_str : isi "tuple" "str" = some false := by decide +kernel
@[simp] theorem isi_tuple_tuple : isi "tuple" "tuple" = some true := by decide +kernel
@[simp] theorem isi_tuple_list : isi "tuple" "list" = some false := by decide +kernel
@[simp] theorem isi_tuple_dict : isi "tuple" "dict" = some false := by decide +kernel
@[simp] theorem isi_list_int : isi "list" "int" = some false := by decide +kernel
@[simp] theorem isi_list_bool : isi "list" "bool" = some false := by decide +kernel
@[simp] theorem isi_list_str : isi "list" "str" = some false := by decide +kernel
@[simp] theorem isi_list_tuple : isi "list" "tuple" = some false := by decide +kernel
@[simp] theorem isi_list_list : isi "list" "list" = some true := by decide +kernel
@[simp] theorem isi_list_dict : isi "list" "dict" = some false := by decide +kernel
@[simp] theorem isi_dict_int : isi "dict" "int" = some false := by decide +kernel
@[simp] theorem isi_dict_bool : isi "dict" "bool" = some false := by decide +kernel
@[simp] theorem isi_dict_str : isi "dict" "str" = some false := by decide +kernel
@[simp] theorem isi_dict_tuple : isi "dict" "tuple" = some false := by decide +kernel
@[simp] theorem isi_dict_list : isi "dict" "list" = some false := by decide +kernel
@[simp] theorem isi_dict_dict : isi "dict" "dict" = some true := by decide +kernel
@[simp] theorem tyD_non {μ : Mu} : tyD μ .non = some "NoneType" := rfl
@[simp] theorem tyD_bl {μ : Mu} {b : Bool} : tyD μ (.bl b) = some "bool" := rfl
@[simp] theorem tyD_int {μ : Mu} {i : Int} : tyD μ (.int i) = some "int" := rfl
@[simp] theorem tyD_str {μ : Mu} {x : Str} : tyD μ (.str x) = some "str" := rfl
@[simp] theorem tyD_tup {μ : Mu} {ds : List Dat} : tyD μ (.tup ds) = some "tuple" := rfl
@[simp] theorem tyD_lst {μ : Mu} {ds : List Dat} : tyD μ (.lst ds) = some "list" := rfl
@[simp] theorem tyD_dic {μ : Mu} {ks : List Key} {ds : List Dat} : tyD μ (.dic ks ds) = some "dict" := rfl
theorem tyD_cell {μ : Mu} {p : Addr} {ds : List Dat} (h : μ p = some (.lst ds)) : tyD μ (.cell p) = some "list" := by simp only [tyD, h]
@[simp] theorem isiAny_nil {t : String} : isiAny t [] = false := rfl
@[simp] theorem isiAny_cons {t T : String} {Ts : List String} : isiAny t (T :: Ts) = ((isi t T == some true) || isiAny t Ts) := rfl
theorem tys_2 {S T : String} {Ts : List String} : ([Dat.ty S, Dat.ty T] = Ts.map Dat.ty) ↔ Ts = [S, T] := by
  constructor
  · intro h
    match Ts, h with
    | [a, b], h => simp at h; rw [h.1, h.2]
    | [], h => simp at h
    | [a], h => simp at h
    | a :: b :: d :: r, h => simp at h
  · intro h
    rw [h]
    rfl
theorem seenD_eq {μ : Mu} {x y : Dat} (h : seenD μ x = y) : x = y ∨ ∃ p ds, x = .cell p ∧ μ p = some (.lst ds) ∧ y = .lst ds := by
  cases x with
  | cell a =>
    unfold seenD at h
    cases q : μ a with
    | none =>
      simp only [q] at h
      exact .inl h
    | some u =>
      cases u with
      | lst ds =>
        simp only [q] at h
        exact .inr ⟨a, ds, rfl, q, h.symm⟩
      | _ =>
        simp only [q] at h
        exact .inl h
  | _ => exact .inl h
theorem mset_id {μ : Mu} {a : Addr} {c : Cell} (h : μ a = some c) : mset μ a c = μ := by
  funext b
  unfold mset
  split
  · rename_i e
    rw [e, h]
  · rfl
theorem Sub.trans {a b c : Mu} (h : DL.Sub a b) (k : DL.Sub b c) : DL.Sub a c := fun x y e => k x y (h x y e)
theorem sub_mset {μ : Mu} {p : Addr} {c : Cell} (h : μ p = none) : DL.Sub μ (mset μ p c) := (DL.Sub.refl μ).mset h
end DL

namespace DL
open PySem PySem.Spec PyProof.Rows L2 HT
/-! t[::-1] of a tuple -/
section
variable {prog : Program} {w : World} {A : Around} {E : Value → Shared → Prop} {s : Shared}
theorem sliceApplied_back {sl : Addr} {vl vu vs : Value} {n : Nat} {Q : Int × Int × Nat → Shared → Prop} (hs : s.heap.IsSliceOf sl vl vu vs) (pl : IsPart vl none) (pu : IsPart vu none) (ps : IsPart vs (some (-1)))
    (h : Q (((n : Int) - 1), -1, n) s) : wpAny (model prog w) A (Builtin.Slice.sliceApplied (.ref sl) (pure (n : Int))) Q E s := by
  obtain ⟨os, hos, hcs, hds⟩ := id hs
  unfold Builtin.Slice.sliceApplied Builtin.Slice.sliceFields
  refine wpAny_bind (wpAny_bind (wpAny_field hos hds (x := vl) rfl (wpAny_bind (wpAny_field hos hds (x := vu) rfl (wpAny_bind (wpAny_field hos hds (x := vs) rfl (wpAny_pure ?_)))))))
  refine wpAny_bind (slicePart_ ps ?_)
  show wpAny _ _ (if ((-1 : Int) == 0) = true then _ else _) _ _ s
  rw [if_neg (by decide)]
  refine wpAny_bind (slicePart_ pl (wpAny_bind (slicePart_ pu (wpAny_bind (wpAny_pure ?_)))))
  show wpAny _ _ (match Builtin.Slice.sliceAdjust none none (-1) (n : Int) with | (lo, hi) => pure (lo, (-1 : Int), Builtin.Slice.slicePlaces lo hi (-1))) _ _ s
  have e : Builtin.Slice.sliceAdjust none none (-1) (n : Int) = ((n : Int) - 1, -1) := by
    unfold Builtin.Slice.sliceAdjust
    simp
  rw [e]
  show wpAny _ _ (pure (((n : Int) - 1), (-1 : Int), Builtin.Slice.slicePlaces ((n : Int) - 1) (-1) (-1))) _ _ s
  have e2 : Builtin.Slice.slicePlaces ((n : Int) - 1) (-1) (-1) = n := by
    unfold Builtin.Slice.slicePlaces
    simp
    split <;> omega
  rw [e2]
  exact wpAny_pure h
theorem filterMap_some {α β : Type} {f : α → Option β} {g : α → β} : ∀ l : List α, (∀ m ∈ l, f m = some (g m)) → l.filterMap f = l.map g
  | [], _ => rfl
  | x :: r, h => by
    rw [List.filterMap_cons, h x List.mem_cons_self, List.map_cons, filterMap_some r fun m hm => h m (List.mem_cons_of_mem x hm)]
theorem pick_back (xs : Array Value) : ((List.range xs.size).filterMap fun (m : Nat) => xs[(((xs.size : Int) - 1) + (m : Int) * (-1)).toNat]?).toArray = xs.toList.reverse.toArray := by
  congr 1
  refine List.ext_getElem? fun i => ?_
  have e : ∀ m ∈ List.range xs.size, xs[(((xs.size : Int) - 1) + (m : Int) * (-1)).toNat]? = some (xs.toList.reverse.getD m .none) := fun m hm => by
    have hm' := List.mem_range.mp hm
    have e1 : (((xs.size : Int) - 1) + (m : Int) * (-1)).toNat = xs.size - 1 - m := by omega
    rw [e1, List.getD_eq_getElem?_getD, List.getElem?_reverse (by rw [Array.length_toList]; exact hm'), Array.length_toList, Array.getElem?_toList, Array.getElem?_eq_getElem (by omega)]
    rfl
  have e2 : (List.range xs.size).filterMap (fun (m : Nat) => xs[(((xs.size : Int) - 1) + (m : Int) * (-1)).toNat]?) = (List.range xs.size).map fun m => xs.toList.reverse.getD m .none := filterMap_some _ e
  rw [e2]
  by_cases h : i < xs.size
  · rw [List.getElem?_map, List.getElem?_range h, Option.map_some, List.getD_eq_getElem?_getD]
    have : i < xs.toList.reverse.length := by rw [List.length_reverse, Array.length_toList]; exact h
    rw [List.getElem?_eq_getElem this]
    rfl
  · rw [List.getElem?_eq_none (by rw [List.length_map, List.length_range]; omega), List.getElem?_eq_none (by rw [List.length_reverse, Array.length_toList]; omega)]
theorem getItem_tuple_back {t sl : Addr} {items : Array Value} {vl vu vs : Value} {Q : Value → Shared → Prop} (ht : IsTup s.heap t items) (hs : s.heap.IsSliceOf sl vl vu vs) (pl : IsPart vl none) (pu : IsPart vu none) (ps : IsPart vs (some (-1)))
    (h : Q (.ref s.heap.objs.size) { s with heap := s.heap.push { cls := .type "tuple", data := .seq items.toList.reverse.toArray } })
    (hsz : items.size ≤ sizeLine) : wpAny (model prog w) A (getItem (.ref t) (.ref sl)) Q E s := by
  have htake : sizeOk (.seq items.toList.reverse.toArray) := by
    show items.toList.reverse.toArray.size ≤ sizeLine
    rw [List.size_toArray, List.length_reverse, Array.length_toList]
    omega
  obtain ⟨os, hos, hcs, hds⟩ := id hs
  have hTs : s.TypeIs (.ref sl) "slice" := ⟨os, hos, hcs⟩
  unfold getItem
  try with_reducible refine wpAny_holding ?_
  first | refine wpAny_bind (wpAny_pure ?_) | skip
  refine wpAny_bind (wpAny_sequenceKey ht.typeIs (by decide) ?_)
  refine wpAny_bind (wpAny_callSpecial?_slot (name := Str.ofString "__getitem__") ht.typeIs PyProof.Rows.slot_tuple_getitem
    (wpAny_call_entry PyProof.Rows.slot_tuple_getitem ht.typeIs entry_tuple_getitem ?_ (args_tuple_getitem _ _)))
  show wpAny _ _ (Builtin.Tuple.tupleItemsOf (.ref t) >>= _) _ _ s
  refine wpAny_bind (tupleItemsOf_ ht ?_)
  refine wpAny_bind (wpAny_typeOf hTs ?_)
  rw [if_pos (by decide)]
  refine wpAny_bind (sliceApplied_back hs pl pu ps ?_)
  have hno : ¬ ((((items.size : Int) - 1) == 0 && (-1 : Int) == 1 && items.size == items.size) = true) := by
    rw [show ((-1 : Int) == 1) = false from rfl, Bool.and_false, Bool.false_and]
    exact Bool.false_ne_true
  show wpAny _ _ (if (((items.size : Int) - 1) == 0 && (-1 : Int) == 1 && items.size == items.size) = true then _ else _) _ _ s
  rw [if_neg hno, pick_back]
  first
    | exact wpAny_bind (m := Builtin.Tuple.tupleExact _) (wpAny_newObj_type (wpAny_pure ⟨_, rfl, wpAny_pure h⟩) htake)
    | exact wpAny_bind (m := Builtin.Tuple.tupleExact _) (wpAny_newObj_type (wpAny_bind (wpAny_pure (wpAny_pure ⟨_, rfl, wpAny_pure h⟩))) htake)
    | exact wpAny_bind (wpAny_bind (m := Builtin.Tuple.tupleExact _) (wpAny_newObj_type (wpAny_pure (wpAny_pure ⟨_, rfl, wpAny_pure h⟩)) htake))
    | exact wpAny_bind (wpAny_bind (m := Builtin.Tuple.tupleExact _) (wpAny_newObj_type (wpAny_pure ⟨_, rfl, wpAny_pure h⟩) htake))
end
/-- what e[::-1] needs: a list or a tuple -/
def tRevA (K : PySem.W.Frag) (te : TE) : TE := fun σ H Q => te σ H fun x H1 => (∃ a xs, x = .ref a ∧ SqL K H1 a xs ∧ ∀ p, H1 p = none → Q (.ref p) (upd H1 p (.lst xs.reverse))) ∨ (∃ a xs, x = .ref a ∧ SqT K H1 a xs ∧ ∀ p, H1 p = none → Q (.ref p) (upd H1 p (.tup xs.reverse)))
theorem pe_revA {X : Cx} {e : Expr} {te : TE} {k : Nat} {p1 p2 p3 pos : Pos} (he : PE X e te) : PE X (.Subscript e (.Slice none none (some (.UnaryOp .USub (.Constant (.int 1) k p1) p2)) p3) pos) (tRevA X.K te) := by
  refine ⟨fun pins s σ H Q I h => ?_⟩
  refine Subscript_ (thn (he.run pins s σ H _ I h) fun v s1 ⟨x, H1, I1, r1, q1⟩ => ?_)
  have hst : PO X (some (.UnaryOp .USub (.Constant (.int 1) k p1) p2)) (tPart (tUn (rU fun i => .int (-i)) (tC (.int 1)))) := po_some (pe_un un_neg pe_int)
  refine wpAny_Slice (thn (po_none.run pins s1 σ H1 (fun o H2 => o = none ∧ H2 = H1) I1 ⟨rfl, rfl⟩) fun vl s2 ⟨l, H2, I2, pl, el, e2⟩ => ?_)
  subst el e2
  refine thn (po_none.run pins s2 σ H2 (fun o H3 => o = none ∧ H3 = H2) I2 ⟨rfl, rfl⟩) fun vu s3 ⟨u, H3, I3, pu, eu, e3⟩ => ?_
  subst eu e3
  refine thn (hst.run pins s3 σ H3 (fun o H4 => o = some (-1) ∧ H4 = H3) I3 ⟨1, rfl, -1, rfl, rfl, rfl⟩) fun vs s4 ⟨o, H4, I4, ps, eo, e4⟩ => ?_
  subst eo e4
  have I5 : Inv X pins σ H4 { s4 with heap := s4.heap.push { cls := .type "slice", data := .fields #[vl, vu, vs] } } := I4.kept (t' := s4.toks) fun b ob q => Heap.get?_push_of_some _ q
  rcases q1 with ⟨a, xs, ex, hx, q⟩ | ⟨a, xs, ex, hx, q⟩
  · subst ex
    cases r1
    obtain ⟨its, r, ht, hz⟩ := I5.list hx
    have hlen := r.length
    show wpAny (model X.prog X.w) X.A (subscriptTail e (.Slice none none (some (.UnaryOp .USub (.Constant (.int 1) k p1) p2)) p3) (.ref a) (.ref s4.heap.objs.size)) (EP X pins σ Q) X.xe { s4 with heap := s4.heap.push { cls := .type "slice", data := .fields #[vl, vu, vs] } }
    refine tail_any (ops := [.ref a, .ref s4.heap.objs.size]) ht.isList.typeIs (PySem.slot_list_getitem.lookup) ?_ (by with_unfolding_all rfl)
    refine wpAny_getItem_list_slice ht.isList (Heap.IsSliceOf.new _ vl vu vs) pl pu ps (by decide) ?_ (by rw [List.size_toArray]; omega)
    rw [PySem.W.krv_pick]
    refine ⟨.ref _, _, I5.laid (t' := s4.toks) (o := .lst xs.reverse) (fun b ob q => Heap.get?_push_of_some _ q) (Nat.le_refl _) ?_, rfl, q _ (I5.hok.fresh (Nat.le_refl _))⟩
    exact ⟨by rw [List.length_reverse]; exact hz, _, 0, r.reverse, Heap.get?_push_size _ rfl⟩
  · subst ex
    cases r1
    obtain ⟨its, r, ht, hz⟩ := I5.tuple hx
    have hlen := r.length
    show wpAny (model X.prog X.w) X.A (subscriptTail e (.Slice none none (some (.UnaryOp .USub (.Constant (.int 1) k p1) p2)) p3) (.ref a) (.ref s4.heap.objs.size)) (EP X pins σ Q) X.xe { s4 with heap := s4.heap.push { cls := .type "slice", data := .fields #[vl, vu, vs] } }
    refine tail_any (ops := [.ref a, .ref s4.heap.objs.size]) ht.typeIs (PyProof.Rows.slot_tuple_getitem.lookup) ?_ (by with_unfolding_all rfl)
    refine getItem_tuple_back ht (Heap.IsSliceOf.new _ vl vu vs) pl pu ps ?_ (by rw [List.size_toArray]; omega)
    refine ⟨.ref _, _, I5.laid (t' := s4.toks) (o := .tup xs.reverse) (fun b ob q => Heap.get?_push_of_some _ q) (Nat.le_refl _) ?_, rfl, q _ (I5.hok.fresh (Nat.le_refl _))⟩
    exact ⟨by rw [List.length_reverse]; exact hz, _, r.reverse, ⟨_, Heap.get?_push_size _ rfl, rfl, _, rfl⟩⟩
section
variable {X : Cx} {WW : WX} {W : Wm}
/-- e[::-1] -/
def aRevA (a : AE) : AE := fun Xp ρ μ Q => a Xp ρ μ fun x μ1 => (∃ ds, rolOf μ1 x = some ds ∧ Q (.lst ds.reverse) μ1) ∨ ∃ ds, x = .tup ds ∧ Q (.tup ds.reverse) μ1
def aRevM (a : AE) : AE := fun Xp ρ μ Q => a Xp ρ μ fun x μ1 => ∃ ds, rolOf μ1 x = some ds ∧ ∀ p, μ1 p = none → Q (.cell p) (mset μ1 p (.lst ds.reverse))
@[simp] theorem u_revA {a : AE} {Xp : XP} {ρ : Sl} {μ : Mu} {Q : AQ} : aRevA a Xp ρ μ Q = a Xp ρ μ fun x μ1 => (∃ ds, rolOf μ1 x = some ds ∧ Q (.lst ds.reverse) μ1) ∨ ∃ ds, x = .tup ds ∧ Q (.tup ds.reverse) μ1 := rfl
@[simp] theorem u_revM {a : AE} {Xp : XP} {ρ : Sl} {μ : Mu} {Q : AQ} : aRevM a Xp ρ μ Q = a Xp ρ μ fun x μ1 => ∃ ds, rolOf μ1 x = some ds ∧ ∀ p, μ1 p = none → Q (.cell p) (mset μ1 p (.lst ds.reverse)) := rfl
theorem sim_revA {te : TE} {a : AE} (h : SimE W WW te a) : SimE W WW (tRevA W.K te) (aRevA a) := by
  intro F μ ρ σ H Xp Q R rep sl kx q k
  refine h F μ ρ σ H Xp _ _ rep sl kx q fun F1 μ1 H1 d v r1 s1 a1 h1 => ?_
  rcases h1 with ⟨ds, e, h1⟩ | ⟨ds, e, h1⟩
  · obtain ⟨p, vs, rfl, hs, al⟩ := rol_at r1 a1 e
    refine .inl ⟨p, vs, rfl, hs, fun l hl => ?_⟩
    exact k _ _ _ _ _ (r1.alloc hl) (s1.trans (Step.alloc r1 hl)) (at_newL (r1.f_none hl) al.reverse) h1
  · subst e
    obtain ⟨p, vs, rfl, hs, al⟩ := a1
    refine .inr ⟨p, vs, rfl, r1.ex.sqt hs, fun l hl => ?_⟩
    exact k _ _ _ _ _ (r1.alloc hl) (s1.trans (Step.alloc r1 hl)) (at_newT (r1.f_none hl) al.reverse) h1
theorem sim_revM {te : TE} {a : AE} (h : SimE W WW te a) : SimE W WW (tRevL W.K te) (aRevM a) := by
  intro F μ ρ σ H Xp Q R rep sl kx q k
  refine h F μ ρ σ H Xp _ _ rep sl kx q fun F1 μ1 H1 d v r1 s1 a1 ⟨ds, e, h1⟩ => ?_
  obtain ⟨p, vs, rfl, hs, al⟩ := rol_at r1 a1 e
  refine ⟨p, vs, rfl, hs, fun l hl => ?_⟩
  exact k _ _ _ _ _ (r1.allocM (c := .lst _) hl ⟨_, rfl, al.reverse⟩) (s1.trans (Step.allocM r1 hl)) (show At W.toWd F1 (.cell l) (.ref l) from rfl) (h1 l (r1.mu_none hl))
theorem de_revA {e : Expr} {te : TE} {ae : AE} {k : Nat} {p1 p2 p3 pos : Pos} (he : DE X WW e te ae) : DE X WW (.Subscript e (.Slice none none (some (.UnaryOp .USub (.Constant (.int 1) k p1) p2)) p3) pos) (tRevA X.K te) (aRevA ae) := ⟨pe_revA he.p, sim_revA he.s⟩
theorem de_revM {e : Expr} {te : TE} {ae : AE} {k : Nat} {p1 p2 p3 pos : Pos} (he : DE X WW e te ae) : DE X WW (.Subscript e (.Slice none none (some (.UnaryOp .USub (.Constant (.int 1) k p1) p2)) p3) pos) (tRevL X.K te) (aRevM ae) := ⟨pe_revL he.p, sim_revM he.s⟩
/-- {} -/
def aDic0 : AE := fun _ _ μ Q => Q (.dic [] []) μ
def aDic0M : AE := fun _ _ μ Q => ∀ p, μ p = none → Q (.cell p) (mset μ p (.dK [] []))
@[simp] theorem u_dic0 {Xp : XP} {ρ : Sl} {μ : Mu} {Q : AQ} : aDic0 Xp ρ μ Q = Q (.dic [] []) μ := rfl
@[simp] theorem u_dic0M {Xp : XP} {ρ : Sl} {μ : Mu} {Q : AQ} : aDic0M Xp ρ μ Q = ∀ p, μ p = none → Q (.cell p) (mset μ p (.dK [] [])) := rfl
theorem de_dnew {pos : Pos} : DE X WW (.Dict [] [] pos) tDNewK aDic0 := by
  refine ⟨pe_dnewK, fun F μ ρ σ H Xp Q R rep sl kx q k p hp => ?_⟩
  exact k _ _ _ _ _ (rep.alloc hp) (Step.alloc rep hp) (show At (wm X).toWd _ (.dic [] []) (.ref p) from ⟨p, [], rfl, upd_same, rfl, rfl⟩) q
theorem de_dnewM {pos : Pos} : DE X WW (.Dict [] [] pos) tDNewK aDic0M := by
  refine ⟨pe_dnewK, fun F μ ρ σ H Xp Q R rep sl kx q k p hp => ?_⟩
  exact k _ _ _ _ _ (rep.allocM (c := .dK [] []) hp ⟨[], rfl, rfl, rfl⟩) (Step.allocM rep hp) (show At (wm X).toWd F (.cell p) (.ref p) from rfl) (q p (rep.mu_none hp))
end
end DL

namespace DL
open PySem PySem.Spec PyProof.Rows L2 HT
section
variable {μ : Mu} {Q : AQ}
@[simp] theorem keyOf_int {i : Int} : keyOf (.int i) = some (.inl i) := rfl
@[simp] theorem keyOf_str {x : Str} : keyOf (.str x) = some (.inr x) := rfl
@[simp] theorem inB_dic {x : Dat} {ks : List Key} {ds : List Dat} {b : Bool} : inB μ x (.dic ks ds) b ↔ ∃ k, keyOf x = some k ∧ (b = true ↔ k ∈ ks) := by
  simp [inB, setOf, dicOf, seqOf]
theorem inB_cell {x : Dat} {p : Addr} {ds : List Dat} {b : Bool} (h : μ p = some (.lst ds)) : inB μ x (.cell p) b ↔ flatD x = true ∧ ds.all flatD = true ∧ b = inF x ds := by
  simp [inB, setOf, dicOf, seqOf, h]
theorem inB_cellK {x : Dat} {p : Addr} {ks : List Key} {ds : List Dat} {b : Bool} (h : μ p = some (.dK ks ds)) : inB μ x (.cell p) b ↔ ∃ k, keyOf x = some k ∧ (b = true ↔ k ∈ ks) := by
  simp [inB, setOf, dicOf, seqOf, h]
@[simp] theorem u_fslM_lst {ds : List Dat} {lo hi : Option Int} : fSlM (.lst ds) lo hi μ Q ↔ ∀ p, μ p = none → Q (.cell p) (mset μ p (.lst (cutD ds lo hi))) := by simp [fSlM]
theorem cutD_ij (ds : List Dat) (i j : Nat) (h : i ≤ ds.length) : cutD ds (some (i : Int)) (some (j : Int)) = (ds.drop i).take (j - i) := by
  unfold cutD
  rw [sIx_nat, sIx_nat, Nat.min_eq_left h]
  refine List.ext_getElem? fun k => ?_
  rw [List.getElem?_take, List.getElem?_take, List.getElem?_drop]
  by_cases hk : k < j - i
  · rw [if_pos hk]
    by_cases hk' : k < min j ds.length - i
    · rw [if_pos hk']
    · rw [if_neg hk', List.getElem?_eq_none (by omega)]
  · rw [if_neg hk, if_neg (by omega)]
theorem cutD_j (ds : List Dat) (j : Nat) : cutD ds none (some (j : Int)) = ds.take j := by
  unfold cutD
  rw [sIx_nat, sIx_none, List.drop_zero, Nat.sub_zero]
  refine List.ext_getElem? fun k => ?_
  rw [List.getElem?_take, List.getElem?_take]
  by_cases hk : k < j
  · rw [if_pos hk]
    by_cases hk' : k < min j ds.length
    · rw [if_pos hk']
    · rw [if_neg hk', List.getElem?_eq_none (by omega)]
  · rw [if_neg hk, if_neg (by omega)]
theorem cutD_i (ds : List Dat) (i : Nat) : cutD ds (some (i : Int)) none = ds.drop i := by
  unfold cutD
  rw [sIx_nat, sIx_none]
  refine List.ext_getElem? fun k => ?_
  rw [List.getElem?_take, List.getElem?_drop, List.getElem?_drop]
  by_cases h : i ≤ ds.length
  · rw [Nat.min_eq_left h]
    by_cases hk : k < ds.length - i
    · rw [if_pos hk]
    · rw [if_neg hk, List.getElem?_eq_none (by omega)]
  · rw [if_neg (by omega), List.getElem?_eq_none (by omega)]
@[simp] theorem cutD_all (ds : List Dat) : cutD ds none none = ds := by
  unfold cutD
  rw [sIx_none, sIx_none, List.drop_zero, Nat.sub_zero, List.take_length]
@[simp] theorem u_addM_cl {p : Addr} {b : List Dat} : fAddM (.cell p) (.lst b) μ Q ↔ ∃ a, μ p = some (.lst a) ∧ a.length + b.length ≤ 16777216 ∧ ∀ q, μ q = none → Q (.cell q) (mset μ q (.lst (a ++ b))) := by
  simp [fAddM, lstOf_cell']
@[simp] theorem u_addM_ll {a b : List Dat} : fAddM (.lst a) (.lst b) μ Q ↔ a.length + b.length ≤ 16777216 ∧ ∀ q, μ q = none → Q (.cell q) (mset μ q (.lst (a ++ b))) := by
  simp [fAddM, lstOf]
@[simp] theorem u_add_cl {p : Addr} {b : List Dat} : fAdd (.cell p) (.lst b) μ Q ↔ ∃ a, μ p = some (.lst a) ∧ a.length + b.length ≤ 16777216 ∧ Q (.lst (a ++ b)) μ := by
  simp [fAdd, lstOf_cell']
@[simp] theorem u_add_lc {p : Addr} {b : List Dat} : fAdd (.lst b) (.cell p) μ Q ↔ ∃ a, μ p = some (.lst a) ∧ b.length + a.length ≤ 16777216 ∧ Q (.lst (b ++ a)) μ := by
  simp [fAdd, lstOf_cell']
@[simp] theorem fAdd_tup {a b : List Dat} : fAdd (.tup a) (.tup b) μ Q ↔ a ≠ [] ∧ a.length + b.length ≤ 16777216 ∧ Q (.tup (a ++ b)) μ := Iff.rfl
end
@[simp] theorem app2_inj {α : Type} {xs es : List α} {a b d : α} : (xs ++ [a, b] = es ++ [d]) ↔ (xs ++ [a] = es ∧ b = d) := by
  rw [show xs ++ [a, b] = (xs ++ [a]) ++ [b] by rw [List.append_assoc]; rfl]
  constructor
  · intro h
    have := List.append_inj' h rfl
    exact ⟨this.1, by simpa using this.2⟩
  · rintro ⟨rfl, rfl⟩
    rfl
end DL

namespace DL
open PySem PySem.Spec PyProof.Rows L2 HT
/-! defs with keyword-only defaults -/
/-- a def with what its binding says of it -/
structure FnR (W : Wm) (base : Heap) (k : Nat) (name : Str) (ps : List Str) (B : FuncData → Prop) (C : Con) : Prop where
  ex : ∃ f fd, W.mg name = some (.ref f) ∧ PySem.W.keepIn W.K (.ref f) = true ∧ B fd ∧ FnOk W.P W.w W.K W.mg base (L2.CX W.P W.w) k f fd ps (spOf W C)
structure DefR (W : Wm) (name : Str) (st : Stmt) (B : FuncData → Prop) : Prop where
  ex : ∃ f fd, W.mg name = some (.ref f) ∧ Fun W.K name name st f fd ∧ B fd
theorem FnR.mono {W : Wm} {base : Heap} {j k : Nat} {name : Str} {ps : List Str} {B : FuncData → Prop} {C : Con} (F : FnR W base j name ps B C) (h : j ≤ k) : FnR W base k name ps B C := by
  obtain ⟨f, fd, a, b, c, d⟩ := F.ex
  exact ⟨f, fd, a, b, c, d.mono h⟩
theorem DefR.ok {W : Wm} {base : Heap} {name : Str} {st : Stmt} {N ps : List Str} {B : FuncData → Prop} {C : Con} {k : Nat} (D : DefR W name st B) (S : FnScope N ps (defScope st)) (len : ∀ ds μ Q E, C ds μ Q E → ds.length = ps.length)
    (hb : ∀ (f : Addr) (cdv : Value) (A : Around) (outer : List PySem.Env) (s : Shared) (H : Hp) (E : XK), Room k (A.deeper (envOfC name (defScope st) s.heap.objs.size f cdv)) → Ctx (bodyX W base N name st f cdv A outer s H E) (bodyW E) →
      ∀ ds μ QA EA, C ds μ QA EA → ∃ t as, DSs (bodyX W base N name st f cdv A outer s H E) (bodyW E) (defBody st) t as ∧ as (bodyE QA EA) (startD N ds) μ) : FnR W base (k + 1) name ps B C := by
  obtain ⟨f, fd, hm, F, hbi⟩ := D.ex
  refine ⟨f, fd, hm, F.kp, hbi, F.okX S (fun vs H Q E ⟨G, μ, ds, QA, EA, h1, h2, h3, h4⟩ => ?_) fun cdv A outer s H vs Q E hr ⟨G, μ, ds, QA, EA, rep, al, hC, kq, ke⟩ => ?_⟩
  · rw [← h2.length]
    exact len _ _ _ _ h3
  · have ctx : Ctx (bodyX W base N name st f cdv A outer s H E) (bodyW E) := ⟨takes_of rfl rfl rfl rfl, passes_of rfl, rfl, S.nd⟩
    obtain ⟨t, as, hd, ha⟩ := hb f cdv A outer s H E hr ctx ds μ QA EA hC
    refine ⟨t, hd.p, hd.s G μ (startD N ds) (L2.start N vs) H (bodyE QA EA) _ rep (slAt_start al) ?_ ha⟩
    exact ⟨fun F' μ' H' ρ' σ' r st _ ⟨ν, sb, q⟩ => kq _ _ _ _ _ (r.less sb) (st.sub sb) (show At W.toWd F' .non .non from rfl) q, fun F' μ' H' d v r st a ⟨ν, sb, q⟩ => kq _ _ _ _ _ (r.less sb) (st.sub sb) a q, fun _ _ _ _ _ _ _ _ z => z.elim, fun _ _ _ _ _ _ _ _ z => z.elim,
      fun F' μ' H' ρ' σ' x cls dd r st _ a ⟨ν, sb, q⟩ => ke _ _ _ _ _ _ (r.less sb) (st.sub sb) a q⟩
/-- one keyword-only parameter with a default -/
def B1 (K : PySem.W.Frag) (ps : List Str) (n : Nat) (kn : Str) (dv : V) : FuncData → Prop := fun fd => (∃ ds, Vals [dv] ds ∧ Binds K fd ps ds) ∧ KBn K fd ps n [kn] (fun us ws => us ++ ws) fun vs zs => vs ++ zs
section
variable {X : Cx} {WW : WX} {W : Wm}
structure DK (X : Cx) (WW : WX) (es : List Keyword) (ta : TA) (aa : AA) : Prop where
  p : PK X es ta
  s : SimA (wm X) WW ta aa
theorem dk_nil : DK X WW [] tNil aNil := ⟨pk_nil, fun F μ ρ σ H Xp Q R rep sl kx q k => k _ _ _ [] [] rep (Step.refl _ _ _) rfl q⟩
theorem dk_cons {nm : Option Str} {e : Expr} {kpos : Pos} {kws : List Keyword} {te : TE} {t : TA} {ae : AE} {aa : AA} (h : DE X WW e te ae) (h' : DK X WW kws t aa) : DK X WW (⟨nm, e, kpos⟩ :: kws) (tCons te t) (aCons ae aa) := by
  refine ⟨pk_cons h.p h'.p, fun F μ ρ σ H Xp Q R rep sl kx q k => ?_⟩
  refine h.s F μ ρ σ H Xp _ _ rep sl kx q fun F1 μ1 H1 d v r1 s1 a1 q1 => ?_
  refine h'.s F1 μ1 ρ σ H1 Xp _ _ r1 (sl.mono s1.ex) (kx.step s1) q1 fun F2 μ2 H2 ds vs r2 s2 a2 q2 => ?_
  exact k _ _ _ _ _ r2 (s1.trans s2) (AtL.cons (At.mono s2.ex _ _ a1) a2) q2
/-- f(e, ..) whose last parameter has its default dd -/
def aCallD (C : Con) (dd : Dat) (t : AA) : AE := fun Xp ρ μ Q => t Xp ρ μ fun ds μ1 => C (ds ++ [dd]) μ1 Q fun x μ2 => Xp x ρ μ2
@[simp] theorem u_callD {C : Con} {dd : Dat} {t : AA} {Xp : XP} {ρ : Sl} {μ : Mu} {Q : AQ} : aCallD C dd t Xp ρ μ Q = t Xp ρ μ fun ds μ1 => C (ds ++ [dd]) μ1 Q fun x μ2 => Xp x ρ μ2 := rfl
theorem sim_callD {C : Con} {dd : Dat} {dv : V} {ta : TA} {t : AA} (hd : ∀ F, At W.toWd F dd dv) (h : SimA W WW ta t) : SimE W WW (tCallSD (spOf W C) [dv] (WE WW) ta) (aCallD C dd t) := by
  intro F μ ρ σ H Xp Q R rep sl kx q k
  refine h F μ ρ σ H Xp _ _ rep sl kx q fun F1 μ1 H1 ds vs r1 s1 a1 h1 => ?_
  exact ⟨F1, μ1, ds ++ [dd], _, _, r1, a1.append (AtL.cons (hd F1) AtL.nil), h1, k.step s1, fun F' μ' H' x cls dd r st a e => kx _ _ _ _ _ _ r (s1.trans st) a e⟩
theorem de_callD {C : Con} {j k n : Nat} {x kn : Str} {ps : List Str} {p pos : Pos} {e : Expr} {es : List Expr} {t : TA} {aa : AA} {dd : Dat} {dv : V} (F : FnR (wm X) X.base j x ps (B1 X.K ps n kn dv) C) (hd : ∀ F, At (wm X).toWd F dd dv) (c : Ctx X WW) (hr : Room k X.A) (hk : j ≤ k) (ha : DA X WW (e :: es) t aa) (hg : Gl X x := by rfl)
    (hdb : (x == ("__debug__" : Str)) = false := by decide) (he : starEach (e :: es) X.env = (false, eval e X.env) :: starEach es X.env := by rfl) (hpl : (backTo pos (starEach es X.env)).any (·.1) = false := by rfl) :
    DE X WW (.Call (.Name x p) (e :: es) [] pos) (tCallSD (spOf (wm X) C) [dv] (WE WW) t) (aCallD C dd aa) := by
  obtain ⟨f, fd, hm, hkp, ⟨⟨ds, hv, hb⟩, _⟩, hf⟩ := F.ex
  exact ⟨pe_callSD hf (hr.mono hk) hg hm hkp hb hv (passAt c.tk) ha.p hdb he hpl, sim_callD hd ha.s⟩
/-- f(e, .., k = v) -/
def tCallNS (n m : Nat) (sp : Sp) (E : L2.St → XK) (t tk : TA) : TE := fun σ H Q => t σ H fun vs H1 => tk σ H1 fun zs H2 => vs.length = n ∧ zs.length = m ∧ sp (vs ++ zs) H2 Q (E σ)
theorem pe_callNS {CX : CXT} {k n : Nat} {f : Addr} {fd : FuncData} {ps ks : List Str} {sp : Sp} {E : L2.St → XK} {x : Str} {p pos : Pos} {e : Expr} {es : List Expr} {kws : List Keyword} {t tk : TA} {g : List Value → List Value → List Value}
    (F : FnOk X.prog X.w X.K X.mg X.base CX k f fd ps sp) (hr : Room k X.A) (hg : Gl X x) (hm : X.mg x = some (.ref f)) (hk : PySem.W.keepIn X.K (.ref f) = true) (hb : KBn X.K fd ps n ks g fun vs zs => vs ++ zs) (hx : ∀ σ, PassesAt CX X σ (E σ))
    (ha : PA X (e :: es) t) (hkw : PK X kws tk) (hall : (backToKw pos (keywordEach kws X.env)).all (·.1.isSome) = true := by rfl) (hks : (backToKw pos (keywordEach kws X.env)).filterMap (·.1) = ks := by rfl)
    (hdb : (x == ("__debug__" : Str)) = false := by decide) (he : starEach (e :: es) X.env = (false, eval e X.env) :: starEach es X.env := by rfl)
    (hpl : ((backTo pos (starEach (e :: es) X.env)).any (·.1) || (backToKw pos (keywordEach kws X.env)).any (·.1.isNone)) = false := by rfl) :
    PE X (.Call (.Name x p) (e :: es) kws pos) (tCallNS n ks.length sp E t tk) := by
  refine ⟨fun pins s σ H Q I h => ?_⟩
  refine wpAny_Call_Name_kw (ld_glob I hg hm ?_ hdb)
  refine PySem.W.callWith_KW (h₀ := X.base) I.ok.mod.kin hk hall (thn (ha.run pos pins s σ H _ I h) fun us s1 ⟨vs, H1, I1, r, q⟩ => ?_) hpl he
  refine thn (hkw.run pos pins s1 σ H1 _ I1 q) fun ws s2 ⟨zs, H2, I2, rz, l1, l2, q2⟩ => ⟨I2.kIn, ?_⟩
  rw [hks]
  have r2 := hb.rel r rz
  refine wpAny_call (codeAny_mono (F.run X.A X.stack s2 H2 ⟨us, ks.zip ws⟩ (g us ws) (vs ++ zs) Q (E σ) hr I2.env0 (hb.to s2 us ws I2.kIn (r.length.symm.trans l1) (rz.length.symm.trans l2)) r2 q2) fun r s' hq => ?_)
  cases r with
  | error e => exact hx σ pins H2 s2 e s' I2 hq
  | ok fl =>
    cases fl with
    | ret u => exact I2.after hq
    | next => exact False.elim hq
    | brk => exact False.elim hq
    | cont => exact False.elim hq
def aCallK (n m : Nat) (C : Con) (t tk : AA) : AE := fun Xp ρ μ Q => t Xp ρ μ fun ds μ1 => tk Xp ρ μ1 fun zs μ2 => ds.length = n ∧ zs.length = m ∧ C (ds ++ zs) μ2 Q fun x μ3 => Xp x ρ μ3
@[simp] theorem u_callK {n m : Nat} {C : Con} {t tk : AA} {Xp : XP} {ρ : Sl} {μ : Mu} {Q : AQ} : aCallK n m C t tk Xp ρ μ Q = t Xp ρ μ fun ds μ1 => tk Xp ρ μ1 fun zs μ2 => ds.length = n ∧ zs.length = m ∧ C (ds ++ zs) μ2 Q fun x μ3 => Xp x ρ μ3 := rfl
theorem de_callK {C : Con} {j k n : Nat} {x kn : Str} {ps : List Str} {p pos : Pos} {e : Expr} {es : List Expr} {kws : List Keyword} {t tk : TA} {aa ak : AA} {dv : V} (F : FnR (wm X) X.base j x ps (B1 X.K ps n kn dv) C) (c : Ctx X WW) (hr : Room k X.A) (hk : j ≤ k) (ha : DA X WW (e :: es) t aa) (hkw : DK X WW kws tk ak) (hg : Gl X x := by rfl)
    (hall : (backToKw pos (keywordEach kws X.env)).all (·.1.isSome) = true := by rfl) (hks : (backToKw pos (keywordEach kws X.env)).filterMap (·.1) = [kn] := by rfl)
    (hdb : (x == ("__debug__" : Str)) = false := by decide) (he : starEach (e :: es) X.env = (false, eval e X.env) :: starEach es X.env := by rfl)
    (hpl : ((backTo pos (starEach (e :: es) X.env)).any (·.1) || (backToKw pos (keywordEach kws X.env)).any (·.1.isNone)) = false := by rfl) :
    DE X WW (.Call (.Name x p) (e :: es) kws pos) (tCallNS n 1 (spOf (wm X) C) (WE WW) t tk) (aCallK n 1 C aa ak) := by
  obtain ⟨f, fd, hm, hkp, ⟨_, hb⟩, hf⟩ := F.ex
  refine ⟨pe_callNS hf (hr.mono hk) hg hm hkp hb (passAt c.tk) ha.p hkw.p hall hks hdb he hpl, fun F μ ρ σ H Xp Q R rep sl kx q k => ?_⟩
  refine ha.s F μ ρ σ H Xp _ _ rep sl kx q fun F1 μ1 H1 ds vs r1 s1 a1 h1 => ?_
  refine hkw.s F1 μ1 ρ σ H1 Xp _ _ r1 (sl.mono s1.ex) (kx.step s1) h1 fun F2 μ2 H2 zs ws r2 s2 a2 ⟨l1, l2, h2⟩ => ?_
  have a1' := AtL.mono s2.ex _ _ a1
  exact ⟨by rw [← a1.length]; exact l1, by rw [← a2.length]; exact l2, F2, μ2, ds ++ zs, _, _, r2, a1'.append a2, h2, k.step (s1.trans s2), fun F' μ' H' x cls dd r st a e => kx _ _ _ _ _ _ r ((s1.trans s2).trans st) a e⟩
/-! comb -/
def rComb : List V → Hp → VK → Prop := fun vs H Q => ∃ a b : Int, vs = [.int a, .int b] ∧ 0 ≤ a ∧ 0 ≤ b ∧ a ≤ 18000 ∧ Q (.int (PySem.W.mcComb a b)) H
theorem cr_comb : CallR X (.builtin "math.comb") rComb := by
  intro pins s σ H vs us Q I r ⟨a, b, e, h1, h2, h3, q⟩
  subst e
  obtain ⟨t, u, rfl⟩ := Vals.int2 r
  exact PySem.W.mc_comb h1 h2 (by omega) (.inr h3) fun _ => ⟨.int _, H, I.tok _, ⟨_, rfl⟩, q⟩
def fComb : AN := fun ds μ Q => ∃ a b : Int, ds = [.int a, .int b] ∧ 0 ≤ a ∧ 0 ≤ b ∧ a ≤ 18000 ∧ Q (.int (PySem.W.mcComb a b)) μ
@[simp] theorem u_comb {a b : Int} {μ : Mu} {Q : AQ} : fComb [.int a, .int b] μ Q ↔ 0 ≤ a ∧ 0 ≤ b ∧ a ≤ 18000 ∧ Q (.int (PySem.W.mcComb a b)) μ := by
  constructor
  · rintro ⟨_, _, e, h⟩
    cases e
    exact h
  · intro h
    exact ⟨a, b, rfl, h⟩
theorem sim_comb : SimRN W rComb fComb := by
  intro F μ H xs ds Q R rep al ⟨a, b, e, h1, h2, h3, q⟩ k
  subst e
  obtain ⟨v, u, rfl, av, au⟩ := two_at al
  cases (show v = .int a from av)
  cases (show u = .int b from au)
  exact ⟨a, b, rfl, h1, h2, h3, k.here rep (show At W.toWd F (.int _) (.int _) from rfl) q⟩
theorem de_comb {p pos : Pos} {e : Expr} {es : List Expr} {t : TA} {aa : AA} (hm : X.mg "comb" = some (.builtin "math.comb")) (ha : DA X WW (e :: es) t aa) (hg : Gl X "comb" := by rfl) (he : starEach (e :: es) X.env = (false, eval e X.env) :: starEach es X.env := by rfl) (hpl : (backTo pos (starEach es X.env)).any (·.1) = false := by rfl) :
    DE X WW (.Call (.Name "comb" p) (e :: es) [] pos) (tCB rComb t) (aCB fComb aa) := ⟨pe_callMB cr_comb hg hm ha.p (by decide) he hpl, sim_cb ha.s sim_comb⟩
end
/-! facts of the top -/
theorem defR_mk {K : PySem.W.Frag} {P : Program} {w : World} {mg : Str → Option Value} {x : Str} {st : Stmt} {B : FuncData → Prop} {f : Addr} {oc : Value} {od an : Option Addr} {osl : Array (Option Value)} {kV doc pm cdv ct : Value} (hm : mg x = some (.ref f))
    (l : K.lookup f = some ⟨oc, od, .func (PySem.W.fnOf x x (defArgs st) (defBody st) (defScope st) .none kV doc pm an cdv ct), osl⟩) (c : PySem.W.codeIn K cdv x = true) (k : PySem.W.keepIn K (.ref f) = true)
    (b : B (PySem.W.fnOf x x (defArgs st) (defBody st) (defScope st) .none kV doc pm an cdv ct)) : DefR (wmk P w K mg) x st B :=
  ⟨f, _, hm, fun_mk l c k, b⟩
theorem b1_mk {K : PySem.W.Frag} {ps : List Str} {n : Nat} {kn : Str} {dv : V} {du : Value} {D : Addr} {fd : FuncData} (hn : n + 1 = ps.length) (hr : RelV dv du) (hD : PySem.W.nsIn K D kn = some (some du))
    (h1 : ∀ us : List Value, us.length = n → KwChain D [(kn, du)] (bindArgs fd ⟨us, []⟩) (ps.zip (us ++ [du]))) (h2 : ∀ (us : List Value) (v : Value), us.length = n → bindArgs fd ⟨us, [(kn, v)]⟩ = pure (ps.zip (us ++ [v]))) : B1 K ps n kn dv fd := by
  refine ⟨⟨[du], .cons hr .nil, fun s us X hl => ?_⟩, ⟨fun s us ws X l1 l2 => ?_, fun r1 r2 => r1.append r2⟩⟩
  · rw [List.length_append, List.length_singleton, ← hn] at hl
    refine BindsTo.of_looks fun M => KwChain.looks X (fun q hq => ?_) (h1 us (by omega))
    rw [List.mem_singleton.mp hq]
    exact hD
  · match ws, l2 with
    | [v], _ => exact .of_eq (h2 us v l1)
theorem seq_cases {μ : Mu} {x : Dat} {xs : List Dat} (h : seqOf μ x = some xs) : x = .tup xs ∨ x = .lst xs ∨ x = .ro xs ∨ ∃ p, x = .cell p ∧ μ p = some (.lst xs) := by
  cases x with
  | tup ds => cases h; exact .inl rfl
  | lst ds => cases h; exact .inr (.inl rfl)
  | ro ds => cases h; exact .inr (.inr (.inl rfl))
  | cell p => exact .inr (.inr (.inr ⟨p, rfl, seqOf_cell'.mp h⟩))
  | _ => cases h
theorem lenOf_seq {μ : Mu} {x : Dat} {xs : List Dat} (h : seqOf μ x = some xs) : lenOf μ x xs.length := by
  rcases seq_cases h with rfl | rfl | rfl | ⟨p, rfl, hp⟩ <;> simp [*]
theorem ixOf_seq {μ : Mu} {x z : Dat} {xs : List Dat} {i : Int} (h : seqOf μ x = some xs) (k : atI xs i = some z) : ixOf μ x (.int i) z := by
  rcases seq_cases h with rfl | rfl | rfl | ⟨p, rfl, hp⟩ <;> simp [*]
end DL

namespace DL
open PySem PySem.Spec PyProof.Rows L2

/-! super().__init__(text) of an own class of exceptions over ValueError -/
section
open PySem.W
variable {P : Program} {w : World} {A : Around} {E : Value → Shared → Prop} {h : Heap} {g : Array GenState} {d : Drawn} {t : Nat} {os : OsState}
/-- the bound wrapper is called -/
theorem run_wrapped {K : Frag} {u e t0 C : Addr} {rest : List Value} {Q : Value → Shared → Prop} (T : L2.OexC K C) (KX : K.In h)
    (he : h.get? e = some (HandSPX.excO C t0)) (hu : h.get? u = some (kxs_mw "ValueError.__init__" e)) (hz : rest.length ≤ sizeLine)
    (hq : ∀ h' t1, (∀ b o, b ≠ e → h.get? b = some o → h'.get? b = some o) → h'.get? e = some (HandSPX.excO C t1) → Q .none ⟨h', g, d, t, os⟩) :
    wpAny (model P w) A (call (.ref u) rest) Q E ⟨h, g, d, t, os⟩ := by
  obtain ⟨nm, q, N, bs, bm, sn, sub, ab, col, dd, k0, k1, k2, k3, k5, lC, hbm⟩ := T.cls
  have FB := PySem.F.excBase_ValueError
  have yes : (Value.type "method-wrapper" == Value.type "method" || Value.type "method-wrapper" == Value.type "builtin_function_or_method" || Value.type "method-wrapper" == Value.type "method-wrapper") = true := by decide
  refine wpAny_call (codeAny_of_tree (show wpAny _ A.in1 (callAny (.ref u) ⟨rest, []⟩) _ _ _ from ?_))
  simp only [callAny]
  refine wpAny_bind (wpAny_load hu ?_)
  simp only [kxs_mw, yes, if_true]
  refine KFB.if_so (by decide) (wpAny_bind (check_bound_init FB.toExcCallFacts (KX _ _ lC) he rfl (wpAny_bind (wpAny_pure (wpAny_pure ⟨plainId_quiet FB.init.plain _, codeAny_builtin FB.initEntry ?_⟩)))))
  exact exc_init_tree (cls := .ref C) (t0 := t0) (dv := none) (c2 := .none) (c3 := .none) (b4 := .bool false) he hz fun h' k1 k2 _ => hq h' _ k1 k2
end

/-- what the text says of C's __init__ that stands in D: super().__init__ goes to ValueError's -/
structure SuX (K : PySem.W.Frag) (C D : Addr) (fld : Str) : Prop where
  oex : L2.OexC K C
  sub : PySem.W.mroIn K C (.ref D) = some true
  sup : PySem.W.ks_superIn K C D "__init__" = some (some (.builtin "ValueError.__init__"))
  ve : PySem.W.subIn K (.ref C) (.type "ValueError") = some true
  fld : PySem.W.findIn K (.ref C) fld = some none
/-- what it says of the def at f -/
structure SuF (K : PySem.W.Frag) (P : Program) (mg : Str → Option Value) (f D : Addr) (fd : FuncData) (a0 a1 fld : Str) (body : List Stmt) : Prop where
  ex : ∃ (name qual : Str) (params : Arguments) (scope : Scope) (dV kV doc pm ct oc ccl cl : Value) (an od cdd cld : Option Addr) (osl ccs csl : Array (Option Value)) (cda cc : Addr) (vs : Array Value) (file : Str) (tf : Tok) (cdD : ClassData) (ar : Arg),
    fd = PySem.W.ksFn name qual params body scope dV kV doc pm an (.ref cda) ct cc ∧ K.lookup f = some ⟨oc, od, .func fd, osl⟩ ∧ PySem.W.codeIn K (.ref cda) qual = true ∧ K.lookup cda = some ⟨ccl, cdd, .fields vs, ccs⟩ ∧ vs[2]? = some (.str file tf) ∧
    ((P.main.file : Str) == file) = true ∧ K.lookup cc = some ⟨cl, cld, .cell (some (.ref D)), csl⟩ ∧ PySem.W.clsIn K D = some cdD ∧ mg "super" = none ∧ (P.main.scope.names.lookup ("super" : Str)).isSome = false ∧
    scope.names.lookup ("super" : Str) = some .globalImplicit ∧ scope.names.lookup ("__class__" : Str) = some .free ∧ scope.names.lookup a0 = some .local ∧ scope.names.lookup a1 = some .local ∧
    (∀ x ∈ scope.names, x.2 ≠ .cell ∧ (x.2 = .free → x.1 = "__class__")) ∧ scope.kind = .function ∧ scope.isCoroutine = false ∧ scope.isGenerator = false ∧ (params.posonlyargs ++ params.args).head? = some ar ∧ ar.arg = a0 ∧
    PySem.W.nsIn K cStatics "thirdparty.any" = some none
def suBody (a0 a1 fld msg : Str) (j : Nat) (q0 q1 q2 q3 q4 q5 q6 q7 q8 q9 : Pos) : List Stmt :=
  [.Expr (.Call (.Attribute (.Call (.Name "super" q0) [] [] q1) "__init__" q2) [.Constant (.str msg) j q3] [] q4) q5, .Assign [.Attribute (.Name a0 q6) fld q7] (.Name a1 q8) q9]
/-- how the first row is run -/
def SuCall (msg : Str) (j : Nat) (q0 q1 q2 q3 q4 : Pos) : Prop := ∀ env : PySem.Env, ∃ pl : Sem Bool, eval (.Call (.Attribute (.Call (.Name "super" q0) [] [] q1) "__init__" q2) [.Constant (.str msg) j q3] [] q4) env = (do
      let ov ← attributeBase (.Call (.Name "super" q0) [] [] q1) "__init__" env (eval (.Call (.Name "super" q0) [] [] q1) env)
      standAt q2.atName
      let (f, first) ← holding [ov] (getMethod ov "__init__" pl)
      callWith q4 f first (backTo q4 (starEach [.Constant (.str msg) j q3] env)) [])
def spSu (K : PySem.W.Frag) (D : Addr) (fld : Str) : Sp := fun vs H Q _ => ∃ (a C : Addr) (y : V), vs = [.ref a, y] ∧ SuX K C D fld ∧ H a = some (L2.exo a C none) ∧
  ∀ dx, H dx = none → dx ≠ a → Q .non (upd (upd H dx (L2.exd dx [(fld, y)])) a (L2.exo a C (some dx)))
/-- its context -/
def cxSu (P : Program) (w : World) (K : PySem.W.Frag) (mg : Str → Option Value) (base : Heap) (N : List Str) (env : PySem.Env) (A : Around) (outer : List PySem.Env) (s : Shared) (H : Hp) (xe : Value → Shared → Prop) : Cx where
  prog := P
  w := w
  K := K
  mg := mg
  base := base
  A := A.deeper env
  N := N
  s_0 := s
  H_0 := H
  env := env
  outer := outer
  stack := env :: outer
  ex := []
  calm := true
  fn := fun _ => false
  pn := []
  xe := xe
theorem bt_super : bootBuiltins "super" = some (.type "super") := by decide +kernel
theorem lookup_one {x k : Str} {c v : Addr} (h : [(k, v)].lookup x = some c) : x = k ∧ c = v := by
  simp only [List.lookup] at h
  split at h
  · rename_i e
    cases h
    exact ⟨by simpa using e, rfl⟩
  · cases h
theorem fn_super {CX : CXT} {P : Program} {w : World} {K : PySem.W.Frag} {mg : Str → Option Value} {base : Heap} {k : Nat} {f D : Addr} {fd : FuncData} {a0 a1 fld msg : Str} {j : Nat} {q0 q1 q2 q3 q4 q5 q6 q7 q8 q9 : Pos}
    (hF : SuF K P mg f D fd a0 a1 fld (suBody a0 a1 fld msg j q0 q1 q2 q3 q4 q5 q6 q7 q8 q9)) (h01 : a0 ≠ a1) (hd0 : (a0 == ("__debug__" : Str)) = false) (hd1 : (a1 == ("__debug__" : Str)) = false) (hc0 : (a0 == ("__classdict__" : Str)) = false) (hc1 : (a1 == ("__classdict__" : Str)) = false)
    (hcall : SuCall msg j q0 q1 q2 q3 q4) :
    FnOk P w K mg base CX (k + 1) f fd [a0, a1] (spSu K D fld) := by
  refine ⟨fun vs H Q E ⟨a, C, y, e, _⟩ => by rw [e]; rfl, fun A outer s H args us vs Q E hr e0 hb r ⟨a, C, y, e, sx, ha, hq⟩ => ?_⟩
  subst e
  obtain ⟨name, qual, params, scope, dV, kV, doc, pm, ct, oc, ccl, cl, an, od, cdd, cld, osl, ccs, csl, cda, cc, vs, file, tf, cdD, ar, efd, lk, hcd, lcd, hvs, hfile, lcc, hD, mgS, tS, nS, nC, n0, n1, hN, kS, coS, geS, hp, har, hop⟩ := hF.ex
  subst efd
  subst har
  cases r with
  | @cons _ ua _ us' ra rs =>
  cases rs with
  | @cons _ uy _ us'' ry rn =>
  cases rn
  obtain rfl : ua = Value.ref a := ra
  have KX : K.In s.heap := e0.mod.kin.keeps fun b o z => (e0.bs b o z).1
  have lim : s.heap.NoLimit := e0.mod.nolimit.keeps fun b o z => (e0.bs b o z).1
  have hloc : ∀ z ∈ [ar.arg, a1].zip [Value.ref a, uy], scope.names.lookup z.1 = some .local := fun z hz => by
    rcases List.mem_cons.mp hz with e | hz
    · rw [e]; exact n0
    · rcases List.mem_cons.mp hz with e | hz
      · rw [e]; exact n1
      · cases hz
  refine ks_codeAny_call_defAt (fd := PySem.W.ksFn name qual params (suBody ar.arg a1 fld msg j q0 q1 q2 q3 q4 q5 q6 q7 q8 q9) scope dV kV doc pm an (.ref cda) ct cc) (binds := [ar.arg, a1].zip [Value.ref a, uy]) hr.depth (KX _ _ lk) rfl lim (PySem.W.codeRec_of KX hcd) rfl hb
    (fun x hx => (hN x hx).1) hloc (fun h0 hns hk => ?_) coS geS kS
  let env := PySem.W.ksEnv qual scope s.heap.objs.size f (.ref cda) cc
  let xe : Value → Shared → Prop := fun e s' => wpAny (model P w) (A.deeper env) (leaving env e) (fun _ s'' => CR CX outer P w H s Q E (.error e) s'') (fun e' s'' => CR CX outer P w H s Q E (.error e') s'') s'
  have nb : ∀ b : Addr, b ∉ (cxSu P w K mg base [ar.arg, a1] env A outer s H xe).ex := fun b z => absurd (show b ∈ ([] : List Addr) from z) (by simp)
  have hcc : base.get? cc = some ⟨cl, cld, .cell (some (.ref D)), csl⟩ := e0.mod.kin _ _ lcc
  have cellOnly : ∀ x c, env.cells.lookup x = some c → x = "__class__" ∧ c = cc := fun x c z => lookup_one z
  have hv0 : (([ar.arg, a1].zip [Value.ref a, uy]).reverse.lookup ar.arg) = some (Value.ref a) := by
    have z : (ar.arg == a1) = false := by simpa using h01
    simp [List.lookup, z]
  have hv1 : (([ar.arg, a1].zip [Value.ref a, uy]).reverse.lookup a1) = some uy := by simp [List.lookup]
  have I : Inv (cxSu P w K mg base [ar.arg, a1] env A outer s H xe) [] [some (.ref a), some y] H { s with heap := h0, toks := s.toks + 2 } := by
    refine ⟨⟨e0.mod, kS, rfl, rfl, Nat.le_refl _, fun x z c hx hz => (cellOnly x c hx).1.trans (cellOnly z c hz).1.symm, fun x hx => ?_, fun x c z => (by cases z), fun _ => hr.hd, Around.frames_deeper e0.frames, .inr ⟨rfl, rfl⟩, fun b z => absurd z (nb b), e0.bs, e0.bsz, fun b _ _ => nb b, fun b z => absurd z (nb b), e0.funs, e0.frf⟩,
      rfl, e0.bare, Un.kept hk, ⟨_, hns, fun i x v h1 h2 _ => ?_⟩, fun x c z => ?_, e0.hok.fresh (Nat.le_refl _), fun x c z => ?_, fun p hp => absurd (show p ∈ ([] : List (Addr × Obj)) from hp) (by simp), e0.hok.kept hk, rfl⟩
    · have hx' : scope.names.lookup x = some .cell ∨ scope.names.lookup x = some .free := hx
      rcases hx' with hx' | hx'
      · exact absurd rfl (hN _ (PySem.mem_of_lookup hx')).1
      · have z := (hN _ (PySem.mem_of_lookup hx')).2 rfl
        subst z
        exact ⟨cc, rfl⟩
    · match i with
      | 0 =>
        cases h1
        cases h2
        exact ⟨_, rfl, .inl ⟨n0, hv0⟩⟩
      | 1 =>
        cases h1
        cases h2
        exact ⟨uy, ry, .inl ⟨n1, hv1⟩⟩
      | i + 2 => cases h1
    · rw [(cellOnly x c z).2]
      exact ⟨_, _, hk _ _ (KX _ _ lcc), rfl⟩
    · rw [(cellOnly x c z).2]
      exact (e0.bs _ _ hcc).2
  obtain ⟨hp0, g, dr, tk, os⟩ := s
  have K0 : K.In h0 := KX.keeps hk
  obtain ⟨mb, b1, b2⟩ := e0.mod.blt
  obtain ⟨nm, qn, N, bs, bm, sn, sub, ab, col, dd, k0, k1, k2, k3, k5, lC, hbm⟩ := sx.oex.cls
  obtain ⟨t0, ho⟩ := L2.exo_at I.hok ha
  obtain ⟨oD, hD1, hD2⟩ : ∃ oD, h0.get? D = some oD ∧ oD.data = .cls cdD := by
    unfold PySem.W.clsIn at hD
    split at hD
    · rename_i z
      cases hD
      exact ⟨_, K0 _ _ z, rfl⟩
    · cases hD
  obtain ⟨pl, hcl⟩ := hcall env
  refine ks_wpAt_execs_cons (ks_wpAt_Expr_any (hi := I.quiet) (ks_wpAt_MethodCall (he := hcl) (ks_wpAt_super_base (env := env) nS nC (by rfl) rfl (K0 _ _ lk) rfl hp rfl (K0 _ _ lcd) rfl hvs hfile tS ?_)))
  refine PySem.W.ks_loadName_global kS nS (Calls.loadGlobal_builtin (mg := mg) (mb := mb) (I.mod.glob.keeps I.bk) mgS (b1.keeps I.bk) ((b2 _ (by decide)).trans bt_super) ⟨rfl, ?_⟩)
  refine wpAny_loadName_free kS nC rfl ⟨_, K0 _ _ lcc, rfl⟩ (wpAny_loadName_local kS n0 hns hv0 (ks_wpAny_isType_cls hD1 hD2 ⟨rfl, ?_⟩))
  refine ks_wpAny_call_super hD1 hD2 ho rfl (fun c z => nomatch z) (PySem.W.looks_mroIn K0 sx.sub) (fun h1 e1 kp1 => ?_)
  have K1 : K.In h1 := K0.keeps kp1
  have ho1 := kp1 _ _ ho
  have IA : PySem.W.InstAt h1 a _ C none := ⟨ho1, rfl, rfl, trivial⟩
  obtain ⟨cdC, hcC, hsup⟩ : ∃ cdC, PySem.W.clsIn K C = some cdC ∧ PySem.W.alongIn K "__init__" ((cdC.mro.dropWhile (· != .ref D)).drop 1) = some (some (.builtin "ValueError.__init__")) := by
    have z := sx.sup
    unfold PySem.W.ks_superIn at z
    cases q : PySem.W.clsIn K C with
    | none => rw [q] at z; cases z
    | some cd => rw [q] at z; exact ⟨cd, rfl, z⟩
  refine PySem.W.kxs_getMethod PySem.W.kxs_ValueError e1 (PySem.W.looks_opaque K1 hop) (l₀ := cdC.mro) (fun A Q E s k q => wpAny_bind ((PySem.W.looks_clsIn K1 hcC) A _ E s k (wpAny_pure q))) rfl K1 hsup
    (IA.type.andThen (PySem.W.looks_subIn K1 sx.ve)) (PySem.W.ks_ne K1 IA hcC) (by rfl) ?_
  have hu : (h1.push (PySem.W.kxs_mw "ValueError.__init__" a)).get? h1.objs.size = some (PySem.W.kxs_mw "ValueError.__init__" a) := Heap.get?_push_at rfl rfl
  have kp2 : ∀ b o, h1.get? b = some o → (h1.push (PySem.W.kxs_mw "ValueError.__init__" a)).get? b = some o := fun b o z => Heap.get?_push_of_some _ z
  refine PySem.W.kxs_callWith (i := "ValueError.__init__") (x := a) (by rfl) (Calls.evalArgs_plain (Calls.spliced_cons (Calls.Constant_str (k := j) (pos := q3) (Calls.spliced_nil ⟨hu, ?_⟩))))
  refine run_wrapped sx.oex (K1.keeps kp2) (kp2 _ _ ho1) hu (by rw [sizeLine_eq]; simp) (fun h3 t1 kp3 e3 => ?_)
  have I2 := I.kept (t' := tk + 2) (fun b o z => kp2 b o (kp1 b o z))
  have J := I2.write (t' := tk + 2 + 1 + 1) (x := a) (e := a) (o := L2.exo a C none) (by rw [ha]; exact True.intro) (.inl rfl) kp3 ⟨_, e3⟩ (L2.exo_ok e3)
  have eu : upd H a (L2.exo a C none) = H := funext fun b => by
    by_cases hb : b = a
    · rw [hb, upd_same, ha]
    · rw [upd_ne hb]
  rw [eu] at J
  refine wpAt_of_wpAny (wpAny_mono ((pss_one (ps_ost (X := cxSu P w K mg base [ar.arg, a1] env A outer ⟨hp0, g, dr, tk, os⟩ H xe) (f := fld) (p' := q7) (pos := q9) (pe_var (i := 0) (x := ar.arg) (pos := q6) rfl (.inl n0) hd0 hc0) (pe_var (i := 1) (x := a1) (pos := q8) rfl (.inl n1) hd1 hc1))).run [] _ [some (.ref a), some y] H { nx := fun _ H' => Q .non H', rt := Q } J ⟨y, rfl, .ref a, rfl, a, C, rfl, sx.oex, sx.fld, .inl ⟨ha, fun dx n ne => hq dx n ne⟩⟩) (fun fl s' hs => ?_) fun e s' z => z)
  have fin : ∀ {σ' : L2.St} {H' : Hp} {v : V} {u : Value}, Inv (cxSu P w K mg base [ar.arg, a1] env A outer ⟨hp0, g, dr, tk, os⟩ H xe) [] σ' H' s' → RelV v u → Q v H' → CE outer P w H ⟨hp0, g, dr, tk, os⟩ Q u s' :=
    fun {σ' H' v u} J rv q => ⟨v, H', J.os, J.bare, J.base, J.hok, rv, q⟩
  cases fl with
  | ret u =>
    obtain ⟨v, σ', H', J, rv, q⟩ := hs
    exact fin J rv q
  | next =>
    obtain ⟨σ', H', J, q⟩ := hs
    exact fin (v := V.non) (u := Value.none) J rfl q
  | brk => exact hs.elim fun _ z => z.elim fun _ z => z.2.elim
  | cont => exact hs.elim fun _ z => z.elim fun _ z => z.2.elim
/-! raise C(e), C's __init__ as above -/
/-- what the top says of a class of errors with one field -/
structure RaiseF (W : Wm) (x fld : Str) : Prop where
  hm : W.mg x = some (.ref (clsA W x))
  ex : ∃ (D fI : Addr) (fd : FuncData) (a0 a1 : Str), SuX W.K (clsA W x) D fld ∧ PySem.W.findIn W.K (.ref (clsA W x)) "__init__" = some (some (.ref fI)) ∧ PySem.W.typeIn W.K (.ref fI) = some (.type "function") ∧ Binds W.K fd [a0, a1] [] ∧
    ∀ base, FnOk W.P W.w W.K W.mg base (L2.CX W.P W.w) 1 fI fd [a0, a1] (spSu W.K D fld)
section
variable {X : Cx} {WW : WX} {W : Wm}
theorem cx_false {X : Cx} : Passes (L2.CX X.prog X.w) X (fun _ _ _ => False) := fun pins σ H s e s' _ z => by
  obtain ⟨_, _, _, _, _, _, _, _, _, _, _, _, z⟩ := z
  exact z.elim
theorem put_dict {H1 : Hp} {a dx C : Addr} {fs : List (Str × V)} (ha : H1 a = none) (ne : dx ≠ a) :
    upd (L2.del (upd (upd (upd H1 a (L2.exo a C none)) dx (L2.exd dx fs)) a (L2.exo a C (some dx))) a) dx (.xd fs) = upd H1 dx (.xd fs) := funext fun b => by
  by_cases hb : b = dx
  · rw [hb, upd_same, upd_same]
  · rw [upd_ne hb, upd_ne hb]
    by_cases hc : b = a
    · rw [hc, L2.del_same, ha]
    · rw [L2.del_ne hc, upd_ne hc, upd_ne hb, upd_ne hc]
def sRaiseF (x fld : Str) (ae : AE) : AS := fun D ρ μ => ae D.ex ρ μ fun d μ' => D.ex ⟨x, some [(fld, d)]⟩ ρ μ'
@[simp] theorem u_raiseF {x fld : Str} {ae : AE} {D : AEnds} {ρ : Sl} {μ : Mu} : sRaiseF x fld ae D ρ μ = ae D.ex ρ μ fun d μ' => D.ex ⟨x, some [(fld, d)]⟩ ρ μ' := rfl
theorem ds_raiseF (c : Ctx X WW) {x fld : Str} {k : Nat} {e : Expr} {te : TE} {ae : AE} {p pos pos' : Pos} (R : RaiseF (wm X) x fld) (hr : Room k X.A) (hk : 2 ≤ k) (he : DE X WW e te ae) (hg : Gl X x := by rfl) (hdb : (x == ("__debug__" : Str)) = false := by decide)
    (hs : starEach [e] X.env = (false, eval e X.env) :: starEach [] X.env := by rfl) (hpl : (backTo pos (starEach [] X.env)).any (·.1) = false := by rfl) :
    DS X WW (.Raise (some (.Call (.Name x p) [e] [] pos)) none pos') (fun _ σ H => L2.tMkO (clsA (wm X) x) (spSu X.K R.ex.choose fld) [] (tCons te tNil) σ H fun cls d H' => WW cls d σ H') (sRaiseF x fld ae) := by
  obtain ⟨fI, fd, a0, a1, su, hi, ht, hb, hf⟩ := R.ex.choose_spec
  refine ⟨ps_raise c.hc c.tk (pmk_oex su.oex hi ht (hf X.base) (hr.mono hk) hb .nil cx_false hg R.hm (pa_cons he.p pa_nil hs) hdb hs hpl), fun F μ ρ σ H AD DD rep sl k q => ?_⟩
  refine he.s F μ ρ σ H AD.ex _ _ rep sl (k.konx sl) q fun F1 μ1 H1 d1 v1 r1 s1 a1 q1 => ⟨by simp, fun a ha => ⟨a, _, v1, rfl, su, upd_same, fun dx n ne => ⟨rfl, dx, [(fld, v1)], upd_same, ?_, ?_, ?_⟩⟩⟩
  · rw [upd_ne ne, upd_same]
  · rw [upd_ne ne] at n
    exact n
  · rw [upd_ne ne] at n
    rw [put_dict ha ne]
    have st := Step.alloc (o := .xd [(fld, v1)]) r1 n
    exact k.ex _ _ _ _ _ ⟨x, some [(fld, d1)]⟩ _ _ (r1.alloc n) (s1.trans st) ((sl.mono s1.ex).mono st.ex) ⟨_, R.hm, rfl, dx, [v1], rfl, upd_same, rfl, ⟨v1, [], rfl, At.mono st.ex _ _ a1, rfl⟩⟩ q1
/-! e.fld in an except suite -/
theorem lookup_at {F : Hp} {Wx : Wd} {n : Str} {d : Dat} : ∀ {ns : List Str} {ds : List Dat} {vs : List V}, AtL Wx F ds vs → ns.length = vs.length → (ns.zip ds).lookup n = some d → ∃ v, (ns.zip vs).lookup n = some v ∧ At Wx F d v
  | [], _, _, _, _, h => by cases h
  | _ :: _, [], _, _, _, h => by cases h
  | m :: ns, x :: ds, _, ⟨v, r, rfl, av, ar⟩, hl, h => by
    simp only [List.zip_cons_cons, List.lookup_cons] at h ⊢
    split at h
    · cases h
      exact ⟨v, rfl, av⟩
    · exact lookup_at ar (Nat.succ.inj hl) h
def aXf (i : Nat) (a dd : Addr) (n : Str) : AE := fun _ ρ μ Q => ∃ ns ds d, ρ[i]? = some (some (.exn a dd ns ds)) ∧ (ns.zip ds).lookup n = some d ∧ Q d μ
@[simp] theorem u_xf {i : Nat} {a dd : Addr} {n : Str} {Xp : XP} {ρ : Sl} {μ : Mu} {Q : AQ} : aXf i a dd n Xp ρ μ Q = ∃ ns ds d, ρ[i]? = some (some (.exn a dd ns ds)) ∧ (ns.zip ds).lookup n = some d ∧ Q d μ := rfl
theorem de_xf (i : Nat) {a dd C : Addr} {oe : Obj} {pn : List (Addr × Obj)} {x n : Str} {p1 pos : Pos} (T : L2.XfC X.K C) (hno : PySem.W.findIn X.K (.ref C) n = some none) (hz : Zc (.ref C) (some dd) oe) (hf : ∃ vs, oe.data = .fields vs)
    (d1 : DE (X.suite a ((a, oe) :: pn)) WW (.Name x p1) (tVar i) (aVar i)) (hb : attributeBase (.Name x p1) n X.env (eval (.Name x p1) X.env) = eval (.Name x p1) X.env := by rfl) :
    DE (X.suite a ((a, oe) :: pn)) WW (.Attribute (.Name x p1) n pos) (L2.tXf a (.ref C) (some dd) C n (tVar i)) (aXf i a dd n) := by
  refine ⟨L2.pe_xf T hno hz hf d1.p hb, fun F μ ρ σ H Xp Q R rep sl kx ⟨ns, ds, d, h1, h2, q⟩ k => ?_⟩
  obtain ⟨v, hv, e, vs, hF, hl, al⟩ := sl.2 _ _ h1
  obtain ⟨y, hy, ay⟩ := lookup_at al hl h2
  subst e
  exact ⟨_, hv, rfl, rfl, dd, _, y, rfl, rep.ex _ _ hF, hy, k.here rep ay q⟩
end
end DL

namespace DL
open PySem PySem.Spec PyProof.Rows L2
/-! isinstance of a caught error that has fields -/
section
open PySem.W PySem.Calls
variable {P : Program} {w : World} {A : Around} {E : Value → Shared → Prop} {s : Shared} {K : Frag} {x C : Addr} {ox : Obj} {od : Option Obj}
theorem find_cls (T : L2.ExcC K C) : findObj K C od "__class__" = some (.bind (.builtin "getset_descriptor.__get__") (.builtin "object.__class__")) := by
  have z := T.hd
  unfold hasDictIn at z
  cases q : clsIn K C with
  | none => rw [q] at z; cases z
  | some cd =>
    unfold findObj
    rw [q, Option.bind_some, T.ha, Option.bind_some]
    simp [T.hn, T.ht]
theorem ask_cls (T : L2.ExcC K C) {Q : Option Value → Shared → Prop} (X : K.In s.heap) (I : InstAt s.heap x ox C od) (q : Q (some (.ref C)) { s with toks := s.toks + 1 }) : wpAny (model P w) A (getAttr? (.ref x) "__class__") Q E s := by
  obtain ⟨hp, g, dr, t, os⟩ := s
  have l1 := I.type (M := model P w)
  have l2 := looks_find (M := model P w) X I (find_cls T)
  have lb : Looks (model P w) hp (isInstance (.ref x) (.type "BaseException")) true := l1.andThen (looks_subIn X T.hs)
  have n1 : (Value.builtin "BaseException.__getattribute__" == Value.builtin "object.__getattribute__") = false := by decide +kernel
  have n2 : (onTheHeap (Value.ref C) && Value.builtin "BaseException.__getattribute__" == Value.builtin "object.__getattribute__") = false := by rw [n1] <;> rfl
  have n3 : (false && onTheHeap (Value.builtin "BaseException.__getattribute__")) = false := rfl
  unfold getAttr? getAttrBy? getAttrBy
  refine wpAny_bind (wpAny_mkText (wpAny_bind (wpAny_attempt (wpAny_holding (wpAny_bind (l1.at (wpAny_bind ((looks_findIn (M := model P w) X T.hg).at ?_))))))))
  refine KFB.if_not n2 ?_
  unfold getAttrByItsOwn hookBefore
  refine wpAny_bind ?_
  refine KFB.if_so (show onTheHeap (Value.ref C) = true from rfl) ?_
  refine (looks_findIn (M := model P w) X T.hk).at (wpAny_bind (wpAny_attempt (wpAny_holding ?_)))
  unfold callGetattribute
  refine KFB.if_not n3 ?_
  unfold boundAndCalled
  rw [PySem.F.excAttr_ValueError.ga.bind (.ref x)]
  refine wpAny_bind (wpAny_pure (wpAny_call (codeAny_call_builtin PySem.F.excAttr_ValueError.ga.plain PySem.F.entry_bexc_ga (@check_slot (model P w) _ _ ⟨hp, g, dr, t + 1, os⟩ "BaseException.__getattribute__" "BaseException" "__getattribute__" (.ref x) [.str "__class__" t] [] _ (by decide +kernel) (by decide +kernel) lb (PySem.F.args_bexc_ga (.ref x) (.str "__class__" t)) ?_))))
  unfold Builtin.«object.__getattribute__»
  refine wpAny_bind (wpAny_of_eq (a := ((Value.ref x : Value), [Value.str "__class__" t])) (by first | rfl | (simp only [slotArgs]; rfl)) (wpAny_bind (wpAny_pure (wpAny_bind (l1.at (wpAny_bind (l2.at ?_)))))))
  refine wpAny_bind (m := holding [Value.builtin "object.__class__"] (call (.builtin "getset_descriptor.__get__") [.builtin "object.__class__", .ref x, .ref C])) (wpAny_holding (wpAny_call (class_get (s := ⟨hp, g, dr, t + 1, os⟩) (ox := ox) (od := od) X I T.hm (wpAny_pure ?_))))
  show wpAny _ _ (handedOut (.ref C)) _ _ _
  rw [handedOut_of (v := .ref C) rfl]
  first
    | exact wpAny_pure (wpAny_pure q)
    | exact wpAny_pure q
    | exact wpAny_pure (wpAny_bind (wpAny_pure (wpAny_pure q)))
theorem kit_exc (T : L2.ExcC K C) : KitX K (.ref x) (.ref C) (fun h => InstAt h x ox C od) := by
  have z := T.hd
  unfold hasDictIn clsIn at z
  split at z
  · rename_i c' d' cd' sl' ho
    refine ⟨fun _ _ _ I => I.type, fun _ _ X _ A' Q' E' s' k q => ?_, fun h tp dd its n sl X htp => Bool.eq_false_iff.mpr fun q => ?_, fun X I k => ask_cls T X I k⟩
    · unfold isType loadHead
      exact wpAny_bind (wpAny_loadPart (k _ _ (X _ _ ho)) (wpAny_pure q))
    · have e : C = tp := Value.ref.inj (beq_iff_eq.mp q)
      subst e
      exact nomatch (X _ _ ho).symm.trans htp
  · cases z
end
section
variable {X : Cx} {WW : WX} {W : Wm}
theorem call_isF {a C dd : Addr} {oe : Obj} {pn : List (Addr × Obj)} (T : L2.ExcC X.K C) (hz : Zc (.ref C) (some dd) oe) (hf : ∃ vs, oe.data = .fields vs) :
    CallR (X.suite a ((a, oe) :: pn)) (.builtin "isinstance") (fun xs H Q => (∃ fs, H dd = some (.xd fs)) ∧ L2.rIsE X.K C a xs H Q) := by
  intro pins s σ H xs us Q I r ⟨⟨fs, hd⟩, c, cv, b, e, hcv, ek, q⟩
  subst e
  cases r with
  | @cons _ u0 _ _ rx rr =>
    cases rr with
    | cons rt rr =>
      cases rr
      obtain rfl : u0 = Value.ref a := rx
      have ec := hcv _ rt
      subst ec
      obtain ⟨hget, _⟩ := I.pin (a, oe) (List.mem_append_left _ List.mem_cons_self)
      obtain ⟨vs, hv⟩ := hf
      have hx : ObjOk X.prog X.w H s.heap dd (.xd fs) := I.hok dd _ hd
      obtain ⟨mA, ⟨o, es, ep, ho, _⟩, _⟩ := hx
      have J : PySem.W.InstAt s.heap a oe C (some o) := by
        obtain ⟨oc, od, oda, osl⟩ := oe
        obtain ⟨h1, h2⟩ := hz
        dsimp only at h1 h2 hv
        subst h1 h2 hv
        exact ⟨hget, rfl, rfl, ho⟩
      exact PySem.W.kia_one (kit_exc T) I.kIn J ek (fun z => nomatch z) fun tk => ⟨.bl b, H, I.kept (t' := tk) fun _ _ z => z, rfl, q⟩
/-- isinstance(e, C): e the error of slot i, its dict at dd -/
abbrev tIsF (K : PySem.W.Frag) (a dd C : Addr) (i : Nat) (v : V) : TE := tCB (fun xs H Q => (∃ fs, H dd = some (.xd fs)) ∧ L2.rIsE K C a xs H Q) (tCons (tVar i) (tCons (tC v) tNil))
def aIsF (i : Nat) (a dd : Addr) (b : Bool) : AE := fun _ ρ μ Q => (∃ ns ds, ρ[i]? = some (some (.exn a dd ns ds))) ∧ Q (.bl b) μ
@[simp] theorem u_isF {i : Nat} {a dd : Addr} {b : Bool} {Xp : XP} {ρ : Sl} {μ : Mu} {Q : AQ} : aIsF i a dd b Xp ρ μ Q = ((∃ ns ds, ρ[i]? = some (some (.exn a dd ns ds))) ∧ Q (.bl b) μ) := rfl
theorem de_isF {cn : Str} {v : V} {cv : Value} (i : Nat) {a dd : Addr} {oe : Obj} {pn : List (Addr × Obj)} {c n : Str} {b : Bool} {p p1 p2 pos : Pos} (hz : Zc (.ref (clsA (wm X) c)) (some dd) oe) (hf : ∃ vs, oe.data = .fields vs) (hm : X.mg "isinstance" = none) (hC : L2.ExcC X.K (clsA (wm X) c))
    (hv : ∀ u, RelV v u → u = cv) (he2 : PE (X.suite a ((a, oe) :: pn)) (.Name cn p2) (tC v)) (hk : PySem.W.kitOne X.K (.ref (clsA (wm X) c)) cv = some b) (d1 : DE (X.suite a ((a, oe) :: pn)) WW (.Name n p1) (tVar i) (aVar i))
    (hg : Gl (X.suite a ((a, oe) :: pn)) "isinstance" := by rfl)
    (he : starEach [.Name n p1, .Name cn p2] X.env = (false, eval (.Name n p1) X.env) :: starEach [.Name cn p2] X.env := by rfl) (hpl : (backTo pos (starEach [.Name cn p2] X.env)).any (·.1) = false := by rfl) :
    DE (X.suite a ((a, oe) :: pn)) WW (.Call (.Name "isinstance" p) [.Name n p1, .Name cn p2] [] pos) (tCB (fun xs H Q => (∃ fs, H dd = some (.xd fs)) ∧ L2.rIsE X.K (clsA (wm X) c) a xs H Q) (tCons (tVar i) (tCons (tC v) tNil))) (aIsF i a dd b) := by
  refine ⟨pe_callB (call_isF hC hz hf) hg hm bt_isinstance (pa_cons d1.p (pa_cons he2 pa_nil)) (by decide) (by decide) he hpl, fun F μ ρ σ H Xp Q R rep sl kx ⟨⟨ns, ds, h1⟩, q⟩ k => ?_⟩
  obtain ⟨u, hu, e, vs, hF, _⟩ := sl.2 _ _ h1
  subst e
  exact ⟨_, hu, ⟨_, rep.ex _ _ hF⟩, v, cv, b, rfl, hv, hk, k.here rep (show At (wm X).toWd F (.bl b) (.bl b) from rfl) q⟩
theorem relv_ref {a : Addr} : ∀ u, RelV (.ref a) u → u = .ref a := fun _ h => h
theorem relv_ty {n : String} : ∀ u, RelV (.ty n) u → u = .type n := fun _ h => h
theorem de_isFo (i : Nat) {a dd : Addr} {oe : Obj} {pn : List (Addr × Obj)} {c n cn : Str} {b : Bool} {p p1 p2 pos : Pos} (hz : Zc (.ref (clsA (wm X) c)) (some dd) oe) (hf : ∃ vs, oe.data = .fields vs) (hm : X.mg "isinstance" = none) (hC : L2.ExcC X.K (clsA (wm X) c))
    (hcn : X.mg cn = some (.ref (clsA (wm X) cn))) (hk : PySem.W.kitOne X.K (.ref (clsA (wm X) c)) (.ref (clsA (wm X) cn)) = some b) (d1 : DE (X.suite a ((a, oe) :: pn)) WW (.Name n p1) (tVar i) (aVar i))
    (hg : Gl (X.suite a ((a, oe) :: pn)) "isinstance" := by rfl) (hgc : Gl (X.suite a ((a, oe) :: pn)) cn := by rfl) (hd : (cn == ("__debug__" : Str)) = false := by decide)
    (he : starEach [.Name n p1, .Name cn p2] X.env = (false, eval (.Name n p1) X.env) :: starEach [.Name cn p2] X.env := by rfl) (hpl : (backTo pos (starEach [.Name cn p2] X.env)).any (·.1) = false := by rfl) :
    DE (X.suite a ((a, oe) :: pn)) WW (.Call (.Name "isinstance" p) [.Name n p1, .Name cn p2] [] pos) (tIsF X.K a dd (clsA (wm X) c) i (.ref (clsA (wm X) cn))) (aIsF i a dd b) :=
  (de_isF i hz hf hm hC relv_ref (pe_glob hgc hcn rfl hd) hk d1 hg he hpl)
theorem de_isFv (i : Nat) {a dd : Addr} {oe : Obj} {pn : List (Addr × Obj)} {c n : Str} {b : Bool} {p p1 p2 pos : Pos} (hz : Zc (.ref (clsA (wm X) c)) (some dd) oe) (hf : ∃ vs, oe.data = .fields vs) (hm : X.mg "isinstance" = none) (hC : L2.ExcC X.K (clsA (wm X) c))
    (hcn : X.mg "ValueError" = none) (hk : PySem.W.kitOne X.K (.ref (clsA (wm X) c)) (.type "ValueError") = some b) (d1 : DE (X.suite a ((a, oe) :: pn)) WW (.Name n p1) (tVar i) (aVar i))
    (hg : Gl (X.suite a ((a, oe) :: pn)) "isinstance" := by rfl) (hgc : Gl (X.suite a ((a, oe) :: pn)) "ValueError" := by rfl)
    (he : starEach [.Name n p1, .Name "ValueError" p2] X.env = (false, eval (.Name n p1) X.env) :: starEach [.Name "ValueError" p2] X.env := by rfl) (hpl : (backTo pos (starEach [.Name "ValueError" p2] X.env)).any (·.1) = false := by rfl) :
    DE (X.suite a ((a, oe) :: pn)) WW (.Call (.Name "isinstance" p) [.Name n p1, .Name "ValueError" p2] [] pos) (tIsF X.K a dd (clsA (wm X) c) i (.ty "ValueError")) (aIsF i a dd b) :=
  (de_isF i hz hf hm hC relv_ty (pe_bltn hgc hcn bt_ValueError rfl (by decide) (by decide)) hk d1 hg he hpl)
end
end DL

namespace DL
open PySem PySem.Spec PyProof.Rows L2
/-! try with any number of clauses, each with a name or without -/
/-- a clause: its class, the slot of its name, what its suite does -/
structure Cl where
  c : Value
  sl : Option Nat
  ts : Addr → Value → Option Addr → TS
def outS : Option Nat → L2.St → L2.St
  | none, σ => σ
  | some i, σ => σ.set i none
def inS (a : Addr) : Option Nat → L2.St → L2.St
  | none, σ => σ
  | some i, σ => σ.set i (some (.ref a))
def outD (o : Option Nat) (D : Ends) : Ends := { nx := fun σ H => D.nx (outS o σ) H, rt := D.rt, bk := fun σ H => D.bk (outS o σ) H, ct := fun σ H => D.ct (outS o σ) H }
def wCls (K : PySem.W.Frag) (Wout : WX) (D : Ends) : List Cl → WX
  | [] => Wout
  | k :: r => fun cls d σ H => ∃ b, PySem.W.exmOne K cls k.c = some b ∧ (b = true → ∀ a, H a = none → k.ts a cls d (outD k.sl D) (inS a k.sl σ) H) ∧ (b = false → wCls K Wout D r cls d σ H)
abbrev SuiteOk (X : Cx) (st : List Stmt) (ts : Addr → Value → Option Addr → TS) : Prop :=
  ∀ (a : Addr) (oe : Obj) (cls : Value) (d : Option Addr) (pn : List (Addr × Obj)), Zc cls d oe → (∃ vs, oe.data = .fields vs) → PSs (X.suite a ((a, oe) :: pn)) st (ts a cls d)
inductive ClsOk (X : Cx) : List ExceptHandler → List Cl → Prop
  | nil : ClsOk X [] []
  | bare {x : Str} {c : Value} {ts : Addr → Value → Option Addr → TS} {s1 : Stmt} {st : List Stmt} {p p' : Pos} {hds : List ExceptHandler} {l : List Cl} (hc : Names X x c) (h : SuiteOk X (s1 :: st) ts) (r : ClsOk X hds l) :
      ClsOk X (.ExceptHandler (some (.Name x p)) none (s1 :: st) p' :: hds) (⟨c, none, ts⟩ :: l)
  | named {x n : Str} {i : Nat} {c : Value} {ts : Addr → Value → Option Addr → TS} {s1 : Stmt} {st : List Stmt} {p p' : Pos} {hds : List ExceptHandler} {l : List Cl} (hc : Names X x c) (hi : X.N[i]? = some n) (hl : X.env.kindOf n = some .local) (h : SuiteOk X (s1 :: st) ts) (r : ClsOk X hds l) :
      ClsOk X (.ExceptHandler (some (.Name x p)) (some n) (s1 :: st) p' :: hds) (⟨c, some i, ts⟩ :: l)
section
variable {X : Cx} {pins : List (Addr × Obj)} {Wout : WX} {D : Ends}
/-- an error over this frame, looked at -/
structure Air (X : Cx) (pins : List (Addr × Obj)) (B : Heap) (a : Addr) (cls : Value) (d : Option Addr) (sI : Shared) (σ : L2.St) (H : Hp) (s : Shared) : Prop where
  inv : Inv X pins σ H sI
  nb : ∀ b o, sI.heap.get? b = some o → b ∉ frs X.stack → B.get? b = some o
  up : sI.heap.UpToSlots s.heap
  fl : HandSPX.FlyingZ B (X.env :: X.outer) a (Zc cls d) s.heap
  na : H a = none
  os : s.os = sI.os
  ag : AllBare s.gens
variable {B : Heap} {a : Addr} {cls : Value} {d : Option Addr} {sI s : Shared} {σ : L2.St} {H : Hp}
theorem Air.now (z : Air X pins B a cls d sI σ H s) : Inv X pins σ H s := z.inv.landed z.nb z.fl.1 z.up z.os z.ag
theorem Air.onto {h : Heap} (z : Air X pins B a cls d sI σ H s) (f : HandSPX.FlyingZ B (X.env :: X.outer) a (Zc cls d) h) (u : s.heap.UpToSlots h) : Air X pins B a cls d sI σ H { s with heap := h } := ⟨z.inv, z.nb, z.up.trans u, f, z.na, z.os, z.ag⟩
/-- it is no frame's -/
theorem Air.off (z : Air X pins B a cls d sI σ H s) (hf : X.env.frame = some X.env.locals) : a ≠ X.env.locals ∧ a ∉ X.fs := by
  obtain ⟨oe, vs, he, _, hd⟩ := z.fl.there
  have no : a ∉ frs (X.env :: X.outer) := fun hm => by
    obtain ⟨_, o', e', hnf⟩ := z.fl.2.2.1.mem hm
    rw [he] at e'
    cases e'
    exact hnf _ hd
  refine ⟨fun q => no (List.mem_filterMap.mpr ⟨X.env, List.mem_cons_self, by rw [hf, q]⟩), fun hm => ?_⟩
  obtain ⟨e, he, q⟩ := List.mem_filterMap.mp hm
  exact no (List.mem_filterMap.mpr ⟨e, List.mem_cons_of_mem _ he, q⟩)
/-- no clause takes it -/
theorem Air.on (z : Air X pins B a cls d sI σ H s) (hs : X.stack = X.env :: X.outer) (hf : X.env.frame = some X.env.locals) (tk : Takes X Wout) (w : Wout cls d σ H) : wpAny (model X.prog X.w) X.A (handleBy (.ref a) X.env []) (SP X pins D) X.xe s := by
  refine wpAny_handleBy_nil ?_
  obtain ⟨k1, k2, k3, oe, vs, T, oT, ts, he, hz, hd, h1, hr⟩ := id z.fl
  have up : wpAny (model X.prog X.w) X.A (setFlight (.ref a) X.env.frame) (fun _ s4 => wpAny (model X.prog X.w) X.A (throw (.ref a) : Sem Flow) (SP X pins D) X.xe s4) X.xe s := by
    rw [hf]
    exact HandSPX.setFlight_upZ z.fl fun h4 hh u4 => wpAny_throw (tk _ _ ⟨a, B, sI, pins, σ, H, cls, d, rfl, z.inv, z.nb, z.up.trans u4, .inr (.inr (by rw [hs]; exact hh)), z.na, z.os, z.ag, w⟩)
  unfold PySem.passOn
  refine wpAny_bind (wpAny_field he hd h1 (PySem.W.KFB.if_not (show (Value.ref T == Value.none) = false from by simp) ?_))
  first
    | exact wpAny_bind (wpAny_pure (wpAny_bind up))
    | exact wpAny_bind up
/-- the class of a clause is asked -/
theorem Air.ask (z : Air X pins B a cls d sI σ H s) (hf : X.env.frame = some X.env.locals) {x : Str} {c : Value} {p : Pos} {b : Bool} {Q : Bool → Shared → Prop} {E E' : Value → Shared → Prop} (hc : Names X x c) (hb : PySem.W.exmOne X.K cls c = some b) (q : Q b s) :
    wpAny (model X.prog X.w) (X.A.mark (some (.ref a))) (eval (.Name x p) X.env) (fun v s1 => wpAny (model X.prog X.w) (X.A.mark (some (.ref a))) (excMatches (.ref a) v) Q E s1) E' s := by
  obtain ⟨oe, vs, he, hz, hd⟩ := z.fl.there
  obtain ⟨nL, nF⟩ := z.off hf
  have S := z.now.suite he hd z.na nL nF
  have lt : PySem.W.Looks (model X.prog X.w) s.heap (typeOf (.ref a)) cls := fun _ _ _ _ k q => wpAny_typeOf_ref (k _ _ he) (by rw [hz.1]; exact q)
  have lm := (PySem.W.exm_one (M := model X.prog X.w) z.now.kIn lt hb)
  obtain ⟨hg, hdb, hm | ⟨hm, hv, hnn⟩⟩ := hc
  · exact ld_glob (X := X.suite a ((a, oe) :: (X.pn ++ pins))) S hg hm (lm.here q) hdb
  · exact ld_blt (X := X.suite a ((a, oe) :: (X.pn ++ pins))) S hg hm hv (lm.here q) hnn hdb
theorem cls_go (ok : X.Ok) (hs : X.stack = X.env :: X.outer) (hf : X.env.frame = some X.env.locals) (hN : X.N.Nodup) (tk : Takes X Wout) (z : Air X pins B a cls d sI σ H s) {hds : List ExceptHandler} {l : List Cl} (ho : ClsOk X hds l) :
    wCls X.K Wout D l cls d σ H → wpAny (model X.prog X.w) X.A (handleBy (.ref a) X.env hds) (SP X pins D) X.xe s := by
  obtain ⟨nL, nF⟩ := z.off hf
  induction ho with
  | nil => exact fun w => z.on hs hf tk w
  | @bare x c ts s1 st p p' hds l hc h r ih =>
    intro ⟨b, hb, h1, h0⟩
    refine wpAny_handleBy_cons (codeAny_handlers_test (z.ask hf hc hb ?_)) (by intro q; cases q)
    match b with
    | false => exact ih (h0 rfl)
    | true =>
      refine codeAny_handlers_suite (HandSPX.lands_againZ z.fl fun h4 f4 u4 => ?_)
      have z4 := z.onto f4 u4
      obtain ⟨oe, vs, he, hz, hd⟩ := f4.there
      refine wpAny_mono ((h a oe cls d (X.pn ++ pins) hz ⟨_, hd⟩).run [] _ _ H _ (z4.now.suite he hd z.na nL nF) (h1 rfl a z.na)) (fun f s6 hsp => ?_) fun _ _ y => y.elim
      cases f with
      | ret u => exact hsp.imp fun v y => y.imp fun σ6 y => y.imp fun H6 y => ⟨y.1.unsuite ok, y.2⟩
      | next => exact hsp.imp fun σ6 y => y.imp fun H6 y => ⟨y.1.unsuite ok, y.2⟩
      | brk => exact hsp.imp fun σ6 y => y.imp fun H6 y => ⟨y.1.unsuite ok, y.2⟩
      | cont => exact hsp.imp fun σ6 y => y.imp fun H6 y => ⟨y.1.unsuite ok, y.2⟩
  | @named x n i c ts s1 st p p' hds l hc hi hl h r ih =>
    intro ⟨b, hb, h1, h0⟩
    refine wpAny_handleBy_cons (codeAny_handlers_test (z.ask hf hc hb ?_)) (by intro q; cases q)
    match b with
    | false => exact ih (h0 rfl)
    | true =>
      refine codeAny_handlers_suite_as (HandSPX.lands_againZ z.fl fun h4 f4 u4 => ?_)
      have z4 := z.onto f4 u4
      obtain ⟨oe, vs, he, hz, hd⟩ := f4.there
      refine store_ok (X := X.suite a ((a, oe) :: (X.pn ++ pins))) (v := .ref a) (z4.now.suite he hd z.na nL nF) hN hi (.inl hl) rfl (fun s5 S5 => ?_) (.inr hl)
      refine wpAny_mono ((h a oe cls d (X.pn ++ pins) hz ⟨_, hd⟩).run [] s5 _ H _ S5 (h1 rfl a z.na)) (fun f s6 hsp => ?_) fun _ _ y => y.elim
      have goes : ∀ {σ6 : L2.St} {H6 : Hp} {Q : Shared → Prop}, Inv (X.suite a ((a, oe) :: (X.pn ++ pins))) [] σ6 H6 s6 → (∀ s7, Inv X pins (σ6.set i none) H6 s7 → Q s7) →
          wpAny (model X.prog X.w) X.A (do bindName X.env n .none; unbindBehindTheSuite X.env n p') (fun _ s7 => Q s7) X.xe s6 := fun S6 hq => gone_ok (S6.unsuite ok) hN hi hl hq
      cases f with
      | ret u => exact let ⟨v, _, _, S6, r6, q6⟩ := hsp; goes S6 fun s7 J => ⟨v, _, _, J, r6, q6⟩
      | next => exact let ⟨_, _, S6, q6⟩ := hsp; goes S6 fun s7 J => ⟨_, _, J, q6⟩
      | brk => exact let ⟨_, _, S6, q6⟩ := hsp; goes S6 fun s7 J => ⟨_, _, J, q6⟩
      | cont => exact let ⟨_, _, S6, q6⟩ := hsp; goes S6 fun s7 J => ⟨_, _, J, q6⟩
variable {body : List Stmt} {k0 : ExceptHandler} {hds : List ExceptHandler} {l : List Cl} {pos : Pos} {tb : WX → TS}
theorem ps_try_cls (hs : X.stack = X.env :: X.outer) (hf : X.env.frame = some X.env.locals) (hN : X.N.Nodup) (tk : Takes X Wout)
    (hb : ∀ (W : WX) (pn : List (Addr × Obj)) (xe : Value → Shared → Prop), Takes (X.tr pn xe) W → PassesOwn (model X.prog X.w) X.A X.env xe → PSs (X.tr pn xe) body (tb W)) (ho : ClsOk X (k0 :: hds) l) :
    PS X (.Try body (k0 :: hds) [] [] pos) (fun D σ H => tb (wCls X.K Wout D l) D σ H) := by
  refine ⟨fun pins s σ H D I h => ?_⟩
  have ok := I.ok
  have hfr : X.A.frames = some (X.env :: X.outer) := ok.frames.trans (by rw [hs])
  refine wpAny_Try_except (wpAny_mono ((hb (wCls X.K Wout D l) (X.pn ++ pins) (fun e s1 => wpAny (model X.prog X.w) X.A (noteFrame e X.env) (fun _ s2 => wpAny (model X.prog X.w) X.A (setFlight e none) (fun _ s3 =>
    wpAny (model X.prog X.w) X.A (handleBy e X.env (k0 :: hds)) (SP X pins D) X.xe s3) X.xe s2) X.xe s1) (fun u s' xx => ?_) PassesOwn.looking).run [] s σ H D (I.toTry _) h) (fun f s1 hsp => ?_) fun e s1 he => he)
  · obtain ⟨a, B, sI, pins', σ', H', cls, d, e, J, nb, up, sky, na, os, ag, w⟩ := xx
    subst e
    exact Sky.land Zc.steady hfr hf (by rw [← hs]; exact sky) fun h3 f3 u3 => cls_go (s := { s' with heap := h3 }) ok hs hf hN tk ⟨J.ofTry ok, nb, up.trans u3, f3, na, os, ag⟩ ho w
  · cases f with
    | ret u => exact hsp.imp fun v y => y.imp fun σ6 y => y.imp fun H6 y => ⟨y.1.ofTry ok, y.2⟩
    | next => exact wpAny_execs_nil (hsp.imp fun σ6 y => y.imp fun H6 y => ⟨y.1.ofTry ok, y.2⟩)
    | brk => exact hsp.imp fun σ6 y => y.imp fun H6 y => ⟨y.1.ofTry ok, y.2⟩
    | cont => exact hsp.imp fun σ6 y => y.imp fun H6 y => ⟨y.1.ofTry ok, y.2⟩
end
end DL

namespace DL
open PySem PySem.Spec PyProof.Rows L2
/-! try with several clauses, read abstractly -/
abbrev Sus := List (Str × Bool × (Addr → Addr → AS))
/-- a clause: its class, the slot of its name; the suite for each class that it takes (with fields or without); the classes that it does not take -/
structure ACl where
  cn : Str
  sl : Option Nat
  sus : Sus
  nos : List Str
def excD (x : AX) (a dd : Addr) : Dat := match x.fs with
  | none => .cell a
  | some l => .exn a dd (l.map (·.1)) (l.map (·.2))
@[simp] theorem excD_none {c : Str} {a dd : Addr} : excD ⟨c, none⟩ a dd = .cell a := rfl
@[simp] theorem excD_one {c n : Str} {d : Dat} {a dd : Addr} : excD ⟨c, some [(n, d)]⟩ a dd = .exn a dd [n] [d] := rfl
def outA : Option Nat → Sl → Sl
  | none, ρ => ρ
  | some i, ρ => ρ.set i none
def inA (d : Dat) : Option Nat → Sl → Sl
  | none, ρ => ρ
  | some i, ρ => ρ.set i (some d)
@[simp] theorem outA_none {ρ : Sl} : outA none ρ = ρ := rfl
@[simp] theorem outA_some {i : Nat} {ρ : Sl} : outA (some i) ρ = ρ.set i none := rfl
@[simp] theorem inA_none {d : Dat} {ρ : Sl} : inA d none ρ = ρ := rfl
@[simp] theorem inA_some {d : Dat} {i : Nat} {ρ : Sl} : inA d (some i) ρ = ρ.set i (some d) := rfl
def outE (o : Option Nat) (D : AEnds) : AEnds := { nx := fun ρ μ => D.nx (outA o ρ) μ, rt := D.rt, bk := fun ρ μ => D.bk (outA o ρ) μ, ct := fun ρ μ => D.ct (outA o ρ) μ }
/-- what the clauses do -/
def sCls (D : AEnds) : List ACl → XP
  | [] => D.ex
  | k :: r => fun x ρ μ => match k.sus.lookup x.cls with
    | some p => x.fs.isSome = p.1 ∧ ∀ a dd, μ a = none → p.2 a dd (outE k.sl D) (inA (excD x a dd) k.sl ρ) μ
    | none => x.cls ∈ k.nos ∧ sCls D r x ρ μ
def sTryC (l : List ACl) (ab : AS) : AS := fun D ρ μ => ab { D with ex := sCls D l } ρ μ
@[simp] theorem u_tryC {l : List ACl} {ab : AS} {D : AEnds} {ρ : Sl} {μ : Mu} : sTryC l ab D ρ μ = ab { D with ex := sCls D l } ρ μ := rfl
@[simp] theorem u_clsN {D : AEnds} {x : AX} {ρ : Sl} {μ : Mu} : sCls D [] x ρ μ = D.ex x ρ μ := rfl
theorem u_clsY {D : AEnds} {k : ACl} {r : List ACl} {x : AX} {p : Bool × (Addr → Addr → AS)} {ρ : Sl} {μ : Mu} (h : k.sus.lookup x.cls = some p) : sCls D (k :: r) x ρ μ = (x.fs.isSome = p.1 ∧ ∀ a dd, μ a = none → p.2 a dd (outE k.sl D) (inA (excD x a dd) k.sl ρ) μ) := by
  show (match k.sus.lookup x.cls with | some p => _ | none => _) = _
  rw [h]
theorem u_clsX {D : AEnds} {k : ACl} {r : List ACl} {x : AX} {ρ : Sl} {μ : Mu} (h : k.sus.lookup x.cls = none) : sCls D (k :: r) x ρ μ = (x.cls ∈ k.nos ∧ sCls D r x ρ μ) := by
  show (match k.sus.lookup x.cls with | some p => _ | none => _) = _
  rw [h]
section
variable {X : Cx} {WW : WX}
inductive SuD (X : Cx) (st : List Stmt) : Sus → Prop
  | nil : SuD X st []
  | plain {c : Str} {as : Addr → AS} {l : Sus} (h : ∀ (a : Addr) (oe : Obj) (pn : List (Addr × Obj)), Zc (.ref (clsA (wm X) c)) none oe → (∃ vs, oe.data = .fields vs) → (X.suite a ((a, oe) :: pn)).N.Nodup → ∃ t, DSs (X.suite a ((a, oe) :: pn)) W0 st t (as a)) (r : SuD X st l) : SuD X st ((c, false, fun a _ => as a) :: l)
  | field {c : Str} {as : Addr → Addr → AS} {l : Sus} (h : ∀ (a dd : Addr) (oe : Obj) (pn : List (Addr × Obj)), Zc (.ref (clsA (wm X) c)) (some dd) oe → (∃ vs, oe.data = .fields vs) → (X.suite a ((a, oe) :: pn)).N.Nodup → ∃ t, DSs (X.suite a ((a, oe) :: pn)) W0 st t (as a dd)) (r : SuD X st l) : SuD X st ((c, true, as) :: l)
theorem SuD.get {st : List Stmt} {sus : Sus} (h : SuD X st sus) {x : Str} {p : Bool × (Addr → Addr → AS)} (e : sus.lookup x = some p) {a dd : Addr} {d : Option Addr} {oe : Obj} {pn : List (Addr × Obj)} (h1 : p.1 = true → d = some dd) (h0 : p.1 = false → d = none)
    (hz : Zc (.ref (clsA (wm X) x)) d oe) (hf : ∃ vs, oe.data = .fields vs) (nd : (X.suite a ((a, oe) :: pn)).N.Nodup) : ∃ t, DSs (X.suite a ((a, oe) :: pn)) W0 st t (p.2 a dd) := by
  induction h with
  | nil => cases e
  | @plain c as l h r ih =>
    simp only [List.lookup_cons] at e
    split at e
    · rename_i q
      cases e
      obtain rfl : x = c := by simpa using q
      rw [h0 rfl] at hz
      exact h a oe pn hz hf nd
    · exact ih e
  | @field c as l h r ih =>
    simp only [List.lookup_cons] at e
    split at e
    · rename_i q
      cases e
      obtain rfl : x = c := by simpa using q
      rw [h1 rfl] at hz
      exact h a dd oe pn hz hf nd
    · exact ih e
/-- a suite that is told by its abstract reading -/
def tsuC (W : Wm) (k : ACl) : Addr → Value → Option Addr → TS := fun a cls d D σ H => ∃ x p dd, k.sus.lookup x = some p ∧ cls = .ref (clsA W x) ∧ (p.1 = true → d = some dd) ∧ (p.1 = false → d = none) ∧ semS W W0 (p.2 a dd) D σ H
def toCl (W : Wm) (k : ACl) : Cl := ⟨.ref (clsA W k.cn), k.sl, tsuC W k⟩
structure AClOk (X : Cx) (k : ACl) (st : List Stmt) : Prop where
  su : SuD X st k.sus
  hm : X.mg k.cn = some (.ref (clsA (wm X) k.cn))
  hg : Gl X k.cn
  hdb : (k.cn == ("__debug__" : Str)) = false
  hy : ∀ p ∈ k.sus, PySem.W.exmOne X.K (.ref (clsA (wm X) p.1)) (.ref (clsA (wm X) k.cn)) = some true
  hn : ∀ y ∈ k.nos, PySem.W.exmOne X.K (.ref (clsA (wm X) y)) (.ref (clsA (wm X) k.cn)) = some false
inductive AClsOk (X : Cx) : List ExceptHandler → List ACl → Prop
  | nil : AClsOk X [] []
  | bare {k : ACl} {s1 : Stmt} {st : List Stmt} {p p' : Pos} {hds : List ExceptHandler} {l : List ACl} (ho : k.sl = none) (h : AClOk X k (s1 :: st)) (r : AClsOk X hds l) : AClsOk X (.ExceptHandler (some (.Name k.cn p)) none (s1 :: st) p' :: hds) (k :: l)
  | named {k : ACl} {n : Str} {i : Nat} {s1 : Stmt} {st : List Stmt} {p p' : Pos} {hds : List ExceptHandler} {l : List ACl} (ho : k.sl = some i) (hi : X.N[i]? = some n) (hl : X.env.kindOf n = some .local) (h : AClOk X k (s1 :: st)) (r : AClsOk X hds l) :
      AClsOk X (.ExceptHandler (some (.Name k.cn p)) (some n) (s1 :: st) p' :: hds) (k :: l)
theorem AClOk.suite (nd : X.N.Nodup) {k : ACl} {st : List Stmt} (h : AClOk X k st) : SuiteOk X st (tsuC (wm X) k) := fun a oe cls d pn hz hf => ⟨fun pins s σ H D I ⟨x, p, dd, e, ec, h1, h0, q⟩ => by
  subst ec
  obtain ⟨t, ht⟩ := h.su.get e (a := a) (pn := pn) h1 h0 hz hf nd
  exact ht.sem.run pins s σ H D I q⟩
theorem AClsOk.cls (nd : X.N.Nodup) {hds : List ExceptHandler} {l : List ACl} (h : AClsOk X hds l) : ClsOk X hds (l.map (toCl (wm X))) := by
  induction h with
  | nil => exact .nil
  | @bare k s1 st p p' hds l ho h r ih =>
    have e : toCl (wm X) k = ⟨.ref (clsA (wm X) k.cn), none, tsuC (wm X) k⟩ := by rw [← ho] <;> rfl
    rw [List.map_cons, e]
    exact .bare ⟨h.hg, h.hdb, .inl h.hm⟩ (h.suite nd) ih
  | @named k n i s1 st p p' hds l ho hi hl h r ih =>
    have e : toCl (wm X) k = ⟨.ref (clsA (wm X) k.cn), some i, tsuC (wm X) k⟩ := by rw [← ho] <;> rfl
    rw [List.map_cons, e]
    exact .named ⟨h.hg, h.hdb, .inl h.hm⟩ hi hl (h.suite nd) ih
theorem mem_lookup {β : Type} {x : Str} {p : β} : ∀ {l : List (Str × β)}, l.lookup x = some p → (x, p) ∈ l
  | [], h => nomatch h
  | (y, q) :: l, h => by
    simp only [List.lookup_cons] at h
    split at h
    · rename_i z
      cases h
      obtain rfl : x = y := by simpa using z
      exact List.mem_cons_self
    · exact List.mem_cons_of_mem _ (mem_lookup h)
theorem sl_in {W : Wd} {F : Hp} {ρ : Sl} {σ : L2.St} {d : Dat} {a : Addr} (o : Option Nat) (h : SlAt W F ρ σ) (hd : At W F d (.ref a)) : SlAt W F (inA d o ρ) (inS a o σ) := by
  cases o with
  | none => exact h
  | some i => exact h.set i hd
theorem sl_out {W : Wd} {F : Hp} {ρ : Sl} {σ : L2.St} (o : Option Nat) (h : SlAt W F ρ σ) : SlAt W F (outA o ρ) (outS o σ) := by
  cases o with
  | none => exact h
  | some i => exact h.unset i
theorem cls_sim {F F' : Hp} {μ μ' : Mu} {H H' : Hp} {AD : AEnds} {D : Ends} {hds : List ExceptHandler} {l : List ACl} (ho : AClsOk X hds l) (k : Link (wm X) WW F μ H AD D) {ρ : Sl} {σ : L2.St} {x : AX} {cls : Value} {dd : Option Addr}
    (r : Rep (wm X).toWd F' μ' H') (st : Step F μ H F' μ' H') (sl : SlAt (wm X).toWd F' ρ σ) (xa : ExcAt (wm X) F' x cls dd) : sCls AD l x ρ μ' → wCls X.K WW D (l.map (toCl (wm X))) cls dd σ H' := by
  have xa0 := xa
  obtain ⟨C, m1, m2, m3⟩ := xa
  obtain rfl : C = clsA (wm X) x.cls := (clsA_of m1).symm
  subst m2
  have step : ∀ {kc : ACl} {st1 : List Stmt} {l : List ACl}, AClOk X kc st1 → (sCls AD l x ρ μ' → wCls X.K WW D (l.map (toCl (wm X))) (.ref (clsA (wm X) x.cls)) dd σ H') → sCls AD (kc :: l) x ρ μ' → wCls X.K WW D ((kc :: l).map (toCl (wm X))) (.ref (clsA (wm X) x.cls)) dd σ H' := by
    intro kc st1 l h ih q
    cases e : kc.sus.lookup x.cls with
    | none =>
      rw [u_clsX e] at q
      exact ⟨false, h.hn _ q.1, (fun z => nomatch z), fun _ => ih q.2⟩
    | some p =>
      rw [u_clsY e] at q
      refine ⟨true, h.hy _ (mem_lookup e), (fun _ a ha => ?_), fun z => nomatch z⟩
      have q2 := q.2 a (dd.getD 0) (r.mu_none ha)
      have hd : (p.1 = true → dd = some (dd.getD 0)) ∧ (p.1 = false → dd = none) ∧ At (wm X).toWd F' (excD x a (dd.getD 0)) (.ref a) := by
        rw [← q.1]
        unfold excD
        cases ef : x.fs with
        | none =>
          rw [ef] at m3
          have m4 : dd = none := m3
          subst m4
          exact ⟨fun z => (by cases z), fun _ => rfl, rfl⟩
        | some fl =>
          rw [ef] at m3
          obtain ⟨d0, vs, e1, e2, e3, e4⟩ := m3
          subst e1
          exact ⟨fun _ => rfl, fun z => (by cases z), rfl, vs, e2, by rw [List.length_map]; exact e3, e4⟩
      have k' := k.step st
      exact ⟨x.cls, p, dd.getD 0, e, rfl, hd.1, hd.2.1, F', μ', _, outE kc.sl AD, r, sl_in kc.sl sl hd.2.2, ⟨fun F2 μ2 H2 ρ2 σ2 r2 s2 sl2 q2 => k'.nx _ _ _ _ _ r2 s2 (sl_out kc.sl sl2) q2, k'.rt, fun F2 μ2 H2 ρ2 σ2 r2 s2 sl2 q2 => k'.bk _ _ _ _ _ r2 s2 (sl_out kc.sl sl2) q2,
        fun F2 μ2 H2 ρ2 σ2 r2 s2 sl2 q2 => k'.ct _ _ _ _ _ r2 s2 (sl_out kc.sl sl2) q2, fun F2 μ2 H2 ρ2 σ2 x cls dd r2 s2 sl2 xa q2 => q2.elim⟩, q2⟩
  induction ho with
  | nil => exact fun q => k.ex _ _ _ _ _ _ _ _ r st sl xa0 q
  | bare ho h rr ih => exact step h ih
  | named ho hi hl h rr ih => exact step h ih
theorem ds_try_cls (c : Ctx X WW) {body : List Stmt} {k0 : ExceptHandler} {hds : List ExceptHandler} {l : List ACl} {ab : AS} {pos : Pos} (hs : X.stack = X.env :: X.outer) (hf : X.env.frame = some X.env.locals)
    (hb : ∀ (W : WX) (pn : List (Addr × Obj)) (xe : Value → Shared → Prop), Ctx (X.tr pn xe) W → ∃ t, DSs (X.tr pn xe) W body t ab) (ho : AClsOk X (k0 :: hds) l) :
    DS X WW (.Try body (k0 :: hds) [] [] pos) (fun D σ H => semS (wm X) (wCls X.K WW D (l.map (toCl (wm X)))) ab D σ H) (sTryC l ab) := by
  refine ⟨ps_try_cls hs hf c.nd c.tk (tb := fun Wx => semS (wm X) Wx ab) (fun W pn xe tk hp => ?_) (ho.cls c.nd), fun F μ ρ σ H AD D rep sl k q => ?_⟩
  · obtain ⟨t, h⟩ := hb W pn xe ⟨tk, hp, c.hc, c.nd⟩
    exact h.sem
  · exact ⟨F, μ, ρ, { AD with ex := sCls AD l }, rep, sl, ⟨k.nx, k.rt, k.bk, k.ct, fun F' μ' H' ρ' σ' x cls dd r st sl' xa hh => cls_sim ho k r st sl' xa hh⟩, q⟩
end
end DL

namespace DL
open PySem PySem.Spec PyProof.Rows L2
/-! what the top says of a class of errors with one field -/
/-- the k-th row of a class -/
def inCls (s : Stmt) (k : Nat) : Stmt := match s with
  | .ClassDef _ _ _ b _ _ _ _ _ _ _ => b.getD k s
  | _ => s
/-- st is a def of (a0, a1): super().__init__(text); a0.fld = a1 -/
structure SuW (st : Stmt) (a0 a1 fld : Str) : Prop where
  bd : ∃ msg j q0 q1 q2 q3 q4 q5 q6 q7 q8 q9, defBody st = suBody a0 a1 fld msg j q0 q1 q2 q3 q4 q5 q6 q7 q8 q9 ∧ SuCall msg j q0 q1 q2 q3 q4
  ne : a0 ≠ a1
  d0 : (a0 == ("__debug__" : Str)) = false
  d1 : (a1 == ("__debug__" : Str)) = false
  c0 : (a0 == ("__classdict__" : Str)) = false
  c1 : (a1 == ("__classdict__" : Str)) = false
  nS : (defScope st).names.lookup ("super" : Str) = some .globalImplicit
  nC : (defScope st).names.lookup ("__class__" : Str) = some .free
  n0 : (defScope st).names.lookup a0 = some .local
  n1 : (defScope st).names.lookup a1 = some .local
  al : ∀ x ∈ (defScope st).names, x.2 ≠ .cell ∧ (x.2 = .free → x.1 = "__class__")
  kd : (defScope st).kind = .function
  co : (defScope st).isCoroutine = false
  ge : (defScope st).isGenerator = false
  hp : ∃ ar, ((defArgs st).posonlyargs ++ (defArgs st).args).head? = some ar ∧ ar.arg = a0
  bi : ∀ (nm qual : Str) (kV doc pm : Value) (an : Option Addr) (cdv ct : Value) (cc : Addr) (us : List Value), us.length = 2 → bindArgs (PySem.W.ksFn nm qual (defArgs st) (defBody st) (defScope st) .none kV doc pm an cdv ct cc) ⟨us, []⟩ = pure ([a0, a1].zip us)
section
variable {K : PySem.W.Frag} {P : Program} {w : World} {mg : Str → Option Value}
theorem xf_of {C : Addr} (h : L2.ExcC K C) : L2.XfC K C := ⟨h.hg, h.hk, h.hs, h.hd⟩
theorem RaiseF.no {W : Wm} {x fld : Str} (R : RaiseF W x fld) : PySem.W.findIn W.K (.ref (clsA W x)) fld = some none := by
  obtain ⟨D, fI, fd, a0, a1, su, _⟩ := R.ex
  exact su.fld
theorem raiseF_mk {x fld a0 a1 : Str} {st : Stmt} {C D fI cda cc N : Addr} {nm q nmI qI : Str} {bs bm : List Value} {sn : List Str} {sub : List Value} {ab : Bool} {col : Option Bool} {dd : Option Addr} {k0 k1 k2 k3 k5 : Option Value}
    {kV doc pm ct oc ccl cl : Value} {an od cdd cld : Option Addr} {osl ccs csl : Array (Option Value)} {vs : Array Value} {file : Str} {tf : Tok} {cdD : ClassData} (S : SuW st a0 a1 fld)
    (hm : mg x = some (.ref C)) (lC : K.lookup C = some (excClassObj nm q C N bs bm true sn sub ab col dd k0 k1 k2 k3 k5 "ValueError.__new__")) (rv : PySem.HandSPX.refsVE bm = true)
    (sa : PySem.W.findIn K (.ref C) "__setattr__" = some (some (.builtin "object.__setattr__"))) (exC : PySem.W.subIn K (.ref C) (.type "BaseException") = some true) (tyC : PySem.W.typeIn K (.ref C) = some (.type "type")) (kC : PySem.W.keepIn K (.ref C) = true)
    (hs : PySem.W.mroIn K C (.ref D) = some true) (sup : PySem.W.ks_superIn K C D "__init__" = some (some (.builtin "ValueError.__init__"))) (ve : PySem.W.subIn K (.ref C) (.type "ValueError") = some true) (hf : PySem.W.findIn K (.ref C) fld = some none)
    (hi : PySem.W.findIn K (.ref C) "__init__" = some (some (.ref fI))) (ht : PySem.W.typeIn K (.ref fI) = some (.type "function"))
    (lf : K.lookup fI = some ⟨oc, od, .func (PySem.W.ksFn nmI qI (defArgs st) (defBody st) (defScope st) .none kV doc pm an (.ref cda) ct cc), osl⟩) (hcd : PySem.W.codeIn K (.ref cda) qI = true)
    (lcd : K.lookup cda = some ⟨ccl, cdd, .fields vs, ccs⟩) (hvs : vs[2]? = some (.str file tf)) (hfile : ((P.main.file : Str) == file) = true) (lcc : K.lookup cc = some ⟨cl, cld, .cell (some (.ref D)), csl⟩) (hD : PySem.W.clsIn K D = some cdD)
    (mS : mg "super" = none) (tS : (P.main.scope.names.lookup ("super" : Str)).isSome = false) (hop : PySem.W.nsIn K cStatics "thirdparty.any" = some none) : RaiseF (wmk P w K mg) x fld := by
  have e := clsA_of (W := wmk P w K mg) hm
  refine ⟨cl_mk hm, D, fI, PySem.W.ksFn nmI qI (defArgs st) (defBody st) (defScope st) .none kV doc pm an (.ref cda) ct cc, a0, a1, ?_, ?_, ht, .all fun us hl => S.bi nmI qI kV doc pm an (.ref cda) ct cc us hl, fun base => ?_⟩
  · rw [e]
    exact ⟨⟨⟨nm, q, N, bs, bm, sn, sub, ab, col, dd, k0, k1, k2, k3, k5, lC, rv⟩, sa, exC, tyC, kC⟩, hs, sup, ve, hf⟩
  · rw [e]
    exact hi
  · obtain ⟨msg, j, q0, q1, q2, q3, q4, q5, q6, q7, q8, q9, eb, sc⟩ := S.bd
    obtain ⟨ar, hp, har⟩ := S.hp
    refine fn_super (k := 0) (msg := msg) (j := j) (q0 := q0) (q1 := q1) (q2 := q2) (q3 := q3) (q4 := q4) (q5 := q5) (q6 := q6) (q7 := q7) (q8 := q8) (q9 := q9) ⟨nmI, qI, defArgs st, defScope st, .none, kV, doc, pm, ct, oc, ccl, cl, an, od, cdd, cld, osl, ccs, csl, cda, cc, vs, file, tf, cdD, ar, by rw [eb], lf, hcd, lcd, hvs, hfile, lcc, hD, mS, tS, S.nS, S.nC, S.n0, S.n1, S.al, S.kd, S.co, S.ge, hp, har, hop⟩
      S.ne S.d0 S.d1 S.c0 S.c1 sc
end
@[simp] theorem outE_rt {o : Option Nat} {D : AEnds} : (outE o D).rt = D.rt := rfl
@[simp] theorem outE_nx {o : Option Nat} {D : AEnds} {ρ : Sl} {μ : Mu} : (outE o D).nx ρ μ = D.nx (outA o ρ) μ := rfl
@[simp] theorem outE_bk {o : Option Nat} {D : AEnds} {ρ : Sl} {μ : Mu} : (outE o D).bk ρ μ = D.bk (outA o ρ) μ := rfl
@[simp] theorem outE_ct {o : Option Nat} {D : AEnds} {ρ : Sl} {μ : Mu} : (outE o D).ct ρ μ = D.ct (outA o ρ) μ := rfl
@[simp] theorem outE_ex {o : Option Nat} {D : AEnds} {x : AX} {ρ : Sl} {μ : Mu} : (outE o D).ex x ρ μ = False := rfl
theorem lk_hit {β : Type} {x : Str} {b : β} {l : List (Str × β)} : List.lookup x ((x, b) :: l) = some b := by simp [List.lookup]
theorem lk_miss {β : Type} {x y : Str} {b : β} {l : List (Str × β)} (h : (x == y) = false) : List.lookup x ((y, b) :: l) = List.lookup x l := by simp [List.lookup, h]
@[simp] theorem xf_one {x : Str} {d : Dat} : List.lookup x ([x].zip [d]) = some d := by simp [List.lookup]
end DL

namespace DL
open PySem PySem.Spec PyProof.Rows L2
/-! C(e), an error as a value; its field -/
section
variable {X : Cx} {WW : WX}
def tMkV (C : Addr) (sp : Sp) (ta : TA) : TE := fun σ H Q => ta σ H fun vs H1 => vs.length ≤ 1000 ∧ ∀ a, H1 a = none → sp (.ref a :: vs) (upd H1 a (L2.exo a C none)) (fun v H2 => v = .non ∧ Q (.ref a) H2) (fun _ _ _ => False)
theorem pe_mkv {e : Expr} {es : List Expr} {ta : TA} {p pos : Pos} {CX : CXT} {x : Str} {C fI : Addr} {k : Nat} {fd : FuncData} {ps : List Str} {sp : Sp} (T : L2.OexC X.K C) (iC : PySem.W.findIn X.K (.ref C) "__init__" = some (some (.ref fI))) (tI : PySem.W.typeIn X.K (.ref fI) = some (.type "function"))
    (F1 : FnOk X.prog X.w X.K X.mg X.base CX k fI fd ps sp) (hr : Room (k + 1) X.A) (hb : Binds X.K fd ps []) (hx : Passes CX X (fun _ _ _ => False)) (hg : Gl X x) (hm : X.mg x = some (.ref C)) (ha : PA X (e :: es) ta)
    (hdb : (x == ("__debug__" : Str)) = false) (he : starEach (e :: es) X.env = (false, eval e X.env) :: starEach es X.env) (hpl : (backTo pos (starEach es X.env)).any (·.1) = false) :
    PE X (.Call (.Name x p) (e :: es) [] pos) (tMkV C sp ta) := by
  refine ⟨fun pins s σ H Q I h => ?_⟩
  obtain ⟨nm, q, N, bs, bm, sn, sub, ab, col, dd, k0, k1, k2, k3, k5, lC, rv⟩ := T.cls
  refine wpAny_Call_Name_kw (ld_glob I hg hm (PySem.W.callWith_K (h₀ := X.base) I.ok.mod.kin T.kC (thn (ha.run pos pins s σ H _ I h) fun us s1 ⟨vs, H1, I1, r1, hz, q1⟩ => ⟨I1.kIn, ?_⟩) he hpl) hdb)
  show wpAny _ _ (call (.ref C) us) _ _ _
  obtain ⟨hp, g, dr, tk, os⟩ := s1
  have le1 : hp.objs.size ≤ hp.objs.size + 1 := Nat.le_succ _
  have hsp := q1 _ (I1.hok.fresh le1)
  have hlen := F1.len _ _ _ _ hsp
  have eo : ((hp.push (PySem.W.kdv_tup us)).push (PySem.HandSPX.excO C hp.objs.size)).get? (hp.objs.size + 1) = some (PySem.HandSPX.excO C hp.objs.size) := by heap_get
  have J : Inv X pins σ (upd H1 (hp.objs.size + 1) (L2.exo (hp.objs.size + 1) C none)) ⟨(hp.push (PySem.W.kdv_tup us)).push (PySem.HandSPX.excO C hp.objs.size), g, dr, tk, os⟩ :=
    I1.laid (t' := tk) (fun b o z => Heap.get?_push_of_some _ (Heap.get?_push_of_some _ z)) le1 (L2.exo_ok eo)
  have rr : Vals (V.ref (hp.objs.size + 1) :: vs) (Value.ref (hp.objs.size + 1) :: us) := .cons rfl r1
  have hl : (Value.ref (hp.objs.size + 1) :: us ++ []).length = ps.length := by rw [List.append_nil, ← hlen]; exact rr.length.symm
  have hbind := hb ⟨(hp.push (PySem.W.kdv_tup us)).push (PySem.HandSPX.excO C hp.objs.size), g, dr, tk, os⟩ _ J.kIn hl
  rw [List.append_nil] at hbind
  refine wpAny_call (PySem.HandSPX.call_own F.excBase_ValueError (fun Y => PySem.HandSPX.refsVE_contains Y bm rv) (I1.kIn _ _ lC) (PySem.W.looks_findIn I1.kIn iC) (fun self => PySem.W.bind_fn I1.kIn self tI) (by rw [← Paired.length r1, sizeLine_eq]; omega)
    (codeAny_mono (F1.run _ X.stack _ _ ⟨Value.ref (hp.objs.size + 1) :: us, []⟩ _ _ _ _ (hr.make C us []) (J.env0.make C us []) hbind rr hsp) fun r s' z => ?_))
  cases r with
  | error er => exact hx pins σ _ _ er s' J z
  | ok fl =>
    cases fl with
    | ret u =>
      obtain ⟨v, H2, I2, rv2, ev, q2⟩ := J.after z
      subst ev
      exact ⟨rv2, .ref (hp.objs.size + 1), H2, I2, rfl, q2⟩
    | next => exact z.elim
    | brk => exact z.elim
    | cont => exact z.elim
/-- C(e): an error that is kept -/
def aMkV (C : Addr) (fld : Str) (ae : AE) : AE := fun Xp ρ μ Q => ae Xp ρ μ fun d μ' => Q (.exv C [fld] [d]) μ'
@[simp] theorem u_mkv {C : Addr} {fld : Str} {ae : AE} {Xp : XP} {ρ : Sl} {μ : Mu} {Q : AQ} : aMkV C fld ae Xp ρ μ Q = ae Xp ρ μ fun d μ' => Q (.exv C [fld] [d]) μ' := rfl
theorem de_mkv {x fld : Str} {k : Nat} {e : Expr} {te : TE} {ae : AE} {p pos : Pos} (R : RaiseF (wm X) x fld) (hr : Room k X.A) (hk : 2 ≤ k) (he : DE X WW e te ae) (hg : Gl X x := by rfl) (hdb : (x == ("__debug__" : Str)) = false := by decide)
    (hs : starEach [e] X.env = (false, eval e X.env) :: starEach [] X.env := by rfl) (hpl : (backTo pos (starEach [] X.env)).any (·.1) = false := by rfl) :
    DE X WW (.Call (.Name x p) [e] [] pos) (tMkV (clsA (wm X) x) (spSu X.K R.ex.choose fld) (tCons te tNil)) (aMkV (clsA (wm X) x) fld ae) := by
  obtain ⟨fI, fd, a0, a1, su, hi, ht, hb, hf⟩ := R.ex.choose_spec
  refine ⟨pe_mkv su.oex hi ht (hf X.base) (hr.mono hk) hb cx_false hg R.hm (pa_cons he.p pa_nil hs) hdb hs hpl, fun F μ ρ σ H Xp Q R' rep sl kx q k => ?_⟩
  refine he.s F μ ρ σ H Xp _ _ rep sl kx q fun F1 μ1 H1 d1 v1 r1 s1 a1 q1 => ⟨by simp, fun a ha => ⟨a, _, v1, rfl, su, upd_same, fun dx n ne => ⟨rfl, ?_⟩⟩⟩
  rw [upd_ne ne] at n
  have st1 := Step.alloc (o := L2.exd dx [(fld, v1)]) r1 n
  have r2 := r1.alloc (o := L2.exd dx [(fld, v1)]) n
  have na : upd H1 dx (L2.exd dx [(fld, v1)]) a = none := by rw [upd_ne (Ne.symm ne)]; exact ha
  have st2 := Step.alloc (o := L2.exo a (clsA (wm X) x) (some dx)) r2 na
  have r3 := r2.alloc (o := L2.exo a (clsA (wm X) x) (some dx)) na
  have eq : upd (upd (upd H1 a (L2.exo a (clsA (wm X) x) none)) dx (L2.exd dx [(fld, v1)])) a (L2.exo a (clsA (wm X) x) (some dx)) = upd (upd H1 dx (L2.exd dx [(fld, v1)])) a (L2.exo a (clsA (wm X) x) (some dx)) := funext fun b => by
    by_cases hb : b = a
    · rw [hb, upd_same, upd_same]
    · rw [upd_ne hb, upd_ne hb]
      by_cases hc : b = dx
      · rw [hc, upd_same, upd_same]
      · rw [upd_ne hc, upd_ne hc, upd_ne hb]
  rw [eq]
  exact k _ _ _ _ _ r3 (s1.trans (st1.trans st2)) (show At (wm X).toWd _ (.exv (clsA (wm X) x) [fld] [d1]) (.ref a) from ⟨a, dx, [v1], rfl, upd_same, by rw [upd_ne ne, upd_same]; rfl, rfl, v1, [], rfl, At.mono (st1.trans st2).ex _ _ a1, rfl⟩) q1
/-- e.fld of such an error -/
def tXv (K : PySem.W.Frag) (C : Addr) (n : Str) (te : TE) : TE := fun σ H Q => te σ H fun x H1 => ∃ (a dx : Addr) (fs : List (Str × V)) (v : V), x = .ref a ∧ H1 a = some (L2.exo a C (some dx)) ∧ H1 dx = some (L2.exd dx fs) ∧ fs.lookup n = some v ∧ Q v H1
theorem pe_xv {C : Addr} {e : Expr} {te : TE} {pos : Pos} {n : Str} (T : L2.XfC X.K C) (hno : PySem.W.findIn X.K (.ref C) n = some none) (he : PE X e te) (hb : attributeBase e n X.env (eval e X.env) = eval e X.env) : PE X (.Attribute e n pos) (tXv X.K C n te) := by
  refine ⟨fun pins s σ H Q I h => attr_of hb (thn (he.run pins s σ H _ I h) fun u s1 hh => ?_)⟩
  obtain ⟨x, H1, I1, rx, a, dx, fs, v, ex, ea, ed, l, q⟩ := hh
  subst ex
  obtain rfl : u = Value.ref a := rx
  obtain ⟨t1, ho⟩ := L2.exo_at I1.hok ea
  obtain ⟨mA, hns, rel⟩ := L2.exd_at I1.hok ed
  obtain ⟨od, hod, hl⟩ := lookIn_ns hns
  obtain ⟨u, hu, ru⟩ := RelO.some_of (v := v) (o := mA n) (by rw [← l]; exact rel n)
  have J : PySem.W.InstAt s1.heap a _ C (some od) := ⟨ho, rfl, rfl, hod⟩
  exact HandSPX.exc_get I1.kIn J T.ga T.gg T.exC (PySem.W.findObj_own T.hdC hno rfl (by rw [hl, hu])) (handed_of ru) ⟨v, H1, I1.tok _, ru, q⟩
def aXv (C : Addr) (n : Str) (ae : AE) : AE := fun Xp ρ μ Q => ae Xp ρ μ fun x μ' => ∃ ns ds, x = .exv C ns ds ∧ ∃ d, (ns.zip ds).lookup n = some d ∧ Q d μ'
@[simp] theorem u_xv {C : Addr} {n : Str} {ae : AE} {Xp : XP} {ρ : Sl} {μ : Mu} {Q : AQ} : aXv C n ae Xp ρ μ Q = ae Xp ρ μ fun x μ' => ∃ ns ds, x = .exv C ns ds ∧ ∃ d, (ns.zip ds).lookup n = some d ∧ Q d μ' := rfl
theorem de_xv {C : Addr} {n : Str} {e : Expr} {te : TE} {ae : AE} {pos : Pos} (T : L2.XfC X.K C) (hno : PySem.W.findIn X.K (.ref C) n = some none) (he : DE X WW e te ae) (hb : attributeBase e n X.env (eval e X.env) = eval e X.env := by rfl) :
    DE X WW (.Attribute e n pos) (tXv X.K C n te) (aXv C n ae) := by
  refine ⟨pe_xv T hno he.p hb, fun F μ ρ σ H Xp Q R rep sl kx q k => ?_⟩
  refine he.s F μ ρ σ H Xp _ _ rep sl kx q fun F1 μ1 H1 d1 v1 r1 s1 a1 ⟨ns, ds, e1, d, hd, q1⟩ => ?_
  subst e1
  obtain ⟨a, dx, vs, e2, ea, ed, hl, al⟩ := a1
  obtain ⟨y, hy, ay⟩ := lookup_at al hl hd
  exact ⟨a, dx, _, y, e2, r1.ex _ _ ea, r1.ex _ _ ed, hy, (k.step s1).here r1 ay q1⟩
end
end DL

namespace DL
open PySem PySem.Spec PyProof.Rows L2
/-! d.get(k, z); list(d) -/
def keyD : Key → Dat
  | .inl i => .int i
  | .inr x => .str x
@[simp] theorem keyD_i {i : Int} : keyD (.inl i) = .int i := rfl
@[simp] theorem keyD_s {x : Str} : keyD (.inr x) = .str x := rfl
section
variable {X : Cx} {WW : WX} {W : Wm}
theorem keyD_at {F : Hp} (k : Key) : At W.toWd F (keyD k) (kV k) := by cases k <;> exact rfl
theorem atL_keys {F : Hp} : ∀ ks : List Key, AtL W.toWd F (ks.map keyD) (ks.map kV)
  | [] => rfl
  | k :: ks => ⟨_, _, rfl, keyD_at k, atL_keys ks⟩
theorem atK_none {k : Key} : ∀ {ks : List Key} {ds : List Dat} {vs : List V}, ks.length = vs.length → ds.length = vs.length → atK ks ds k = none → valV (ks.zip vs) k = none
  | [], _, _, _, _, _ => rfl
  | _ :: _, [], [], hl, _, _ => by cases hl
  | a :: ks, e :: ds, v :: vs, hl, hd, h => by
    unfold atK at h
    unfold valV
    rw [List.zip_cons_cons, List.find?_cons] at h ⊢
    by_cases q : a = k
    · subst q
      simp at h
    · simp only [decide_eq_false q] at h ⊢
      exact atK_none (by simpa using hl) (by simpa using hd) h
def aDGet (ad ay az : AE) : AE := fun Xp ρ μ Q => ad Xp ρ μ fun x μ1 => (∃ ks ds, dicOf μ1 x = some (ks, ds)) ∧ ay Xp ρ μ1 fun y μ2 => az Xp ρ μ2 fun z μ3 => ∃ ks ds k, dicOf μ3 x = some (ks, ds) ∧ keyOf y = some k ∧ Q ((atK ks ds k).getD z) μ3
@[simp] theorem u_dget {ad ay az : AE} {Xp : XP} {ρ : Sl} {μ : Mu} {Q : AQ} : aDGet ad ay az Xp ρ μ Q = ad Xp ρ μ fun x μ1 => (∃ ks ds, dicOf μ1 x = some (ks, ds)) ∧ ay Xp ρ μ1 fun y μ2 => az Xp ρ μ2 fun z μ3 => ∃ ks ds k, dicOf μ3 x = some (ks, ds) ∧ keyOf y = some k ∧ Q ((atK ks ds k).getD z) μ3 := rfl
theorem de_dget2 {o e f : Expr} {td ty tx : TE} {ad ay az : AE} {apos cpos : Pos} (hu : X.A.units + 1 < cLine) (ho : DE X WW o td ad) (he : DE X WW e ty ay) (hf : DE X WW f tx az) (m : M2 X o "get" apos e f cpos) :
    DE X WW (.Call (.Attribute o "get" apos) [e, f] [] cpos) (tDGet2 td ty tx) (aDGet ad ay az) := by
  refine ⟨pe_dget2 hu ho.p he.p hf.p m, fun F μ ρ σ H Xp Q R rep sl kx q k => ?_⟩
  refine ho.s F μ ρ σ H Xp _ _ rep sl kx q fun F1 μ1 H1 d1 v1 r1 s1 a1 ⟨⟨ks, ds, hd⟩, q1⟩ => ?_
  obtain ⟨p, vs, e1, hp, hl, al⟩ := dic_at r1 a1 hd
  refine ⟨p, e1, .inl ⟨_, .inl hp⟩, ?_⟩
  refine he.s F1 μ1 ρ σ H1 Xp _ _ r1 (sl.mono s1.ex) (kx.step s1) q1 fun F2 μ2 H2 d2 v2 r2 s2 a2 q2 => ?_
  refine hf.s F2 μ2 ρ σ H2 Xp _ _ r2 ((sl.mono s1.ex).mono s2.ex) ((kx.step s1).step s2) q2 fun F3 μ3 H3 d3 v3 r3 s3 a3 ⟨ks3, ds3, ky, h1, h2, q3⟩ => ?_
  have a13 := At.mono (s2.trans s3).ex _ _ a1
  obtain ⟨p', vs', e2, hp', hl', al'⟩ := dic_at r3 a13 h1
  have ep : p = p' := by
    rw [e1] at e2
    exact V.ref.inj e2
  subst ep
  have ey := key_at (At.mono s3.ex _ _ a2) h2
  subst ey
  refine ⟨_, DGet.k hp', ?_⟩
  cases hv : atK ks3 ds3 ky with
  | none =>
    rw [atK_none hl' (al'.length.trans rfl) hv]
    rw [hv] at q3
    exact k _ _ _ _ _ r3 (s1.trans (s2.trans s3)) a3 q3
  | some d =>
    obtain ⟨v, h3, h4⟩ := atK_val hl' al' d hv
    rw [h3]
    rw [hv] at q3
    exact k _ _ _ _ _ r3 (s1.trans (s2.trans s3)) h4 q3
def fListD : AN := fun ds μ Q => ∃ x ks es, ds = [x] ∧ dicOf μ x = some (ks, es) ∧ Q (.lst (ks.map keyD)) μ
def rLD : List V → Hp → VK → Prop := fun xs H Q => ∃ (a : Addr) (kvs : List (Key × V)), xs = [.ref a] ∧ Rd H a (.dK kvs) ∧ ∀ p, H p = none → Q (.ref p) (upd H p (.lst (kvs.map fun kv => kV kv.1)))
theorem map_zip_fst {κ β : Type} {f : κ → V} : ∀ {ks : List κ} {vs : List β}, ks.length = vs.length → (ks.zip vs).map (fun kv => f kv.1) = ks.map f
  | [], [], _ => rfl
  | k :: ks, v :: vs, h => by rw [List.zip_cons_cons, List.map_cons, List.map_cons, map_zip_fst (by simpa using h)]
theorem sim_listD : SimRN W rLD fListD := by
  intro F μ H xs ds Q R rep al ⟨x, ks, es, e, hd, q⟩ k
  subst e
  obtain ⟨v, r, rfl, av, ar⟩ := al
  cases (show r = [] from ar)
  obtain ⟨p, vs, rfl, hp, hl, al⟩ := dic_at rep av hd
  refine ⟨p, _, rfl, .inl hp, fun p' hn => ?_⟩
  rw [map_zip_fst hl]
  exact k _ _ _ _ _ (rep.alloc hn) (Step.alloc rep hn) (show At W.toWd _ (.lst _) (.ref p') from ⟨p', _, rfl, upd_same, atL_keys ks⟩) q
theorem de_listD (c : Ctx X WW) {e : Expr} {es : List Expr} {t : TA} {aa : AA} {p pos : Pos} (hm : X.mg "list" = none) (ha : DA X WW (e :: es) t aa) (hg : Gl X "list" := by rfl) (he : starEach (e :: es) X.env = (false, eval e X.env) :: starEach es X.env := by rfl) (hpl : (backTo pos (starEach es X.env)).any (·.1) = false := by rfl) :
    DE X WW (.Call (.Name "list" p) (e :: es) [] pos) (tCB rLD t) (aCB fListD aa) := de_callTy (call_listD c.hc) sim_listD hg hm bt_list ha (by decide) (by decide) he hpl
@[simp] theorem u_listD {ds : List Dat} {μ : Mu} {Q : AQ} : fListD ds μ Q ↔ ∃ x ks es, ds = [x] ∧ dicOf μ x = some (ks, es) ∧ Q (.lst (ks.map keyD)) μ := Iff.rfl
end
end DL

namespace DL
open PySem PySem.Spec PyProof.Rows L2
/-! range(i, j, c), upwards -/
def stp (i j c : Int) : Nat := if i < j then ((j - i - 1) / c + 1).toNat else 0
theorem rgC_up {i j c : Int} (hc : 0 < c) (hc2 : c < 1000000) (hi : -1000000000000 ≤ i) (hi2 : i ≤ 1000000000000) (hj : -1000000000000 ≤ j) (hj2 : j ≤ 1000000000000) : L2.RgC i j c (stp i j c) := by
  have hr : Builtin.Range.rangeSize i j c = (stp i j c : Int) := by
    unfold Builtin.Range.rangeSize stp
    rw [if_pos hc]
    split
    · have := Int.ediv_nonneg (show 0 ≤ j - i - 1 by omega) (show 0 ≤ c by omega)
      omega
    · rfl
  have hs : (stp i j c : Int) ≤ 2000000000001 := by
    rw [← hr]
    unfold Builtin.Range.rangeSize
    rw [if_pos hc]
    split
    · have h0 : (j - i - 1) / c ≤ j - i - 1 := Int.ediv_le_self _ (by omega)
      omega
    · decide
  refine ⟨by omega, by omega, ?_, hr⟩
  unfold Builtin.Range.small
  rw [hr]
  simp only [Builtin.Range.rangeFitsLong, Bool.and_eq_true, Bool.or_eq_true, decide_eq_true_eq, beq_iff_eq, if_pos hc]
  have := Int.natCast_nonneg (stp i j c)
  refine ⟨⟨⟨⟨?_, ?_⟩, ?_⟩, ?_⟩, .inr ?_⟩ <;> first | omega | (constructor <;> omega)
theorem stp_lt {j c : Int} {k : Nat} (hc : 0 < c) (hk : k < stp 0 j c) : (k : Int) * c < j := by
  unfold stp at hk
  split at hk
  · rename_i h
    have h1 : (k : Int) ≤ (j - 0 - 1) / c := by
      have := Int.ediv_nonneg (show 0 ≤ j - 0 - 1 by omega) (show 0 ≤ c by omega)
      omega
    have h2 := (Int.le_ediv_iff_mul_le hc).mp h1
    omega
  · omega
def rngC (lo c : Int) (n : Nat) : List Dat := (List.range n).map fun (i : Nat) => .int (lo + (i : Int) * c)
section
variable {X : Cx} {WW : WX} {W : Wm}
theorem itc_sim {F0 : Hp} {lo c : Int} {n : Nat} : ItSim W F0 (L2.Itc lo c n) ⟨rngC lo c n, fun _ => True⟩ := by
  intro F μ H ex rep _ i
  refine ⟨fun d e => ?_, fun e => ?_⟩
  · simp only [rngC, List.getElem?_map] at e
    by_cases hi : i < n
    · rw [List.getElem?_range hi] at e
      cases e
      exact ⟨hi, fun x H' ⟨e1, e2⟩ => by subst e1 e2; exact ⟨F, rep, Step.refl _ _ _, rfl⟩⟩
    · rw [List.getElem?_eq_none (by simpa using hi)] at e
      cases e
  · have := List.getElem?_eq_none_iff.mp e
    simp only [rngC, List.length_map, List.length_range] at this
    exact this
def iRg3 (t : AA) : AI := fun Xp ρ μ Q => t Xp ρ μ fun ds μ1 => ∃ i j c : Int, ds = [.int i, .int j, .int c] ∧ (0 < c ∧ c < 1000000 ∧ -1000000000000 ≤ i ∧ i ≤ 1000000000000 ∧ -1000000000000 ≤ j ∧ j ≤ 1000000000000) ∧ Q ⟨rngC i c (stp i j c), fun _ => True⟩ μ1
@[simp] theorem u_rg3 {t : AA} {Xp : XP} {ρ : Sl} {μ : Mu} {Q : AIt → Mu → Prop} : iRg3 t Xp ρ μ Q = t Xp ρ μ fun ds μ1 => ∃ i j c : Int, ds = [.int i, .int j, .int c] ∧ (0 < c ∧ c < 1000000 ∧ -1000000000000 ≤ i ∧ i ≤ 1000000000000 ∧ -1000000000000 ≤ j ∧ j ≤ 1000000000000) ∧ Q ⟨rngC i c (stp i j c), fun _ => True⟩ μ1 := rfl
theorem sim_rg3 {ta : TA} {t : AA} (h : SimA W WW ta t) : SimI W WW (iRng3 ta) (iRg3 t) := by
  intro F μ ρ σ H Xp Q R rep sl kx q k
  refine h F μ ρ σ H Xp _ _ rep sl kx q fun F1 μ1 H1 ds vs r1 s1 a1 ⟨i, j, c, e, ⟨b1, b2, b3, b4, b5, b6⟩, h1⟩ => ?_
  subst e
  obtain ⟨v, r, rfl, av, ar⟩ := a1
  obtain ⟨u, w, rfl, au, aw⟩ := two_at ar
  cases (show v = .int i from av)
  cases (show u = .int j from au)
  cases (show w = .int c from aw)
  exact ⟨i, j, c, _, rfl, rgC_up b1 b2 b3 b4 b5 b6, k _ _ _ _ _ r1 s1 itc_sim h1⟩
theorem di_rg3 {tg a b c : Expr} {ta : TA} {t : AA} {p pos : Pos} (hm : X.mg "range" = none) (ha : DA X WW [a, b, c] ta t) (hg : Gl X "range" := by rfl)
    (hs : starEach [a, b, c] X.env = (false, eval a X.env) :: starEach [b, c] X.env := by rfl) (hpl : (backTo pos (starEach [b, c] X.env)).any (·.1) = false := by rfl) :
    DI X WW tg (.Call (.Name "range" p) [a, b, c] [] pos) (iRng3 ta) (iRg3 t) := ⟨pi_range3 hg hm ha.p hs hpl, sim_rg3 ha.s⟩
end
end DL

namespace DL
open PySem PySem.Spec PyProof.Rows L2
/-! d[k] = e of a changing dict -/
instance decMemKey (k : Key) (ks : List Key) : Decidable (k ∈ ks) := decidable_of_iff ((ks.any fun q => decide (q = k)) = true) (by simp)
def putKs (ks : List Key) (k : Key) : List Key := if k ∈ ks then ks else ks ++ [k]
def putDs {β : Type} (ks : List Key) (ds : List β) (k : Key) (d : β) : List β := if k ∈ ks then (ks.zip ds).map fun kv => if kv.1 = k then d else kv.2 else ds ++ [d]
theorem putDs_len {β : Type} {ks : List Key} {ds : List β} {k : Key} {d : β} (h : ks.length = ds.length) : (putKs ks k).length = (putDs ks ds k d).length := by
  unfold putKs putDs
  split <;> simp [h]
theorem zip_map_snd {α β : Type} {f : α × β → β} : ∀ {ks : List α} {ds : List β}, ks.length = ds.length → ks.zip ((ks.zip ds).map f) = (ks.zip ds).map fun kv => (kv.1, f kv)
  | [], _, _ => rfl
  | k :: ks, [], h => by cases h
  | k :: ks, d :: ds, h => by
    rw [List.zip_cons_cons, List.map_cons, List.zip_cons_cons, zip_map_snd (by simpa using h), List.map_cons]
theorem any_key {β : Type} {k : Key} : ∀ {ks : List Key} {ds : List β}, ks.length = ds.length → ((ks.zip ds).any fun kv => decide (kv.1 = k)) = decide (k ∈ ks)
  | [], _, _ => rfl
  | a :: ks, [], h => by cases h
  | a :: ks, d :: ds, h => by
    rw [List.zip_cons_cons, List.any_cons, any_key (by simpa using h)]
    by_cases q : a = k
    · subst q
      simp
    · have : ¬ k = a := fun z => q z.symm
      simp [q, this]
theorem put_zip {ks : List Key} {vs : List V} {k : Key} {v : V} (h : ks.length = vs.length) : putK (ks.zip vs) k v = (putKs ks k).zip (putDs ks vs k v) := by
  unfold putK putKs putDs
  rw [any_key h]
  by_cases q : k ∈ ks
  · simp only [q, decide_true, if_true]
    rw [zip_map_snd h]
    refine List.map_congr_left fun kv _ => ?_
    split <;> rfl
  · simp only [q, decide_false, Bool.false_eq_true, if_false]
    rw [List.zip_append h]
    rfl
theorem atL_put {W : Wd} {F : Hp} {k : Key} {d : Dat} {v : V} (hd : At W F d v) : ∀ {ks : List Key} {ds : List Dat} {vs : List V}, AtL W F ds vs → AtL W F ((ks.zip ds).map fun kv => if kv.1 = k then d else kv.2) ((ks.zip vs).map fun kv => if kv.1 = k then v else kv.2)
  | [], _, _, _ => by simp; rfl
  | a :: ks, [], _, e => by
    cases (show _ = [] from e)
    simp
    rfl
  | a :: ks, e :: ds, _, ⟨u, r, rfl, x, y⟩ => by
    rw [List.zip_cons_cons, List.zip_cons_cons, List.map_cons, List.map_cons]
    refine ⟨_, _, rfl, ?_, atL_put hd y⟩
    dsimp only
    split
    · exact hd
    · exact x
theorem atK_put {ks : List Key} {ds : List Dat} {k k' : Key} {d : Dat} (h : ks.length = ds.length) : atK (putKs ks k) (putDs ks ds k d) k' = if k' = k then some d else atK ks ds k' := by
  unfold putKs putDs
  by_cases q : k ∈ ks
  · rw [if_pos q, if_pos q]
    unfold atK
    rw [zip_map_snd h]
    have key : ∀ {ks : List Key} {ds : List Dat}, ks.length = ds.length → k ∈ ks → ((((ks.zip ds).map fun kv => (kv.1, if kv.1 = k then d else kv.2)).find? fun kv => decide (kv.1 = k')).map (·.2)) = if k' = k then some d else ((ks.zip ds).find? fun kv => decide (kv.1 = k')).map (·.2) := by
      intro ks
      induction ks with
      | nil =>
        intro ds _ z
        cases z
      | cons a ks ih =>
        intro ds hl hm
        cases ds with
        | nil => cases hl
        | cons e ds =>
          rw [List.zip_cons_cons, List.map_cons, List.find?_cons, List.find?_cons]
          by_cases ha : a = k'
          · subst ha
            by_cases hk : a = k
            · subst hk
              simp
            · simp [hk]
          · have ha' : decide (a = k') = false := decide_eq_false ha
            simp only [ha']
            by_cases hm2 : k ∈ ks
            · exact ih (by simpa using hl) hm2
            · have hak : k = a := by
                rcases List.mem_cons.mp hm with z | z
                · exact z
                · exact absurd z hm2
              subst hak
              have hne : ¬ k' = k := fun z => ha z.symm
              rw [if_neg hne]
              have : (ks.zip ds).map (fun kv => (kv.1, if kv.1 = k then d else kv.2)) = ks.zip ds := by
                have : ∀ kv ∈ ks.zip ds, (kv.1, if kv.1 = k then d else kv.2) = kv := fun kv hkv => by
                  have : kv.1 ∈ ks := (List.of_mem_zip hkv).1
                  have : ¬ kv.1 = k := fun z => hm2 (z ▸ this)
                  rw [if_neg this]
                exact (List.map_congr_left this).trans (List.map_id _)
              rw [this]
    exact key h q
  · rw [if_neg q, if_neg q]
    unfold atK
    rw [List.zip_append h, List.find?_append]
    by_cases e : k' = k
    · subst e
      have : (ks.zip ds).find? (fun kv => decide (kv.1 = k')) = none := List.find?_eq_none.mpr fun kv hkv => by
        have z := (List.of_mem_zip hkv).1
        simp only [decide_eq_true_eq]
        exact fun y => q (y ▸ z)
      rw [this]
      simp
    · have : ¬ k = k' := fun z => e z.symm
      simp [e, this]
section
variable {X : Cx} {WW : WX} {W : Wm}
def gIxD (ao ai : AE) : AG := fun Xp d ρ μ Q => ao Xp ρ μ fun x μ1 => ai Xp ρ μ1 fun y μ2 => ∃ p ks ds k, x = .cell p ∧ keyOf y = some k ∧ μ2 p = some (.dK ks ds) ∧ ks.length < 16777216 ∧ Q ρ (mset μ2 p (.dK (putKs ks k) (putDs ks ds k d)))
@[simp] theorem u_gixD {ao ai : AE} {Xp : XP} {d : Dat} {ρ : Sl} {μ : Mu} {R : Sl → Mu → Prop} : gIxD ao ai Xp d ρ μ R = ao Xp ρ μ fun x μ1 => ai Xp ρ μ1 fun y μ2 => ∃ p ks ds k, x = .cell p ∧ keyOf y = some k ∧ μ2 p = some (.dK ks ds) ∧ ks.length < 16777216 ∧ R ρ (mset μ2 p (.dK (putKs ks k) (putDs ks ds k d))) := rfl
theorem dg_ixD {o i : Expr} {to ti : TE} {ao ai : AE} {pos : Pos} (hu : X.A.units + 1 < cLine) (ho : DE X WW o to ao) (hi : DE X WW i ti ai)
    (ha : ∀ v, assign (.Subscript o i pos) X.env v = (do
      let ov ← holding [v] (eval o X.env)
      let iv ← holding [v, ov] (eval i X.env)
      standAt pos
      holding [v, ov, iv] (setItem ov iv v)
      release [v, ov, iv] []) := by intro _; rfl) : DG X WW (.Subscript o i pos) (gSub to ti rSetD) (gIxD ao ai) := by
  refine ⟨pg_sub ho.p hi.p (set_dict hu) ha, fun F μ ρ σ H Xp d v Q R rep sl kx a q k => ?_⟩
  refine ho.s F μ ρ σ H Xp _ _ rep sl kx q fun F1 μ1 H1 x vx r1 s1 a1 q1 => ?_
  refine hi.s F1 μ1 ρ σ H1 Xp _ _ r1 (sl.mono s1.ex) (kx.step s1) q1 fun F2 μ2 H2 y vy r2 s2 a2 ⟨p, ks, ds, ky, e1, e2, h3, h4, q2⟩ => ?_
  subst e1
  cases (show vx = .ref p from a1)
  obtain rfl := key_at a2 e2
  obtain ⟨hF, vs, hp, hl, al⟩ := r2.cel p _ h3
  have s12 := s1.trans s2
  refine ⟨p, _, rfl, DPut.k hp (by rw [List.length_zip, ← hl, Nat.min_self, sizeLine_eq]; omega), ?_⟩
  rw [put_zip hl]
  have hd := At.mono s12.ex _ _ a
  refine k _ _ _ _ _ (r2.write (c' := .dK (putKs ks ky) (putDs ks ds ky d)) h3 ⟨_, rfl, putDs_len hl, ?_⟩) (s12.trans (Step.write h3)) (sl.mono s12.ex) q2
  unfold putDs
  split
  · exact atL_put hd al
  · exact al.append ⟨v, [], rfl, hd, rfl⟩
end
end DL

namespace TL
open PySem DL L2
inductive Trm where
  | nm (x : Str) | bd (x : Str) (b : Trm) | ap (l r : Trm)
  deriving DecidableEq
namespace Trm
def dat : Trm → Dat
  | nm x => .tup [.str "name", .str x]
  | bd x b => .tup [.str "bind", .str x, b.dat]
  | ap l r => .tup [.str "apply", l.dat, r.dat]
def subs : Trm → List Trm
  | nm _ => []
  | bd _ b => [b]
  | ap l r => [l, r]
def parts : Trm → List Trm
  | nm x => [nm x]
  | bd x b => bd x b :: b.parts
  | ap l r => ap l r :: (l.parts ++ r.parts)
def nodes : Trm → Nat
  | nm _ => 0
  | bd _ b => b.nodes + 1
  | ap l r => l.nodes + r.nodes + 1
def depth : Trm → Nat
  | nm _ => 0
  | bd _ b => b.depth + 1
  | ap l r => max l.depth r.depth + 1
def uses : Trm → List Str
  | nm x => [x]
  | bd _ b => b.uses
  | ap l r => l.uses ++ r.uses
def binds : Trm → List Str
  | nm _ => []
  | bd x b => x :: b.binds
  | ap l r => l.binds ++ r.binds
def isName : Trm → Bool
  | nm _ => true
  | _ => false
def isBind : Trm → Bool
  | bd _ _ => true
  | _ => false
def isApply : Trm → Bool
  | ap _ _ => true
  | _ => false
def free (t : Trm) : List Str := t.uses.filter fun x => decide (x ∉ t.binds)
def put : Trm → Str → Trm → Trm
  | nm x, n, o => if x = n then o else nm x
  | bd x b, n, o => bd x (b.put n o)
  | ap l r, n, o => ap (l.put n o) (r.put n o)
def isStep : Trm → Bool
  | ap (bd _ _) _ => true
  | _ => false
/-- the name of a use or a bind -/
def head : Trm → Str
  | nm x => x
  | bd x _ => x
  | ap _ _ => Str.empty
theorem binds_parts (t : Trm) : (t.parts.filter fun t => t.isBind).map head = t.binds := by
  induction t with
  | nm x => rfl
  | bd x b ih =>
    rw [parts, List.filter_cons, if_pos (by rfl), List.map_cons, ih]
    rfl
  | ap l r h1 h2 =>
    rw [parts, List.filter_cons, if_neg (by intro h; cases h), List.filter_append, List.map_append, h1, h2]
    rfl
theorem uses_parts (t : Trm) : (t.parts.filter fun t => t.isName).map head = t.uses := by
  induction t with
  | nm x => rfl
  | bd x b ih =>
    rw [parts, List.filter_cons, if_neg (by intro h; cases h), ih]
    rfl
  | ap l r h1 h2 =>
    rw [parts, List.filter_cons, if_neg (by intro h; cases h), List.filter_append, List.map_append, h1, h2]
    rfl
theorem free_parts (t : Trm) : ((t.parts.filter fun s => s.isName && decide (s.head ∉ t.binds)).map fun s => Dat.str s.head) = t.free.map .str := by
  have h : t.free = (t.parts.filter fun s => s.isName && decide (s.head ∉ t.binds)).map head := by
    unfold free
    rw [← t.uses_parts, List.filter_map, List.filter_filter]
    congr 1
    refine List.filter_congr fun s _ => ?_
    rw [Bool.and_comm]
    rfl
  rw [h, List.map_map]
  rfl
/-- the parts that are nodes, in reading order; the numbers of those at which a step can be done -/
def nodesL (t : Trm) : List Trm := t.parts.filter fun p => !p.isName
def ready (t : Trm) : List Nat := (List.range t.nodes).filter fun k => (t.nodesL[k]?).any isStep
theorem nodesL_len (t : Trm) : t.nodesL.length = t.nodes := by
  unfold nodesL
  induction t with
  | nm x => rfl
  | bd x b ih =>
    rw [parts, List.filter_cons, if_pos (by rfl), List.length_cons, ih]
    rfl
  | ap l r h1 h2 =>
    rw [parts, List.filter_cons, if_pos (by rfl), List.length_cons, List.filter_append, List.length_append, h1, h2]
    rfl
theorem depth_le (t : Trm) : t.depth ≤ t.nodes := by
  induction t with
  | nm x => exact Nat.le_refl _
  | bd x b ih => simp only [depth, nodes]; omega
  | ap l r h1 h2 => simp only [depth, nodes]; omega
theorem parts_len (t : Trm) : t.parts.length ≤ 2 * t.nodes + 1 := by
  induction t with
  | nm x => simp [parts, nodes]
  | bd x b ih => simp only [parts, nodes, List.length_cons]; omega
  | ap l r h1 h2 => simp only [parts, nodes, List.length_cons, List.length_append]; omega
theorem parts_pos (t : Trm) : 0 < t.parts.length := by
  cases t <;> simp [parts]
theorem subs_len (t : Trm) : t.subs.length ≤ 2 := by
  cases t <;> simp [subs]
theorem parts_subs (t : Trm) : t.parts = t :: (t.subs.flatMap parts) := by
  cases t <;> simp [parts, subs]
theorem nodesL_bd (x : Str) (b : Trm) : (bd x b).nodesL = bd x b :: b.nodesL := by
  unfold nodesL
  rw [parts, List.filter_cons, if_pos (by rfl)]
theorem nodesL_ap (l r : Trm) : (ap l r).nodesL = ap l r :: (l.nodesL ++ r.nodesL) := by
  unfold nodesL
  rw [parts, List.filter_cons, if_pos (by rfl), List.filter_append]
theorem nodesL_nm (x : Str) : (nm x).nodesL = [] := rfl
/-- each bind's name is free in its body -/
def wsc : Trm → Prop
  | nm _ => True
  | bd x b => x ∈ b.free ∧ b.wsc
  | ap l r => l.wsc ∧ r.wsc
/-- the step at node k -/
def stepT : Trm → Nat → Option Trm
  | ap (bd x b) r, 0 => some (b.put x r)
  | bd x b, n + 1 => (stepT b n).map (bd x)
  | ap l r, n + 1 => if n + 1 ≤ l.nodes then (stepT l n).map (ap · r) else (stepT r (n - l.nodes)).map (ap l)
  | _, _ => none
theorem stepT_ready : ∀ (t : Trm) (k : Nat), (t.nodesL[k]?).any isStep = true → ∃ t', t.stepT k = some t'
  | nm x, k, h => by rw [nodesL_nm] at h; simp at h
  | bd x b, 0, h => by rw [nodesL_bd] at h; simp [isStep] at h
  | bd x b, k + 1, h => by
    rw [nodesL_bd, List.getElem?_cons_succ] at h
    obtain ⟨t', e⟩ := stepT_ready b k h
    exact ⟨bd x t', by rw [stepT, e]; rfl⟩
  | ap l r, 0, h => by
    rw [nodesL_ap] at h
    cases l <;> simp [isStep] at h
    exact ⟨_, rfl⟩
  | ap l r, k + 1, h => by
    rw [nodesL_ap, List.getElem?_cons_succ] at h
    have e0 : (ap l r).stepT (k + 1) = if k + 1 ≤ l.nodes then (stepT l k).map (ap · r) else (stepT r (k - l.nodes)).map (ap l) := by
      cases l <;> rfl
    rw [e0]
    by_cases hk : k + 1 ≤ l.nodes
    · rw [if_pos hk]
      rw [List.getElem?_append_left (by rw [nodesL_len]; omega)] at h
      obtain ⟨t', e⟩ := stepT_ready l k h
      exact ⟨ap t' r, by rw [e]; rfl⟩
    · rw [if_neg hk]
      rw [List.getElem?_append_right (by rw [nodesL_len]; omega), nodesL_len] at h
      obtain ⟨t', e⟩ := stepT_ready r (k - l.nodes) h
      exact ⟨ap l t', by rw [e]; rfl⟩
theorem stepT_ap {l r : Trm} {k : Nat} : (ap l r).stepT (k + 1) = if k + 1 ≤ l.nodes then (stepT l k).map (ap · r) else (stepT r (k - l.nodes)).map (ap l) := by
  cases l <;> rfl
end Trm
theorem zip_range {α : Type} (p : α → Bool) : ∀ (l : List α) (i : Nat), ((l.zipIdx i).filter fun q => p q.1).map (·.2) = (((List.range l.length).filter fun k => (l[k]?).any p).map (· + i))
  | [], i => rfl
  | x :: l, i => by
    rw [List.zipIdx_cons, List.length_cons, List.range_succ_eq_map, List.filter_cons, List.filter_cons, List.filter_map]
    have ih := zip_range p l (i + 1)
    have e : ((List.range l.length).filter ((fun k => ((x :: l)[k]?).any p) ∘ Nat.succ)) = (List.range l.length).filter fun k => (l[k]?).any p := List.filter_congr fun k _ => by simp
    rw [e]
    cases q : p x with
    | true =>
      rw [if_pos (by simpa using q), if_pos (by simpa using q), List.map_cons, List.map_cons, ih, List.map_map]
      simp
      exact fun a _ _ => by omega
    | false =>
      rw [if_neg (by simpa using q), if_neg (by simpa using q), ih, List.map_map]
      refine List.map_congr_left fun a _ => ?_
      show a + (i + 1) = Nat.succ a + i
      omega
theorem ready_zip (t : Trm) : (t.nodesL.zipIdx.filter fun q => q.1.isStep).map (fun q => Dat.int (q.2 : Int)) = t.ready.map fun (k : Nat) => Dat.int (k : Int) := by
  have h := zip_range Trm.isStep t.nodesL 0
  unfold Trm.ready
  rw [← t.nodesL_len]
  have h2 := congrArg (List.map fun (k : Nat) => Dat.int (k : Int)) h
  rw [List.map_map, List.map_map] at h2
  exact h2
theorem len_le_parts : ∀ (r : List Trm), r.length ≤ (r.flatMap Trm.parts).length
  | [] => Nat.le_refl _
  | t :: r => by
    have := t.parts_pos
    have := len_le_parts r
    rw [List.flatMap_cons, List.length_append, List.length_cons]
    omega
/-! generated terms -/
/-- the names of a style -/
def nameOf (s k : Nat) : Str := if s = 3 then "zz" ++ Str.ofString (toString (70 - k : Int)) else (match s with | 0 => "n" | 1 => "v" | 2 => "q7" | 3 => "zz" | _ => "long") ++ Str.ofString (toString (k : Int))
def ent (e : Trm × List Str) : Dat := .tup [e.1.dat, .lst (e.2.map .str)]
def JoinR (k : Bool) (a b c : Trm × List Str) : Prop := c = (.ap a.1 b.1, a.2 ++ b.2) ∨ k = true ∧ ∃ x ∈ a.2, c = (.ap (.bd x a.1) b.1, (a.2.filter fun y => y ≠ x) ++ b.2)
theorem repr_len : ∀ k < 71, (Str.ofString (toString ((k : Nat) : Int))).length ≤ 5 := by decide +kernel
theorem repr_len' : ∀ k < 71, (Str.ofString (toString (70 - (k : Nat) : Int))).length ≤ 5 := by decide +kernel
theorem nameOf_ok : ∀ s < 5, ∀ k < 71, PyData.strOk (nameOf s k) = true := by decide +kernel
theorem nameOf_inj : ∀ s < 5, ∀ i < 71, ∀ j < 71, nameOf s i = nameOf s j → i = j := by decide +kernel
theorem log2_small (k : Nat) (h : k ≤ 1000) : k.log2 < 1920 := by
  have := Nat.log2_le_self k
  omega
/-! the stack of the generator -/
def Good (e : Trm × List Str) : Prop := e.1.wsc ∧ (∀ x ∈ e.1.binds, x ∈ e.1.uses) ∧ ∀ x ∈ e.2, x ∈ e.1.uses ∧ x ∉ e.1.binds
abbrev usesL (L : List (Trm × List Str)) : List Str := L.flatMap fun e => e.1.uses
structure StkOk (s used : Nat) (L : List (Trm × List Str)) : Prop where
  each : ∀ e ∈ L, Good e
  nd : (usesL L).Nodup
  nm : ∀ x ∈ usesL L, ∃ j < used, x = nameOf s j
  len : (L.map fun e => e.2.length).sum ≤ used
def phi (L : List (Trm × List Str)) : Nat := (L.map fun e => e.1.nodes + 1).sum
theorem mem_free {t : Trm} {x : Str} (h1 : x ∈ t.uses) (h2 : x ∉ t.binds) : x ∈ t.free := List.mem_filter.mpr ⟨h1, decide_eq_true h2⟩
theorem good_bind {t : Trm} {fr : List Str} {x : Str} (h : Good (t, fr)) (hx : x ∈ fr) : Good (.bd x t, fr.filter fun y => y ≠ x) := by
  obtain ⟨h1, h2, h3⟩ := h
  have hx' := h3 x hx
  refine ⟨⟨mem_free hx'.1 hx'.2, h1⟩, fun y hy => ?_, fun y hy => ?_⟩
  · rcases List.mem_cons.mp hy with rfl | hy
    · exact hx'.1
    · exact h2 y hy
  · obtain ⟨ha, hb⟩ := List.mem_filter.mp hy
    have hy' := h3 y ha
    refine ⟨hy'.1, fun z => ?_⟩
    rcases List.mem_cons.mp z with z | z
    · exact of_decide_eq_true hb z
    · exact hy'.2 z
theorem good_join {t u : Trm} {f g : List Str} (h : Good (t, f)) (k : Good (u, g)) (d : ∀ x ∈ t.uses, x ∉ u.uses) : Good (.ap t u, f ++ g) := by
  obtain ⟨h1, h2, h3⟩ := h
  obtain ⟨k1, k2, k3⟩ := k
  refine ⟨⟨h1, k1⟩, fun y hy => ?_, fun y hy => ?_⟩
  · rcases List.mem_append.mp hy with hy | hy
    · exact List.mem_append_left _ (h2 y hy)
    · exact List.mem_append_right _ (k2 y hy)
  · rcases List.mem_append.mp hy with hy | hy
    · have a := h3 y hy
      refine ⟨List.mem_append_left _ a.1, fun z => ?_⟩
      rcases List.mem_append.mp z with z | z
      · exact a.2 z
      · exact d y a.1 (k2 y z)
    · have a := k3 y hy
      refine ⟨List.mem_append_right _ a.1, fun z => ?_⟩
      rcases List.mem_append.mp z with z | z
      · exact d y (h2 y z) a.1
      · exact a.2 z
theorem good_nm (x : Str) : Good (.nm x, [x]) := ⟨trivial, fun y hy => (nomatch hy), fun y hy => ⟨hy, fun z => (nomatch z)⟩⟩
theorem StkOk.nil (s : Nat) : StkOk s 0 [] := ⟨fun _ h => (nomatch h), List.nodup_nil, fun _ h => (nomatch h), Nat.le_refl _⟩
theorem StkOk.fresh {s u : Nat} {L : List (Trm × List Str)} (h : StkOk s u L) (hs : s < 5) (hu : u ≤ 70) : nameOf s u ∉ usesL L := fun z => by
  obtain ⟨j, hj, e⟩ := h.nm _ z
  have := nameOf_inj s hs u (by omega) j (by omega) e
  omega
theorem StkOk.last {s u : Nat} {L : List (Trm × List Str)} {e : Trm × List Str} {c : Trm × List Str} (h : StkOk s u (L ++ [e])) (hc : Good c) (eu : c.1.uses = e.1.uses) (el : c.2.length ≤ e.2.length) : StkOk s u (L ++ [c]) := by
  have eq : usesL (L ++ [c]) = usesL (L ++ [e]) := by simp [usesL, eu]
  refine ⟨fun x hx => ?_, by rw [eq]; exact h.nd, by rw [eq]; exact h.nm, ?_⟩
  · rcases List.mem_append.mp hx with hx | hx
    · exact h.each x (List.mem_append_left _ hx)
    · rw [List.mem_singleton.mp hx]
      exact hc
  · have := h.len
    simp at this ⊢
    omega
theorem StkOk.bind {s u : Nat} {L : List (Trm × List Str)} {t : Trm} {fr : List Str} {x : Str} (h : StkOk s u (L ++ [(t, fr)])) (hx : x ∈ fr) : StkOk s u (L ++ [(.bd x t, fr.filter fun y => y ≠ x)]) :=
  h.last (good_bind (h.each _ (List.mem_append_right _ List.mem_cons_self)) hx) rfl (List.length_filter_le _ _)
theorem StkOk.push {s u : Nat} {L : List (Trm × List Str)} (h : StkOk s u L) (hs : s < 5) (hu : u ≤ 70) : StkOk s (u + 1) (L ++ [(.nm (nameOf s u), [nameOf s u])]) := by
  have fr := h.fresh hs hu
  have eq : usesL (L ++ [(Trm.nm (nameOf s u), [nameOf s u])]) = usesL L ++ [nameOf s u] := by simp [usesL, Trm.uses]
  refine ⟨fun x hx => ?_, ?_, ?_, ?_⟩
  · rcases List.mem_append.mp hx with hx | hx
    · exact h.each x hx
    · rw [List.mem_singleton.mp hx]
      exact good_nm _
  · rw [eq, List.nodup_append]
    refine ⟨h.nd, by simp, fun a ha b hb z => ?_⟩
    rw [List.mem_singleton.mp hb] at z
    exact fr (z ▸ ha)
  · rw [eq]
    intro x hx
    rcases List.mem_append.mp hx with hx | hx
    · obtain ⟨j, hj, e⟩ := h.nm x hx
      exact ⟨j, by omega, e⟩
    · exact ⟨u, by omega, List.mem_singleton.mp hx⟩
  · have := h.len
    simp at this ⊢
    omega
theorem StkOk.pre {s u : Nat} {L : List (Trm × List Str)} {t : Trm} {fr : List Str} (h : StkOk s u (L ++ [(t, fr)])) (hs : s < 5) (hu : u ≤ 70) : StkOk s (u + 1) (L ++ [(.ap (.nm (nameOf s u)) t, nameOf s u :: fr)]) := by
  have frs := h.fresh hs hu
  have e0 : usesL (L ++ [(t, fr)]) = usesL L ++ t.uses := by simp [usesL]
  have eq : usesL (L ++ [(Trm.ap (.nm (nameOf s u)) t, nameOf s u :: fr)]) = usesL L ++ (nameOf s u :: t.uses) := by simp [usesL, Trm.uses]
  rw [e0] at frs
  have nd := h.nd
  rw [e0] at nd
  refine ⟨fun x hx => ?_, ?_, ?_, ?_⟩
  · rcases List.mem_append.mp hx with hx | hx
    · exact h.each x (List.mem_append_left _ hx)
    · rw [List.mem_singleton.mp hx]
      exact good_join (good_nm _) (h.each (t, fr) (List.mem_append_right _ List.mem_cons_self)) fun y hy z => frs (List.mem_append_right _ (List.mem_singleton.mp hy ▸ z))
  · rw [eq]
    exact List.perm_middle.nodup_iff.mpr (List.nodup_cons.mpr ⟨frs, nd⟩)
  · rw [eq]
    intro x hx
    have hx' : x = nameOf s u ∨ x ∈ usesL L ++ t.uses := by
      simp only [List.mem_append, List.mem_cons] at hx ⊢
      rcases hx with a | a | a
      · exact .inr (.inl a)
      · exact .inl a
      · exact .inr (.inr a)
    rcases hx' with a | a
    · exact ⟨u, by omega, a⟩
    · obtain ⟨j, hj, e⟩ := h.nm x (by rw [e0]; exact a)
      exact ⟨j, by omega, e⟩
  · have := h.len
    simp at this ⊢
    omega
theorem StkOk.join {s u : Nat} {L : List (Trm × List Str)} {a b c : Trm × List Str} {k : Bool} (h : StkOk s u (L ++ [a, b])) (j : JoinR k a b c) : StkOk s u (L ++ [c]) := by
  have ga : Good a := h.each a (by simp)
  have gb : Good b := h.each b (by simp)
  have e0 : usesL (L ++ [a, b]) = usesL L ++ (a.1.uses ++ b.1.uses) := by simp [usesL]
  have nd := h.nd
  rw [e0] at nd
  have dj : ∀ x ∈ a.1.uses, x ∉ b.1.uses := fun x hx hy => (List.nodup_append.mp (List.nodup_append.mp nd).2.1).2.2 x hx x hy rfl
  have key : Good c ∧ c.1.uses = a.1.uses ++ b.1.uses ∧ c.2.length ≤ a.2.length + b.2.length := by
    rcases j with rfl | ⟨_, x, hx, rfl⟩
    · exact ⟨good_join ga gb dj, rfl, by simp⟩
    · have := List.length_filter_le (fun y => decide (y ≠ x)) a.2
      exact ⟨good_join (good_bind ga hx) gb dj, rfl, by rw [List.length_append]; omega⟩
  obtain ⟨k1, k2, k3⟩ := key
  have eq : usesL (L ++ [c]) = usesL (L ++ [a, b]) := by simp [usesL, k2]
  refine ⟨fun x hx => ?_, by rw [eq]; exact h.nd, by rw [eq]; exact h.nm, ?_⟩
  · rcases List.mem_append.mp hx with hx | hx
    · exact h.each x (List.mem_append_left _ hx)
    · rw [List.mem_singleton.mp hx]
      exact k1
  · have := h.len
    simp at this ⊢
    omega
theorem join_nodes {a b c : Trm × List Str} {k : Bool} (j : JoinR k a b c) : c.1.nodes ≤ a.1.nodes + b.1.nodes + (if k = true then 2 else 1) := by
  rcases j with rfl | ⟨rfl, x, hx, rfl⟩
  · simp only [Trm.nodes]
    split <;> omega
  · simp only [Trm.nodes, if_true]
    omega
theorem plain_dat : ∀ (t : Trm), (∀ x ∈ t.uses, PyData.strOk x = true) → (∀ x ∈ t.binds, PyData.strOk x = true) → plainD (t.depth + 1) t.dat = true
  | .nm x, h, _ => plain_tup fun d hd => by
    simp at hd
    rcases hd with rfl | rfl
    · exact plain_str (by decide +kernel)
    · exact plain_str (h x (by simp [Trm.uses]))
  | .bd x b, h, k => plain_tup fun d hd => by
    simp at hd
    rcases hd with rfl | rfl | rfl
    · exact plain_str (by decide +kernel)
    · exact plain_str (k x List.mem_cons_self)
    · exact plain_dat b h fun y hy => k y (List.mem_cons_of_mem _ hy)
  | .ap l r, h, k => plain_tup fun d hd => by
    simp at hd
    rcases hd with rfl | rfl | rfl
    · exact plain_str (by decide +kernel)
    · exact plainD_mono _ _ _ (by simp only [Trm.depth]; omega) (plain_dat l (fun y hy => h y (List.mem_append_left _ hy)) fun y hy => k y (List.mem_append_left _ hy))
    · exact plainD_mono _ _ _ (by simp only [Trm.depth]; omega) (plain_dat r (fun y hy => h y (List.mem_append_right _ hy)) fun y hy => k y (List.mem_append_right _ hy))
theorem phi_app {L M : List (Trm × List Str)} : phi (L ++ M) = phi L + phi M := by simp [phi]
theorem phi_one {e : Trm × List Str} : phi [e] = e.1.nodes + 1 := by simp [phi]
theorem phi_two {a b : Trm × List Str} : phi [a, b] = a.1.nodes + 1 + (b.1.nodes + 1) := by simp [phi]
theorem phi_len : ∀ (L : List (Trm × List Str)), L.length ≤ phi L
  | [] => Nat.le_refl _
  | e :: L => by
    have := phi_len L
    simp only [phi, List.map_cons, List.sum_cons, List.length_cons] at this ⊢
    omega
theorem phi_mem {L : List (Trm × List Str)} {e : Trm × List Str} (h : e ∈ L) : e.1.nodes + 1 ≤ phi L := by
  induction L with
  | nil => cases h
  | cons x r ih =>
    simp only [phi, List.map_cons, List.sum_cons] at ih ⊢
    rcases List.mem_cons.mp h with rfl | h
    · omega
    · have := ih h
      omega
theorem StkOk.strs {s u : Nat} {L : List (Trm × List Str)} (h : StkOk s u L) (hs : s < 5) (hu : u ≤ 71) {e : Trm × List Str} (he : e ∈ L) : ∀ x ∈ e.1.uses, PyData.strOk x = true := fun x hx => by
  obtain ⟨j, hj, e'⟩ := h.nm x (List.mem_flatMap.mpr ⟨e, he, hx⟩)
  rw [e']
  exact nameOf_ok s hs j (by omega)
theorem StkOk.fstrs {s u : Nat} {L : List (Trm × List Str)} (h : StkOk s u L) (hs : s < 5) (hu : u ≤ 71) {e : Trm × List Str} (he : e ∈ L) : ∀ x ∈ e.2, PyData.strOk x = true := fun x hx => h.strs hs hu he x ((h.each e he).2.2 x hx).1
theorem StkOk.flen {s u : Nat} {L : List (Trm × List Str)} (h : StkOk s u L) {e : Trm × List Str} (he : e ∈ L) : e.2.length ≤ u := by
  have hl := h.len
  have : ∀ (L : List (Trm × List Str)), e ∈ L → e.2.length ≤ (L.map fun e => e.2.length).sum := fun L => by
    induction L with
    | nil => intro h; cases h
    | cons x r ih =>
      intro h
      simp only [List.map_cons, List.sum_cons]
      rcases List.mem_cons.mp h with rfl | h
      · omega
      · have := ih h
        omega
  have := this L he
  omega
theorem StkOk.plain {s u n : Nat} {L : List (Trm × List Str)} (h : StkOk s u L) (hs : s < 5) (hu : u ≤ 71) (hp : phi L ≤ n) (hn : n ≤ 61) : plainD 64 (.lst (L.map ent)) = true := by
  refine plain_lst fun d hd => ?_
  obtain ⟨e, he, rfl⟩ := List.mem_map.mp hd
  have g := h.each e he
  have hd := e.1.depth_le
  have hm := phi_mem he
  have us := h.strs hs hu he
  refine plain_tup fun d hd => ?_
  simp at hd
  rcases hd with rfl | rfl
  · exact plainD_mono _ _ _ (by omega) (plain_dat e.1 us fun x hx => us x (g.2.1 x hx))
  · exact plain_strs (n := 61) (h.fstrs hs hu he)
theorem two_last {α : Type} {L : List α} (h : 2 ≤ L.length) : ∃ L' a b, L = L' ++ [a, b] := by
  rcases List.eq_nil_or_concat L with rfl | ⟨M, b, rfl⟩
  · simp at h
  · rcases List.eq_nil_or_concat M with rfl | ⟨M', a, rfl⟩
    · simp at h
    · exact ⟨M', a, b, by simp⟩
theorem nil_or_last {α : Type} (L : List α) : L = [] ∨ ∃ M b, L = M ++ [b] := by
  rcases List.eq_nil_or_concat L with h | ⟨M, b, h⟩
  · exact .inl h
  · exact .inr ⟨M, b, by rw [h, List.concat_eq_append]⟩
/-! what the law compares -/
def samey : Nat → Dat → Bool
  | _ + 1, .bl _ => true
  | _ + 1, .int _ => true
  | _ + 1, .str _ => true
  | n + 1, .tup ds => decide (ds.length ≤ 100000) && ds.all (samey n)
  | n + 1, .lst ds => decide (ds.length ≤ 100000) && ds.all (samey n)
  | _, _ => false
theorem samey_dat : ∀ (t : Trm) (n : Nat), t.depth + 2 ≤ n → samey n t.dat = true
  | .nm x, n + 2, _ => by simp [Trm.dat, samey]
  | .bd x b, n + 2, h => by
    simp only [Trm.depth] at h
    have := samey_dat b (n + 1) (by omega)
    simp [Trm.dat, samey, this]
  | .ap l r, n + 2, h => by
    simp only [Trm.depth] at h
    have h1 := samey_dat l (n + 1) (by omega)
    have h2 := samey_dat r (n + 1) (by omega)
    simp [Trm.dat, samey, h1, h2]
  | .nm x, 0, h => by omega
  | .nm x, 1, h => by omega
  | .bd x b, 0, h => by omega
  | .bd x b, 1, h => by omega
  | .ap l r, 0, h => by omega
  | .ap l r, 1, h => by omega
theorem put_depth (x : Str) (o : Trm) : ∀ t : Trm, (t.put x o).depth ≤ t.depth + o.depth
  | .nm y => by
    rw [Trm.put]
    split
    · simp only [Trm.depth]; omega
    · simp only [Trm.depth]; omega
  | .bd y b => by
    have := put_depth x o b
    simp only [Trm.put, Trm.depth]
    omega
  | .ap l r => by
    have h1 := put_depth x o l
    have h2 := put_depth x o r
    simp only [Trm.put, Trm.depth]
    omega
theorem stepT_depth : ∀ (t : Trm) (k : Nat) (t' : Trm), t.stepT k = some t' → t'.depth ≤ t.nodes
  | .nm x, k, t', h => by simp [Trm.stepT] at h
  | .bd x b, 0, t', h => by simp [Trm.stepT] at h
  | .bd x b, k + 1, t', h => by
    simp [Trm.stepT] at h
    obtain ⟨b', hb, rfl⟩ := h
    have := stepT_depth b k b' hb
    simp only [Trm.depth, Trm.nodes]
    omega
  | .ap l r, 0, t', h => by
    cases l with
    | bd x b =>
      simp [Trm.stepT] at h
      subst h
      have h1 := put_depth x r b
      have h2 := b.depth_le
      have h3 := r.depth_le
      simp only [Trm.nodes]
      omega
    | _ => simp [Trm.stepT] at h
  | .ap l r, k + 1, t', h => by
    have h1 := l.depth_le
    have h2 := r.depth_le
    rw [Trm.stepT_ap] at h
    split at h
    · simp at h
      obtain ⟨l', hl, rfl⟩ := h
      have := stepT_depth l k l' hl
      simp only [Trm.depth, Trm.nodes]
      omega
    · simp at h
      obtain ⟨r', hr, rfl⟩ := h
      have := stepT_depth r _ r' hr
      simp only [Trm.depth, Trm.nodes]
      omega
end TL

/-! circles: the parts in which a name is free -/
namespace TK
open PySem DL TL TL.Trm
theorem wsc_binds : ∀ {t : Trm}, t.wsc → ∀ x ∈ t.binds, x ∈ t.uses
  | .nm _, _, _, h => nomatch h
  | .bd y b, ⟨h1, h2⟩, x, h => by
    rcases List.mem_cons.mp h with rfl | h
    · exact (List.mem_filter.mp h1).1
    · exact wsc_binds h2 x h
  | .ap l r, ⟨h1, h2⟩, x, h => by
    rcases List.mem_append.mp h with h | h
    · exact List.mem_append_left _ (wsc_binds h1 x h)
    · exact List.mem_append_right _ (wsc_binds h2 x h)
theorem mem_fr {t : Trm} {x : Str} : x ∈ t.free ↔ x ∈ t.uses ∧ x ∉ t.binds := by
  unfold Trm.free
  rw [List.mem_filter, decide_eq_true_eq]
theorem fr_bd {y x : Str} {b : Trm} : x ∈ (Trm.bd y b).free ↔ x ∈ b.free ∧ x ≠ y := by
  rw [mem_fr, mem_fr]
  simp only [Trm.uses, Trm.binds, List.mem_cons, not_or]
  constructor
  · exact fun ⟨a, b, c⟩ => ⟨⟨a, c⟩, b⟩
  · exact fun ⟨⟨a, c⟩, b⟩ => ⟨a, b, c⟩
theorem fr_apl {x : Str} {l r : Trm} (hw : r.wsc) (hx : x ∈ l.uses) (hn : x ∉ r.uses) : x ∈ (Trm.ap l r).free ↔ x ∈ l.free := by
  rw [mem_fr, mem_fr]
  simp only [Trm.uses, Trm.binds, List.mem_append, not_or]
  exact ⟨fun ⟨a, b, c⟩ => ⟨hx, b⟩, fun ⟨a, b⟩ => ⟨.inl hx, b, fun z => hn (wsc_binds hw _ z)⟩⟩
theorem fr_apr {x : Str} {l r : Trm} (hw : l.wsc) (hx : x ∈ r.uses) (hn : x ∉ l.uses) : x ∈ (Trm.ap l r).free ↔ x ∈ r.free := by
  rw [mem_fr, mem_fr]
  simp only [Trm.uses, Trm.binds, List.mem_append, not_or]
  exact ⟨fun ⟨a, b, c⟩ => ⟨hx, c⟩, fun ⟨a, c⟩ => ⟨.inr hx, fun z => hn (wsc_binds hw _ z), c⟩⟩
/-- the numbers of the parts in which x is free; the first part has number n -/
def occ (x : Str) (n : Nat) (t : Trm) : List Nat := ((t.parts.zipIdx n).filter fun p => decide (x ∈ p.1.free)).map (·.2)
theorem parts_uses : ∀ (t : Trm) (p : Trm), p ∈ t.parts → ∀ x ∈ p.uses, x ∈ t.uses
  | .nm y, p, h, x, hx => by
    rcases List.mem_cons.mp h with rfl | h
    · exact hx
    · cases h
  | .bd y b, p, h, x, hx => by
    rcases List.mem_cons.mp h with rfl | h
    · exact hx
    · exact parts_uses b p h x hx
  | .ap l r, p, h, x, hx => by
    rcases List.mem_cons.mp h with rfl | h
    · exact hx
    · rcases List.mem_append.mp h with h | h
      · exact List.mem_append_left _ (parts_uses l p h x hx)
      · exact List.mem_append_right _ (parts_uses r p h x hx)
theorem occ_none {x : Str} {n : Nat} {t : Trm} (h : x ∉ t.uses) : occ x n t = [] := by
  unfold occ
  rw [List.map_eq_nil_iff, List.filter_eq_nil_iff]
  intro p hp
  have := List.fst_mem_of_mem_zipIdx hp
  simp only [decide_eq_true_eq]
  exact fun z => h (parts_uses t _ this _ (mem_fr.mp z).1)
def one (b : Prop) [Decidable b] (n : Nat) : List Nat := if b then [n] else []
theorem occ_nm {y : Str} {n : Nat} : occ y n (.nm y) = [n] := by
  simp [occ, Trm.parts, mem_fr, Trm.uses, Trm.binds]
theorem occ_bd {x y : Str} {n : Nat} {b : Trm} : occ x n (.bd y b) = one (x ∈ (Trm.bd y b).free) n ++ occ x (n + 1) b := by
  unfold occ one
  rw [show (Trm.bd y b).parts = .bd y b :: b.parts from rfl, List.zipIdx_cons, List.filter_cons]
  by_cases h : x ∈ (Trm.bd y b).free
  · simp [h]
  · simp [h]
theorem occ_ap {x : Str} {n : Nat} {l r : Trm} : occ x n (.ap l r) = one (x ∈ (Trm.ap l r).free) n ++ (occ x (n + 1) l ++ occ x (n + 1 + l.parts.length) r) := by
  unfold occ one
  rw [show (Trm.ap l r).parts = .ap l r :: (l.parts ++ r.parts) from rfl, List.zipIdx_cons, List.filter_cons, List.zipIdx_append, List.filter_append]
  by_cases h : x ∈ (Trm.ap l r).free
  · simp [h]
  · simp [h]
/-- the parts around x, from its use outwards, in a part that is numbered m and stands under the parts of road; g tells how many of road are outside of the bind -/
def arnd (g : Str → Nat) (road : List Nat) (m : Nat) (t : Trm) (x : Str) : List Nat := ((if x ∈ t.free then road.drop (g x) else []) ++ occ x m t).reverse
theorem arnd_nm {g : Str → Nat} {road : List Nat} {m : Nat} {x : Str} (h : g x ≤ road.length) : arnd g road m (.nm x) x = ((road ++ [m]).drop (g x)).reverse := by
  unfold arnd
  rw [if_pos (mem_fr.mpr ⟨List.mem_cons_self, by simp [Trm.binds]⟩), occ_nm, List.drop_append_of_le_length h]
theorem arnd_bd {g g' : Str → Nat} {road : List Nat} {m : Nat} {y x : Str} {b : Trm} (hy : g' y = road.length + 1) (hg : ∀ z, z ≠ y → z ∈ b.free → g' z = g z) (hl : ∀ z ∈ (Trm.bd y b).free, g z ≤ road.length) :
    arnd g' (road ++ [m]) (m + 1) b x = arnd g road m (.bd y b) x := by
  unfold arnd
  rw [occ_bd]
  by_cases hx : x ∈ b.free
  · by_cases e : x = y
    · subst e
      have h2 : x ∉ (Trm.bd x b).free := fun z => (fr_bd.mp z).2 rfl
      rw [if_pos hx, if_neg h2, hy, List.drop_eq_nil_iff.mpr (by simp)]
      simp [one, h2]
    · have h2 : x ∈ (Trm.bd y b).free := fr_bd.mpr ⟨hx, e⟩
      rw [if_pos hx, if_pos h2, hg x e hx, List.drop_append_of_le_length (hl x h2)]
      simp [one, h2]
  · have h2 : x ∉ (Trm.bd y b).free := fun z => hx (fr_bd.mp z).1
    rw [if_neg hx, if_neg h2]
    simp [one, h2]
theorem arnd_apl {g : Str → Nat} {road : List Nat} {m : Nat} {x : Str} {l r : Trm} (hw : r.wsc) (hx : x ∈ l.uses) (hn : x ∉ r.uses) (hl : ∀ z ∈ (Trm.ap l r).free, g z ≤ road.length) :
    arnd g (road ++ [m]) (m + 1) l x = arnd g road m (.ap l r) x := by
  unfold arnd
  rw [occ_ap, occ_none hn, List.append_nil]
  by_cases h : x ∈ l.free
  · have h2 := (fr_apl hw hx hn).mpr h
    rw [if_pos h, if_pos h2, List.drop_append_of_le_length (hl x h2)]
    simp [one, h2]
  · have h2 : x ∉ (Trm.ap l r).free := fun z => h ((fr_apl hw hx hn).mp z)
    rw [if_neg h, if_neg h2]
    simp [one, h2]
theorem arnd_apr {g g' : Str → Nat} {road : List Nat} {m : Nat} {x : Str} {l r : Trm} (hw : l.wsc) (hx : x ∈ r.uses) (hn : x ∉ l.uses) (hg : ∀ z ∈ r.free, g' z = g z) (hl : ∀ z ∈ (Trm.ap l r).free, g z ≤ road.length) :
    arnd g' (road ++ [m]) (m + 1 + l.parts.length) r x = arnd g road m (.ap l r) x := by
  unfold arnd
  rw [occ_ap, occ_none (t := l) hn, List.nil_append]
  by_cases h : x ∈ r.free
  · have h2 := (fr_apr hw hx hn).mpr h
    rw [if_pos h, if_pos h2, hg x h, List.drop_append_of_le_length (hl x h2)]
    simp [one, h2]
  · have h2 : x ∉ (Trm.ap l r).free := fun z => h ((fr_apr hw hx hn).mp z)
    rw [if_neg h, if_neg h2]
    simp [one, h2]
theorem parts_nodes : ∀ (t : Trm) (p : Trm), p ∈ t.parts → p.nodes ≤ t.nodes
  | .nm y, p, h => by
    rcases List.mem_cons.mp h with rfl | h
    · exact Nat.le_refl _
    · cases h
  | .bd y b, p, h => by
    rcases List.mem_cons.mp h with rfl | h
    · exact Nat.le_refl _
    · have := parts_nodes b p h
      simp only [Trm.nodes]
      omega
  | .ap l r, p, h => by
    rcases List.mem_cons.mp h with rfl | h
    · exact Nat.le_refl _
    · rcases List.mem_append.mp h with h | h
      · have := parts_nodes l p h
        simp only [Trm.nodes]
        omega
      · have := parts_nodes r p h
        simp only [Trm.nodes]
        omega
/-- the numbers of the parts without free names -/
def clos (t : Trm) : List Nat := (t.parts.zipIdx.filter fun p => decide (p.1.free = [])).map (·.2)
theorem put_none {x : Str} {o : Trm} : ∀ {t : Trm}, x ∉ t.uses → t.put x o = t
  | .nm y, h => by
    have : ¬ y = x := fun e => h (by rw [e]; exact List.mem_cons_self)
    simp [Trm.put, this]
  | .bd y b, h => by rw [Trm.put, put_none (t := b) h]
  | .ap l r, h => by
    simp only [Trm.uses, List.mem_append, not_or] at h
    rw [Trm.put, put_none h.1, put_none h.2]
structure PutOk (t : Trm) (x : Str) (o : Trm) : Prop where
  w : (t.put x o).wsc
  n : (t.put x o).uses.Nodup
  u : ∀ y, y ∈ (t.put x o).uses ↔ (y ∈ t.uses ∧ y ≠ x) ∨ y ∈ o.uses
  b : ∀ y, y ∈ (t.put x o).binds ↔ y ∈ t.binds ∨ y ∈ o.binds
  k : (t.put x o).nodes = t.nodes + o.nodes
theorem put_ok {x : Str} {o : Trm} (ow : o.wsc) (on : o.uses.Nodup) : ∀ {t : Trm}, t.wsc → t.uses.Nodup → x ∈ t.free → (∀ y ∈ o.uses, y ∉ t.uses) → PutOk t x o
  | .nm z, _, _, hx, hd => by
    obtain rfl : x = z := List.mem_singleton.mp (mem_fr.mp hx).1
    have e : (Trm.nm x).put x o = o := by simp [Trm.put]
    refine ⟨by rw [e]; exact ow, by rw [e]; exact on, fun y => ?_, fun y => ?_, ?_⟩
    · rw [e]
      simp only [Trm.uses, List.mem_singleton]
      exact ⟨.inr, fun z => z.elim (fun ⟨a, b⟩ => absurd a b) id⟩
    · rw [e]
      simp [Trm.binds]
    · rw [e]
      simp [Trm.nodes]
  | .bd z b, ⟨hz, hw⟩, hn, hx, hd => by
    have hx' := fr_bd.mp hx
    have i := put_ok ow on hw hn hx'.1 hd
    have hz' := mem_fr.mp hz
    refine ⟨⟨mem_fr.mpr ⟨(i.u z).mpr (.inl ⟨hz'.1, Ne.symm hx'.2⟩), fun q => ?_⟩, i.w⟩, i.n, i.u, fun y => ?_, ?_⟩
    · rcases (i.b z).mp q with q | q
      · exact hz'.2 q
      · exact hd z (wsc_binds ow z q) hz'.1
    · show y ∈ z :: (b.put x o).binds ↔ y ∈ z :: b.binds ∨ y ∈ o.binds
      rw [List.mem_cons, List.mem_cons, i.b y, or_assoc]
    · show (b.put x o).nodes + 1 = b.nodes + 1 + o.nodes
      rw [i.k]
      omega
  | .ap l r, ⟨hl, hr⟩, hn, hx, hd => by
    simp only [Trm.uses] at hn hd
    obtain ⟨nl, nr, dj⟩ := List.nodup_append.mp hn
    have hx' := mem_fr.mp hx
    simp only [Trm.uses, Trm.binds, List.mem_append, not_or] at hx'
    have rest : (x ∈ l.uses ∧ x ∉ r.uses) ∨ (x ∈ r.uses ∧ x ∉ l.uses) := by
      rcases hx'.1 with h | h
      · exact .inl ⟨h, fun z => dj x h x z rfl⟩
      · exact .inr ⟨h, fun z => dj x z x h rfl⟩
    rcases rest with ⟨h1, h2⟩ | ⟨h1, h2⟩
    · have i := put_ok ow on hl nl (mem_fr.mpr ⟨h1, hx'.2.1⟩) fun y hy z => hd y hy (List.mem_append_left _ z)
      have e : (Trm.ap l r).put x o = .ap (l.put x o) r := by rw [Trm.put, put_none h2]
      refine ⟨by rw [e]; exact ⟨i.w, hr⟩, ?_, fun y => ?_, fun y => ?_, ?_⟩
      · rw [e]
        refine List.nodup_append.mpr ⟨i.n, nr, fun a ha b hb z => ?_⟩
        subst z
        rcases (i.u a).mp ha with q | q
        · exact dj a q.1 a hb rfl
        · exact hd a q (List.mem_append_right _ hb)
      · rw [e]
        simp only [Trm.uses, List.mem_append, i.u y]
        constructor
        · rintro ((⟨a, b⟩ | a) | a)
          · exact .inl ⟨.inl a, b⟩
          · exact .inr a
          · exact .inl ⟨.inr a, fun z => h2 (z ▸ a)⟩
        · rintro (⟨a | a, b⟩ | a)
          · exact .inl (.inl ⟨a, b⟩)
          · exact .inr a
          · exact .inl (.inr a)
      · rw [e]
        simp only [Trm.binds, List.mem_append, i.b y]
        constructor
        · rintro ((a | a) | a)
          · exact .inl (.inl a)
          · exact .inr a
          · exact .inl (.inr a)
        · rintro ((a | a) | a)
          · exact .inl (.inl a)
          · exact .inr a
          · exact .inl (.inr a)
      · rw [e]
        simp only [Trm.nodes, i.k]
        omega
    · have i := put_ok ow on hr nr (mem_fr.mpr ⟨h1, hx'.2.2⟩) fun y hy z => hd y hy (List.mem_append_right _ z)
      have e : (Trm.ap l r).put x o = .ap l (r.put x o) := by rw [Trm.put, put_none h2]
      refine ⟨by rw [e]; exact ⟨hl, i.w⟩, ?_, fun y => ?_, fun y => ?_, ?_⟩
      · rw [e]
        refine List.nodup_append.mpr ⟨nl, i.n, fun a ha b hb z => ?_⟩
        subst z
        rcases (i.u a).mp hb with q | q
        · exact dj a ha a q.1 rfl
        · exact hd a q (List.mem_append_left _ ha)
      · rw [e]
        simp only [Trm.uses, List.mem_append, i.u y]
        constructor
        · rintro (a | ⟨a, b⟩ | a)
          · exact .inl ⟨.inl a, fun z => h2 (z ▸ a)⟩
          · exact .inl ⟨.inr a, b⟩
          · exact .inr a
        · rintro (⟨a | a, b⟩ | a)
          · exact .inl a
          · exact .inr (.inl ⟨a, b⟩)
          · exact .inr (.inr a)
      · rw [e]
        simp only [Trm.binds, List.mem_append, i.b y, or_assoc]
      · rw [e]
        simp only [Trm.nodes, i.k]
        omega
/-- a closed term in the place of a free name -/
theorem put_free {t o : Trm} {x : Str} (p : PutOk t x o) (ow : o.wsc) (hd : ∀ y ∈ o.uses, y ∉ t.uses) {y : Str} (h : y ∈ t.free) (hy : y ≠ x) : y ∈ (t.put x o).free := by
  obtain ⟨h1, h2⟩ := mem_fr.mp h
  refine mem_fr.mpr ⟨(p.u y).mpr (.inl ⟨h1, hy⟩), fun z => ?_⟩
  rcases (p.b y).mp z with z | z
  · exact h2 z
  · exact hd y (wsc_binds ow y z) h1
theorem uses_len : ∀ t : Trm, t.uses.length ≤ t.nodes + 1
  | .nm _ => by simp [Trm.uses]
  | .bd _ b => by
    have := uses_len b
    simp only [Trm.uses, Trm.nodes]
    omega
  | .ap l r => by
    have := uses_len l
    have := uses_len r
    simp only [Trm.uses, Trm.nodes, List.length_append]
    omega
theorem uses_ne : ∀ t : Trm, t.uses ≠ []
  | .nm _ => by simp [Trm.uses]
  | .bd _ b => uses_ne b
  | .ap l r => fun h => uses_ne l (List.append_eq_nil_iff.mp h).1
/-- the closed terms that are put in -/
def cN (k : Nat) : Str := "c" ++ Str.ofString (toString (k : Int))
def dN (k : Nat) : Str := "d" ++ Str.ofString (toString (k : Int))
def shutT (k : Nat) : Trm := if k % 2 = 0 then .bd (cN k) (.nm (cN k)) else .bd (dN k) (.ap (.bd (cN k) (.nm (cN k))) (.nm (dN k)))
def hd (x : Str) : Option Nat := x.cps.toList.head?
theorem name_hd : ∀ s < 5, ∀ j < 71, hd (nameOf s j) ≠ some 99 ∧ hd (nameOf s j) ≠ some 100 ∧ (nameOf s j).length ≤ 20 := by decide +kernel
theorem shut_hd : ∀ k < 30, ∀ x ∈ (shutT k).uses, (hd x = some 99 ∨ hd x = some 100) ∧ PyData.strOk x = true ∧ x.length ≤ 20 := by decide +kernel
theorem shut_dj0 : ∀ a < 30, ∀ b < 30, (a == b || (shutT a).uses.all fun x => (shutT b).uses.all fun y => decide (x ≠ y)) = true := by decide +kernel
theorem shut_dj (a : Nat) (ha : a < 30) (b : Nat) (hb : b < 30) (h : a ≠ b) : ∀ x ∈ (shutT a).uses, x ∉ (shutT b).uses := fun x hx hy => by
  have z := shut_dj0 a ha b hb
  rw [show (a == b) = false by simpa using h, Bool.false_or, List.all_eq_true] at z
  have z2 := List.all_eq_true.mp (z x hx) x hy
  simp at z2
theorem shut_nd : ∀ a < 30, (shutT a).uses.Nodup := by decide +kernel
theorem shut_w : ∀ a < 30, (shutT a).wsc := by
  intro a ha
  have h : ∀ a < 30, cN a ≠ dN a := by decide +kernel
  have h' := h a ha
  unfold shutT
  split
  · exact ⟨mem_fr.mpr ⟨List.mem_cons_self, by simp [Trm.binds]⟩, trivial⟩
  · refine ⟨mem_fr.mpr ⟨by simp [Trm.uses], by simp [Trm.binds]; exact Ne.symm h'⟩, ⟨mem_fr.mpr ⟨List.mem_cons_self, by simp [Trm.binds]⟩, trivial⟩, trivial⟩
theorem shut_nodes (k : Nat) : (shutT k).nodes ≤ 3 := by
  unfold shutT
  split <;> simp [Trm.nodes]
/-- a term in the making: names and closed terms so far -/
structure Mk (s K : Nat) (t : Trm) (fr : List Str) : Prop where
  w : t.wsc
  n : t.uses.Nodup
  u : ∀ x ∈ t.uses, (∃ j, j ≤ 70 ∧ x = nameOf s j) ∨ ∃ k, k < 10 * K ∧ x ∈ (shutT k).uses
  fn : fr.Nodup
  ff : ∀ x ∈ fr, x ∈ t.free
theorem Mk.later {s K K' : Nat} {t : Trm} {fr : List Str} (m : Mk s K t fr) (h : K ≤ K') : Mk s K' t fr :=
  ⟨m.w, m.n, fun x hx => (m.u x hx).imp id fun ⟨k, a, b⟩ => ⟨k, by omega, b⟩, m.fn, m.ff⟩
theorem Mk.fresh {s K k : Nat} {t : Trm} {fr : List Str} (m : Mk s K t fr) (hs : s < 5) (hk : 10 * K ≤ k) (hk2 : k < 30) : ∀ y ∈ (shutT k).uses, y ∉ t.uses := fun y hy h => by
  have h1 := (shut_hd k hk2 y hy).1
  rcases m.u y h with ⟨j, hj, e⟩ | ⟨k', hk', h'⟩
  · have := name_hd s hs j (by omega)
    rw [← e] at this
    rcases h1 with h1 | h1
    · exact this.1 h1
    · exact this.2.1 h1
  · exact shut_dj k hk2 k' (by omega) (by omega) y hy h'
theorem Mk.shut {s K k j : Nat} {t : Trm} {fr : List Str} (m : Mk s K t fr) (hs : s < 5) (hk : 10 * K ≤ k) (hk2 : k < 10 * (K + 1)) (hk3 : k < 30) (hj : j < fr.length) : Mk s (K + 1) (t.put fr[j] (shutT k)) (fr.eraseIdx j) ∧ (t.put fr[j] (shutT k)).nodes ≤ t.nodes + 3 := by
  have fh := m.fresh hs hk hk3
  have p := put_ok (shut_w k hk3) (shut_nd k hk3) m.w m.n (m.ff _ (List.getElem_mem hj)) fh
  refine ⟨⟨p.w, p.n, fun x hx => ?_, m.fn.sublist (List.eraseIdx_sublist _ _), fun x hx => ?_⟩, by have := shut_nodes k; rw [p.k]; omega⟩
  · rcases (p.u x).mp hx with h | h
    · exact (m.u x h.1).imp id fun ⟨q, a, b⟩ => ⟨q, by omega, b⟩
    · exact .inr ⟨k, hk2, h⟩
  · have hx' := (List.eraseIdx_sublist fr j).subset hx
    refine put_free p (shut_w k hk3) fh (m.ff x hx') fun e => ?_
    obtain ⟨i, hi, e2⟩ := List.mem_iff_getElem.mp hx
    rw [List.getElem_eraseIdx] at e2
    have hl := List.length_eraseIdx_of_lt hj
    split at e2
    · have := (List.getElem_inj m.fn).mp (e2.trans e)
      omega
    · have := (List.getElem_inj m.fn).mp (e2.trans e)
      omega
theorem Mk.bind {s K j : Nat} {t : Trm} {fr : List Str} (m : Mk s K t fr) (hj : j < fr.length) : Mk s K (.bd fr[j] t) (fr.eraseIdx j) := by
  refine ⟨⟨m.ff _ (List.getElem_mem hj), m.w⟩, m.n, m.u, m.fn.sublist (List.eraseIdx_sublist _ _), fun x hx => ?_⟩
  have hx' := (List.eraseIdx_sublist fr j).subset hx
  refine fr_bd.mpr ⟨m.ff x hx', fun e => ?_⟩
  obtain ⟨i, hi, e2⟩ := List.mem_iff_getElem.mp hx
  rw [List.getElem_eraseIdx] at e2
  have hl := List.length_eraseIdx_of_lt hj
  split at e2
  · have := (List.getElem_inj m.fn).mp (e2.trans e)
    omega
  · have := (List.getElem_inj m.fn).mp (e2.trans e)
    omega
/-- what a name must be for the text -/
def NmOk (x : Str) : Prop := PyData.strOk x = true ∧ x.length ≤ 20
theorem Mk.names {s K : Nat} {t : Trm} {fr : List Str} (m : Mk s K t fr) (hs : s < 5) (hK : K ≤ 3) : ∀ x ∈ t.uses, NmOk x := fun x hx => by
  rcases m.u x hx with ⟨j, hj, e⟩ | ⟨k', hk', h'⟩
  · rw [e]
    exact ⟨nameOf_ok s hs j (by omega), (name_hd s hs j (by omega)).2.2⟩
  · exact (shut_hd k' (by omega) x h').2
/-! the parts that are met -/
theorem mem_occ {x : Str} {t : Trm} {k : Nat} : k ∈ occ x 0 t ↔ ∃ p, t.parts[k]? = some p ∧ x ∈ p.free := by
  unfold occ
  simp only [List.mem_map, List.mem_filter, decide_eq_true_eq]
  constructor
  · rintro ⟨⟨p, j⟩, ⟨h1, h2⟩, rfl⟩
    exact ⟨p, List.mem_zipIdx_iff_getElem?.mp h1, h2⟩
  · rintro ⟨p, h1, h2⟩
    exact ⟨(p, k), ⟨List.mem_zipIdx_iff_getElem?.mpr h1, h2⟩, rfl⟩
theorem clos_eq (t : Trm) : clos t = (List.range t.parts.length).filter fun k => !decide (∃ x ∈ t.uses, k ∈ occ x 0 t) := by
  have h := zip_range (fun p : Trm => decide (p.free = [])) t.parts 0
  unfold clos
  rw [h]
  simp only [Nat.add_zero, List.map_id']
  refine List.filter_congr fun k hk => ?_
  have hk' : k < t.parts.length := List.mem_range.mp hk
  rw [List.getElem?_eq_getElem hk', Option.any_some]
  by_cases e : (t.parts[k]).free = []
  · have : ¬ ∃ x ∈ t.uses, k ∈ occ x 0 t := fun ⟨x, _, hx⟩ => by
      obtain ⟨p, hp, hf⟩ := mem_occ.mp hx
      rw [List.getElem?_eq_getElem hk'] at hp
      cases hp
      rw [e] at hf
      cases hf
    simp only [e, decide_true, this, decide_false, Bool.not_false]
  · obtain ⟨x, hx⟩ := List.exists_mem_of_ne_nil _ e
    have : ∃ x ∈ t.uses, k ∈ occ x 0 t := ⟨x, parts_uses t _ (List.getElem_mem hk') x (mem_fr.mp hx).1, mem_occ.mpr ⟨_, List.getElem?_eq_getElem hk', hx⟩⟩
    simp only [e, decide_false, this, decide_true, Bool.not_true]
theorem occ_lt {x : Str} {t : Trm} {k : Nat} (h : k ∈ occ x 0 t) : k < t.parts.length := by
  obtain ⟨p, hp, _⟩ := mem_occ.mp h
  exact (List.getElem?_eq_some_iff.mp hp).1
theorem occ_use {x : Str} {t : Trm} (h : occ x 0 t ≠ []) : x ∈ t.uses := by
  obtain ⟨k, hk⟩ := List.exists_mem_of_ne_nil _ h
  obtain ⟨p, hp, hf⟩ := mem_occ.mp hk
  exact parts_uses t p (List.mem_of_getElem? hp) x (mem_fr.mp hf).1
theorem occ_ne : ∀ {x : Str} {t : Trm}, x ∈ t.uses → ∀ n, occ x n t ≠ []
  | x, .nm y, h, n => by
    obtain rfl : x = y := List.mem_singleton.mp h
    rw [occ_nm]
    simp
  | x, .bd y b, h, n => by
    rw [occ_bd]
    exact fun z => occ_ne (t := b) h _ (List.append_eq_nil_iff.mp z).2
  | x, .ap l r, h, n => by
    rw [occ_ap]
    intro z
    have z2 := List.append_eq_nil_iff.mp (List.append_eq_nil_iff.mp z).2
    rcases List.mem_append.mp h with h | h
    · exact occ_ne h _ z2.1
    · exact occ_ne h _ z2.2
theorem arnd_top {g : Str → Nat} {t : Trm} {x : Str} : arnd g [] 0 t x = (occ x 0 t).reverse := by
  unfold arnd
  simp
theorem sub_len {α : Type} [DecidableEq α] : ∀ {l m : List α}, l.Nodup → (∀ x ∈ l, x ∈ m) → l.length ≤ m.length
  | [], m, _, _ => Nat.zero_le _
  | a :: l, m, hn, h => by
    obtain ⟨h1, h2⟩ := List.nodup_cons.mp hn
    have ha := h a List.mem_cons_self
    have : l.length ≤ (m.erase a).length := sub_len h2 fun x hx => (List.mem_erase_of_ne (show x ≠ a from fun e => h1 (e ▸ hx))).mpr (h x (List.mem_cons_of_mem _ hx))
    rw [List.length_erase_of_mem ha] at this
    have := List.length_pos_of_mem ha
    rw [List.length_cons]
    omega
theorem Mk.flen {s K : Nat} {t : Trm} {fr : List Str} (m : Mk s K t fr) : fr.length ≤ t.nodes + 1 :=
  Nat.le_trans (sub_len m.fn fun x hx => (mem_fr.mp (m.ff x hx)).1) (uses_len t)
theorem ixn {n j : Nat} (h : j < n) : L2.ixN n (j : Int) = some j := by
  unfold L2.ixN
  rw [if_pos (Int.natCast_nonneg j), if_pos (by omega), Int.toNat_natCast]
theorem set_range {α : Type} {n j : Nat} {g : Nat → α} {v : α} : ((List.range n).map g).set j v = (List.range n).map fun k => if k = j then v else g k := by
  refine List.ext_getElem (by simp) fun i h1 h2 => ?_
  rw [List.getElem_set]
  simp only [List.getElem_map, List.getElem_range]
  by_cases e : j = i
  · subst e
    simp
  · rw [if_neg e, if_neg (Ne.symm e)]
theorem atK_map {F : Str → Dat} {x : Str} : ∀ {l : List Str}, x ∈ l → atK (l.map Sum.inr) (l.map F) (.inr x) = some (F x)
  | a :: l, h => by
    unfold atK
    rw [List.map_cons, List.map_cons, List.zip_cons_cons, List.find?_cons]
    by_cases e : a = x
    · subst e
      simp
    · have e' : ¬ (Sum.inr a : L2.Key) = Sum.inr x := fun z => e (Sum.inr.inj z)
      simp only [decide_eq_false e']
      exact atK_map ((List.mem_cons.mp h).resolve_left fun z => e z.symm)
/-- which parts are met -/
def metL (n : Nat) (t : Trm) (done : List Str) (more : List Nat) : List Dat := (List.range n).map fun k => .bl (decide ((∃ x ∈ done, k ∈ occ x 0 t) ∨ k ∈ more))
theorem metL_nil {n : Nat} {t : Trm} : metL n t [] [] = List.replicate n (.bl false) := by
  unfold metL
  refine List.ext_getElem (by simp) fun i h1 h2 => ?_
  simp
theorem metL_set {n j : Nat} {t : Trm} {done : List Str} {more : List Nat} : (metL n t done more).set j (.bl true) = metL n t done (more ++ [j]) := by
  unfold metL
  rw [set_range]
  refine List.map_congr_left fun k _ => ?_
  by_cases e : k = j
  · subst e
    simp
  · simp [e]
theorem metL_next {n : Nat} {t : Trm} {done : List Str} {x : Str} : metL n t done (occ x 0 t).reverse = metL n t (done ++ [x]) [] := by
  unfold metL
  refine List.map_congr_left fun k _ => ?_
  congr 1
  simp only [List.mem_reverse, List.mem_append, List.mem_singleton, List.not_mem_nil, or_false, decide_eq_decide]
  constructor
  · rintro (⟨y, h1, h2⟩ | h)
    · exact ⟨y, .inl h1, h2⟩
    · exact ⟨x, .inr rfl, h⟩
  · rintro ⟨y, h1 | h1, h2⟩
    · exact .inl ⟨y, h1, h2⟩
    · subst h1
      exact .inr h2
theorem map_erase {α β : Type} {f : α → β} : ∀ {l : List α} {n : Nat}, (l.map f).eraseIdx n = (l.eraseIdx n).map f
  | [], _ => rfl
  | a :: l, 0 => rfl
  | a :: l, n + 1 => by
    rw [List.map_cons, List.eraseIdx_cons_succ, List.eraseIdx_cons_succ, List.map_cons, map_erase]
theorem occ_len {x : Str} {n : Nat} {t : Trm} : (occ x n t).length ≤ t.parts.length := by
  unfold occ
  rw [List.length_map]
  exact Nat.le_trans (List.length_filter_le _ _) (by rw [List.length_zipIdx]; exact Nat.le_refl _)
end TK

namespace K31
open PySem PySem.Spec PyProof.Rows L2 DL
open TL
open TK
def topS (i : Nat) : Stmt := PySem.Challenge.pw_drawnonce_k31_circles_and_closed_parts.main.body.getD i (.Pass ⟨0, 0, 0, 0⟩)
abbrev st_below : Stmt := topS 8
abbrev nm_below : List Str := ["part"]
theorem sc_below : FnScope nm_below ["part"] (defScope st_below) := ⟨rfl, rfl, rfl, by decide +kernel, rfl, by decide +kernel, by decide +kernel⟩
abbrev st_parts : Stmt := topS 9
abbrev nm_parts : List Str := ["term", "found", "waiting", "part"]
theorem sc_parts : FnScope nm_parts ["term"] (defScope st_parts) := ⟨rfl, rfl, rfl, by decide +kernel, rfl, by decide +kernel, by decide +kernel⟩
abbrev st_free_names : Stmt := topS 10
abbrev nm_free_names : List Str := ["term", "every", "bound", "part"]
theorem sc_free_names : FnScope nm_free_names ["term"] (defScope st_free_names) := ⟨rfl, rfl, rfl, by decide +kernel, rfl, by decide +kernel, by decide +kernel⟩
abbrev st__law_cell : Stmt := topS 16
abbrev nm__law_cell : List Str := ["script", "k"]
theorem sc__law_cell : FnScope nm__law_cell ["script", "k"] (defScope st__law_cell) := ⟨rfl, rfl, rfl, by decide +kernel, rfl, by decide +kernel, by decide +kernel⟩
abbrev st__law_name : Stmt := topS 19
abbrev nm__law_name : List Str := ["k", "style"]
theorem sc__law_name : FnScope nm__law_name ["k", "style"] (defScope st__law_name) := ⟨rfl, rfl, rfl, by decide +kernel, rfl, by decide +kernel, by decide +kernel⟩
abbrev st__law_same : Stmt := topS 22
abbrev nm__law_same : List Str := ["told", "due", "k", "key"]
theorem sc__law_same : FnScope nm__law_same ["told", "due"] (defScope st__law_same) := ⟨rfl, rfl, rfl, by decide +kernel, rfl, by decide +kernel, by decide +kernel⟩
abbrev st__law_at : Stmt := topS 17
abbrev nm__law_at : List Str := ["digits", "k"]
theorem sc__law_at : FnScope nm__law_at ["digits", "k"] (defScope st__law_at) := ⟨rfl, rfl, rfl, by decide +kernel, rfl, by decide +kernel, by decide +kernel⟩
abbrev st__law_digits : Stmt := topS 18
abbrev nm__law_digits : List Str := ["cell", "many", "salt", "found", "rest", "mixed", "k"]
theorem sc__law_digits : FnScope nm__law_digits ["cell", "many", "salt"] (defScope st__law_digits) := ⟨rfl, rfl, rfl, by decide +kernel, rfl, by decide +kernel, by decide +kernel⟩
abbrev st_open_names : Stmt := topS 11
abbrev nm_open_names : List Str := ["term", "part"]
theorem sc_open_names : FnScope nm_open_names ["term"] (defScope st_open_names) := ⟨rfl, rfl, rfl, by decide +kernel, rfl, by decide +kernel, by decide +kernel⟩
abbrev st_closed_parts : Stmt := topS 13
abbrev nm_closed_parts : List Str := ["term", "number", "free"]
theorem sc_closed_parts : FnScope nm_closed_parts ["term"] (defScope st_closed_parts) := ⟨rfl, rfl, rfl, by decide +kernel, rfl, by decide +kernel, by decide +kernel⟩
abbrev st_circle : Stmt := topS 14
abbrev nm_circle : List Str := ["term", "name", "found", "number", "free"]
theorem sc_circle : FnScope nm_circle ["term", "name"] (defScope st_circle) := ⟨rfl, rfl, rfl, by decide +kernel, rfl, by decide +kernel, by decide +kernel⟩
abbrev st__law_term : Stmt := topS 20
abbrev nm__law_term : List Str := ["digits", "style", "piled", "used", "digit", "k", "last", "prior", "chosen", "one"]
theorem sc__law_term : FnScope nm__law_term ["digits", "style"] (defScope st__law_term) := ⟨rfl, rfl, rfl, by decide +kernel, rfl, by decide +kernel, by decide +kernel⟩
abbrev st__law_shut : Stmt := topS 21
abbrev nm__law_shut : List Str := ["term", "name", "salt", "once"]
theorem sc__law_shut : FnScope nm__law_shut ["term", "name", "salt"] (defScope st__law_shut) := ⟨rfl, rfl, rfl, by decide +kernel, rfl, by decide +kernel, by decide +kernel⟩
abbrev st__law_circles : Stmt := topS 24
abbrev nm__law_circles : List Str := ["part", "road", "inside", "counter", "found", "at", "here", "around"]
theorem sc__law_circles : FnScope nm__law_circles ["part", "road", "inside", "counter", "found"] (defScope st__law_circles) := ⟨rfl, rfl, rfl, by decide +kernel, rfl, by decide +kernel, by decide +kernel⟩
abbrev st__law_made : Stmt := topS 23
abbrev nm__law_made : List Str := ["digits", "style", "chosen", "made", "term", "free", "k", "name"]
theorem sc__law_made : FnScope nm__law_made ["digits", "style", "chosen"] (defScope st__law_made) := ⟨rfl, rfl, rfl, by decide +kernel, rfl, by decide +kernel, by decide +kernel⟩
abbrev st__law_told : Stmt := topS 25
abbrev nm__law_told : List Str := ["term", "name", "e", "kin", "fits"]
theorem sc__law_told : FnScope nm__law_told ["term", "name"] (defScope st__law_told) := ⟨rfl, rfl, rfl, by decide +kernel, rfl, by decide +kernel, by decide +kernel⟩
abbrev st__law_right : Stmt := topS 26
abbrev nm__law_right : List Str := ["term", "each", "found", "many", "used", "met", "name", "k", "strange", "number"]
theorem sc__law_right : FnScope nm__law_right ["term", "each"] (defScope st__law_right) := ⟨rfl, rfl, rfl, by decide +kernel, rfl, by decide +kernel, by decide +kernel⟩
abbrev st_law : Stmt := topS 27
abbrev nm_law : List Str := ["script", "many", "style", "first", "digits", "second"]
theorem sc_law : FnScope nm_law ["script"] (defScope st_law) := ⟨rfl, rfl, rfl, by decide +kernel, rfl, by decide +kernel, by decide +kernel⟩
abbrev si_NameFault : Stmt := inCls (topS 2) 0
theorem su_NameFault : SuW si_NameFault "self" "name" "name" := ⟨⟨_, _, _, _, _, _, _, _, _, _, _, _, rfl, fun env => ⟨_, rfl⟩⟩, by decide, by decide, by decide, by decide, by decide, rfl, rfl, rfl, rfl, by decide +kernel, rfl, rfl, rfl, ⟨_, rfl, rfl⟩, fun _ _ _ _ _ _ _ _ _ us hl => match us, hl with | [_, _], _ => rfl⟩
structure Top (W : Wm) : Prop where
  b_ValueError : W.mg "ValueError" = none
  b_abs : W.mg "abs" = none
  b_bool : W.mg "bool" = none
  b_dict : W.mg "dict" = none
  b_enumerate : W.mg "enumerate" = none
  b_int : W.mg "int" = none
  b_isinstance : W.mg "isinstance" = none
  b_len : W.mg "len" = none
  b_list : W.mg "list" = none
  b_range : W.mg "range" = none
  b_str : W.mg "str" = none
  b_tuple : W.mg "tuple" = none
  d_below : DefD W "below" st_below ["part"]
  d_parts : DefD W "parts" st_parts ["term"]
  d_free_names : DefD W "free_names" st_free_names ["term"]
  d__law_cell : DefD W "_law_cell" st__law_cell ["script", "k"]
  d__law_name : DefD W "_law_name" st__law_name ["k", "style"]
  d__law_same : DefD W "_law_same" st__law_same ["told", "due"]
  d__law_at : DefD W "_law_at" st__law_at ["digits", "k"]
  d__law_digits : DefD W "_law_digits" st__law_digits ["cell", "many", "salt"]
  d_open_names : DefD W "open_names" st_open_names ["term"]
  d_closed_parts : DefD W "closed_parts" st_closed_parts ["term"]
  d_circle : DefD W "circle" st_circle ["term", "name"]
  d__law_term : DefD W "_law_term" st__law_term ["digits", "style"]
  d__law_shut : DefD W "_law_shut" st__law_shut ["term", "name", "salt"]
  d__law_circles : DefD W "_law_circles" st__law_circles ["part", "road", "inside", "counter", "found"]
  d__law_made : DefD W "_law_made" st__law_made ["digits", "style", "chosen"]
  d__law_told : DefD W "_law_told" st__law_told ["term", "name"]
  d__law_right : DefD W "_law_right" st__law_right ["term", "each"]
  l_law : LawD W st_law
  cl_BadName : W.mg "BadName" = some (.ref (clsA W "BadName"))
  cl_DrawnonceError : W.mg "DrawnonceError" = some (.ref (clsA W "DrawnonceError"))
  cl_NameFault : W.mg "NameFault" = some (.ref (clsA W "NameFault"))
  cl_Repeated : W.mg "Repeated" = some (.ref (clsA W "Repeated"))
  cl_UnknownName : W.mg "UnknownName" = some (.ref (clsA W "UnknownName"))
  cl_Unused : W.mg "Unused" = some (.ref (clsA W "Unused"))
  ec_UnknownName : ExcC W.K (clsA W "UnknownName")
  ex_UnknownName_UnknownName : PySem.W.exmOne W.K (.ref (clsA W "UnknownName")) (.ref (clsA W "UnknownName")) = some true
  ix_UnknownName_BadName : PySem.W.kitOne W.K (.ref (clsA W "UnknownName")) (.ref (clsA W "BadName")) = some false
  ix_UnknownName_DrawnonceError : PySem.W.kitOne W.K (.ref (clsA W "UnknownName")) (.ref (clsA W "DrawnonceError")) = some true
  ix_UnknownName_NameFault : PySem.W.kitOne W.K (.ref (clsA W "UnknownName")) (.ref (clsA W "NameFault")) = some true
  ix_UnknownName_Repeated : PySem.W.kitOne W.K (.ref (clsA W "UnknownName")) (.ref (clsA W "Repeated")) = some false
  ix_UnknownName_Unused : PySem.W.kitOne W.K (.ref (clsA W "UnknownName")) (.ref (clsA W "Unused")) = some false
  ixv_UnknownName : PySem.W.kitOne W.K (.ref (clsA W "UnknownName")) (.type "ValueError") = some true
  rf_UnknownName : RaiseF W "UnknownName" "name"
section
variable {W : Wm} {base : Heap}
abbrev c_below : Con := fun ds μ Q E => ∃ t : Trm, ds = [t.dat] ∧ Q (.lst (t.subs.map Trm.dat)) μ
theorem fn_below (T : Top W) : FnD W base 1 "below" ["part"] c_below := by
  refine DefD.ok (k := 0) T.d_below sc_below (fun ds μ Q E ⟨t, e, q⟩ => by rw [e]; rfl) fun f cdv A outer s H E hr c ds μ QA EA ⟨t, e, q⟩ => ⟨_, _, (dss_cons (ds_if (dt_cmp (op_eqAny hr.units) sim_eq (de_ix (hu_of hr) (de_var 0) de_int (fun _ _ => rfl)) de_str (nomark _))
 (dss_one (ds_ret (de_lst (da_cons (de_ix (hu_of hr) (de_var 0) de_int (fun _ _ => rfl)) da_nil))))
 dss_nil)
 (dss_cons (ds_if (dt_cmp (op_eqAny hr.units) sim_eq (de_ix (hu_of hr) (de_var 0) de_int (fun _ _ => rfl)) de_str (nomark _))
 (dss_one (ds_ret (de_lst (da_cons (de_ix (hu_of hr) (de_var 0) de_int (fun _ _ => rfl)) (da_cons (de_ix (hu_of hr) (de_var 0) de_int (fun _ _ => rfl)) da_nil)))))
 dss_nil)
 (dss_one (ds_ret (de_lst da_nil))))), ?_⟩
  subst e
  replace q := fgt.here q
  cases t <;> simp [startD, Trm.dat, Trm.subs, bodyE] at q ⊢ <;> exact q
abbrev c_parts : Con := fun ds μ Q E => ∃ t : Trm, ds = [t.dat] ∧ t.nodes ≤ 1000 ∧ Q (.lst (t.parts.map Trm.dat)) μ
theorem fn_parts (T : Top W) : FnD W base 2 "parts" ["term"] c_parts := by
  have F_below := fn_below (base := base) T
  refine DefD.ok (k := 1) T.d_parts sc_parts (fun ds μ Q E ⟨t, e, hn, q⟩ => by rw [e]; rfl) fun f cdv A outer s H E hr c ds μ QA EA ⟨t, e, hn, q⟩ => ⟨_, _, (dss_cons (ds_set c 1 (de_lstM da_nil))
 (dss_cons (ds_set c 2 (de_lstM (da_cons (de_var 0) da_nil)))
 (dss_cons (ds_while c (dt_tru (de_var 2))
 (dss_cons (ds_set c 3 (de_bm0 sim_pop PySem.F.plainAttrs_list PySem.F.slot_list_pop PySem.F.type_list_pop mt_pop (de_var 2)))
 (dss_cons (ds_expr (de_bm sim_app PySem.F.plainAttrs_list PySem.F.slot_list_append PySem.F.type_list_append mt_append (de_var 1) (da_cons (de_var 3) da_nil)))
 (dss_one (ds_expr (de_bm sim_ext PySem.F.plainAttrs_list PySem.F.slot_list_extend PySem.F.type_list_extend mt_extend (de_var 2) (da_cons (de_rev (de_call F_below c hr (by omega) (da_cons (de_var 3) da_nil))) da_nil)))))))
 (dss_one (ds_ret (de_frz (de_var 1))))))), ?_⟩
  subst e
  simp [startD, bodyE]
  intro f hf w hw
  have fw : f ≠ w := fun z => by
    subst z
    simp [mset_same] at hw
  have hw0 : μ w = none := by simpa [mset_ne fw.symm] using hw
  refine ⟨fun m ρ' μ' => ∃ (done stk : List Trm) (y : Option Dat), ρ' = [some t.dat, some (.cell f), some (.cell w), y] ∧ μ' = mset (mset μ f (.lst (done.map Trm.dat))) w (.lst (stk.reverse.map Trm.dat)) ∧ done ++ stk.flatMap Trm.parts = t.parts ∧ m = (stk.flatMap Trm.parts).length, ⟨_, [], [t], none, rfl, rfl, by simp, rfl⟩, ?_⟩
  rintro m ρ' μ' ⟨done, stk, y, rfl, rfl, hd, rfl⟩
  have hl := congrArg List.length hd
  have pl := t.parts_len
  rw [List.length_append] at hl
  cases stk with
  | nil =>
    simp [truB_cell mset_same]
    have hd' : done = t.parts := by simpa using hd
    refine ⟨done.map Trm.dat, by rw [mset_ne fw, mset_same], μ, ?_, by rw [hd']; exact q⟩
    exact (((DL.Sub.refl μ).mset hf).mset hw0).mdel hf
  | cons s r =>
    have sp := s.parts_pos
    rw [List.flatMap_cons, List.length_append] at hl
    have es : s.parts = s :: s.subs.flatMap Trm.parts := s.parts_subs
    simp [mset_ne fw, mset_ne fw.symm, and_assoc]
    refine ⟨by omega, s, rfl, ?_⟩
    have e1 : (s.subs.flatMap Trm.parts).length + 1 = s.parts.length := by rw [es, List.length_cons]
    have l1 : s.subs.length ≤ 2 := s.subs_len
    have l2 := len_le_parts r
    simp [mset_ne fw, mset_ne fw.symm, and_assoc]
    refine ⟨by omega, _, ?_, done ++ [s], s.subs ++ r, ?_, ?_, rfl⟩
    · simp only [List.map_append, List.sum_append]
      rw [List.length_flatMap] at e1
      omega
    · simp [mset_in fw]
    · rw [← hd]
      simp [es]
abbrev c_free_names : Con := fun ds μ Q E => ∃ t : Trm, ds = [t.dat] ∧ t.nodes ≤ 1000 ∧ Q (.lst (t.free.map .str)) μ
theorem fn_free_names (T : Top W) : FnD W base 3 "free_names" ["term"] c_free_names := by
  have F_parts := fn_parts (base := base) T
  refine DefD.ok (k := 2) T.d_free_names sc_free_names (fun ds μ Q E ⟨t, e, hn, q⟩ => by rw [e]; rfl) fun f cdv A outer s H E hr c ds μ QA EA ⟨t, e, hn, q⟩ => ⟨_, _, (dss_cons (ds_set c 1 (de_call F_parts c hr (by omega) (da_cons (de_var 0) da_nil)))
 (dss_cons (ds_set c 2 (de_sc (own := [("part", 3)]) c (di_seq (de_var 1)) (blkOk_by (N := nm_free_names) (sc := defScope st_free_names) (by decide +kernel)) (fun _ _ _ _ _ => ⟨_, (dgv_name (ctx_blk c) 3)⟩) (fun _ _ _ _ _ => ⟨_, (dts_one (dt_cmp (op_eqAny hr.units) sim_eq (de_ix (hu_of hr) (de_var 3) de_int (fun _ _ => rfl)) de_str (nomark _)))⟩) (fun _ _ _ _ _ => ⟨_, (de_ix (hu_of hr) (de_var 3) de_int (fun _ _ => rfl))⟩)))
 (dss_one (ds_ret (de_lc (own := [("part", 3)]) c (di_seq (de_var 1)) (blkOk_by (N := nm_free_names) (sc := defScope st_free_names) (by decide +kernel)) (fun _ _ _ _ _ => ⟨_, (dgv_name (ctx_blk c) 3)⟩) (fun _ _ _ _ _ => ⟨_, (dts_one (DW.dt (dw_and (dt_cmp (op_eqAny hr.units) sim_eq (de_ix (hu_of hr) (de_var 3) de_int (fun _ _ => rfl)) de_str (nomark _)) (dw_and1 (dt_cmp (op_notInAny (hu_of hr)) sim_notIn (de_ix (hu_of hr) (de_var 3) de_int (fun _ _ => rfl)) (de_var 2) (by rfl))))))⟩) (fun _ _ _ _ _ => ⟨_, (de_ix (hu_of hr) (de_var 3) de_int (fun _ _ => rfl))⟩)))))), ?_⟩
  subst e
  replace q := fgt.here q
  simp [startD, bodyE] at q ⊢
  refine ⟨t, rfl, hn, ?_⟩
  simp
  have pl := t.parts_len
  refine scL_pure Trm.dat (fun t => t.isBind) (fun t => .str t.head) (fun t => .inr t.head) (fun _ => rfl) trivial t.parts [] (fun s hs R1 R0 h1 h0 => ?_) (by simp; omega) ?_
  · cases s <;> simp [Trm.dat, Trm.isBind, Trm.head] at h1 h0 ⊢ <;> assumption
  · have hb : ((t.parts.filter fun t => t.isBind).map fun t => (Sum.inr t.head : Key)) = t.binds.map Sum.inr := by rw [← t.binds_parts, List.map_map]; rfl
    simp only [List.nil_append, hb]
    refine lcL_pure Trm.dat (fun s => s.isName && decide (s.head ∉ t.binds)) (fun s => .str s.head) trivial t.parts [] (fun s hs R1 R0 h1 h0 => ?_) (by simp; omega) ?_
    · cases s <;> simp [Trm.dat, Trm.isName, Trm.head] at h1 h0 ⊢ <;> try assumption
      rename_i x
      by_cases hx : x ∈ t.binds
      · have h := inB_setS (μ := μ) (ks := t.binds) (i := x)
        rw [decide_eq_true hx] at h
        exact .inr ⟨h, h0 (decide_eq_false fun z => z hx)⟩
      · have h := inB_setS (μ := μ) (ks := t.binds) (i := x)
        rw [decide_eq_false hx] at h
        exact .inl ⟨h, h1 (decide_eq_true hx)⟩
    · simp only [List.nil_append]
      rw [show ((t.parts.filter fun s => s.isName && decide (s.head ∉ t.binds)).map fun s => Dat.str s.head) = t.free.map .str from t.free_parts]
      exact q
abbrev c__law_cell : Con := fun ds μ Q E => ∃ (ns : List Int) (k : Nat), ds = [.ro (ns.map .int), .int k] ∧ ∀ i, Q (.int i) μ
theorem fn__law_cell (T : Top W) : FnD W base 1 "_law_cell" ["script", "k"] c__law_cell := by
  refine DefD.ok (k := 0) T.d__law_cell sc__law_cell (fun ds μ Q E ⟨ns, k, e, q⟩ => by rw [e]; rfl) fun f cdv A outer s H E hr c ds μ QA EA ⟨ns, k, e, q⟩ => ⟨_, _, (dss_cons (ds_if (dt_cmp op_lt sim_lt (de_var 1) (de_len T.b_len (da_cons (de_var 0) da_nil)) (nomark _))
 (dss_one (ds_ret (de_ix (hu_of hr) (de_var 0) (de_var 1) (fun _ _ => rfl))))
 dss_nil)
 (dss_one (ds_ret de_int))), ?_⟩
  subst e
  replace q := fun i => fgt.here (q i)
  simp [startD, bodyE] at q ⊢
  by_cases h : k < ns.length
  · simp [h, atI_nat']
    exact .inr (q _)
  · simp [h]
    exact ⟨by omega, q 0⟩
abbrev c__law_name : Con := fun ds μ Q E => ∃ (k s : Nat), ds = [.int k, .int s] ∧ k ≤ 70 ∧ s < 5 ∧ Q (.str (nameOf s k)) μ
theorem fn__law_name (T : Top W) : FnD W base 1 "_law_name" ["k", "style"] c__law_name := by
  refine DefD.ok (k := 0) T.d__law_name sc__law_name (fun ds μ Q E ⟨k, i, e, hk, hs, q⟩ => by rw [e]; rfl) fun f cdv A outer s H E hr c ds μ QA EA ⟨k, i, e, hk, hs, q⟩ => ⟨_, _, (dss_cons (ds_if (dt_cmp (op_eqAny hr.units) sim_eq (de_op op_mod sim_mod (de_var 1) de_int) de_int (nomark _))
 (dss_one (ds_ret (de_op op_addAny sim_add de_str (de_strI T.b_str (da_cons (de_op op_sub sim_sub de_int (de_var 0)) da_nil)))))
 dss_nil)
 (dss_one (ds_ret (de_op op_addAny sim_add (de_ix (hu_of hr) (de_lst (da_cons de_str (da_cons de_str (da_cons de_str (da_cons de_str (da_cons de_str da_nil)))))) (de_op op_mod sim_mod (de_var 1) de_int) (fun _ _ => rfl)) (de_strI T.b_str (da_cons (de_var 0) da_nil)))))), ?_⟩
  subst e
  replace q := fgt.here q
  have h1 := repr_len k (by omega)
  have h2 := repr_len' k (by omega)
  have h3 := log2_small k (by omega)
  have h4 : (70 - (k : Int)).natAbs.log2 < 1920 := log2_small _ (by omega)
  have l1 : (Str.ofString "n").length = 1 := by decide
  have l2 : (Str.ofString "v").length = 1 := by decide
  have l3 : (Str.ofString "q7").length = 2 := by decide
  have l4 : (Str.ofString "zz").length = 2 := by decide
  have l5 : (Str.ofString "long").length = 4 := by decide
  have hi : i = 0 ∨ i = 1 ∨ i = 2 ∨ i = 3 ∨ i = 4 := by omega
  rcases hi with rfl | rfl | rfl | rfl | rfl <;> simp [startD, bodyE, nameOf, h3, h4, atI, ixN, l1, l2, l3, l4, l5] at q h1 h2 ⊢ <;> exact ⟨by omega, q⟩
abbrev c__law_same (n : Nat) : Con := fun ds μ Q E => ∃ x y, ds = [x, y] ∧ seenD μ x = y ∧ samey n y = true ∧ Q (.bl true) μ
theorem fn__law_same (T : Top W) : ∀ n, FnD W base (n + 0) "_law_same" ["told", "due"] (c__law_same n)
  | 0 => (T.d__law_same.none.imp (C' := c__law_same 0) fun ds μ Q E ⟨x, y, e, hx, hy, q⟩ => by cases y <;> simp [samey] at hy).mono (by omega)
  | n + 1 => by
    have F__law_same := fn__law_same T n
    refine FnD.mono (j := n + 0 + 1) (DefD.ok (k := n + 0) T.d__law_same sc__law_same (fun ds μ Q E ⟨x, y, e, hx, hy, q⟩ => by rw [e]; rfl) fun f cdv A outer s H E hr c ds μ QA EA ⟨x, y, e, hx, hy, q⟩ => ⟨_, _, (dss_cons (ds_if (dt_cmp op_isN sim_is (de_var 1) de_non (nomark _))
 (dss_one (ds_ret (de_cmp op_isN sim_is (de_var 0) de_non (nomark _))))
 dss_nil)
 (dss_cons (ds_if (dt_val (de_isi T.b_isinstance (da_cons (de_var 1) (da_cons (de_ty T.b_bool) da_nil))))
 (dss_one (ds_ret (de_and (de_isi T.b_isinstance (da_cons (de_var 0) (da_cons (de_ty T.b_bool) da_nil))) (de_one (de_cmp (op_eqAny hr.units) sim_eq (de_var 0) (de_var 1) (nomark _))))))
 dss_nil)
 (dss_cons (ds_if (dt_val (de_isi T.b_isinstance (da_cons (de_var 1) (da_cons (de_ty T.b_int) da_nil))))
 (dss_one (ds_ret (de_and (de_isi T.b_isinstance (da_cons (de_var 0) (da_cons (de_ty T.b_int) da_nil))) (de_and (de_not (de_isi T.b_isinstance (da_cons (de_var 0) (da_cons (de_ty T.b_bool) da_nil)))) (de_one (de_cmp (op_eqAny hr.units) sim_eq (de_var 0) (de_var 1) (nomark _)))))))
 dss_nil)
 (dss_cons (ds_if (dt_val (de_isi T.b_isinstance (da_cons (de_var 1) (da_cons (de_ty T.b_str) da_nil))))
 (dss_one (ds_ret (de_and (de_isi T.b_isinstance (da_cons (de_var 0) (da_cons (de_ty T.b_str) da_nil))) (de_one (de_cmp (op_eqAny hr.units) sim_eq (de_var 0) (de_var 1) (nomark _))))))
 dss_nil)
 (dss_cons (ds_if (dt_val (de_isi T.b_isinstance (da_cons (de_var 1) (da_cons (de_ty T.b_dict) da_nil))))
 (dss_cons (ds_if (DW.dt (dw_or (dt_not (dt_val (de_isi T.b_isinstance (da_cons (de_var 0) (da_cons (de_ty T.b_dict) da_nil))))) (dw_or1 (dt_cmp (op_neAny hr.units) sim_ne (de_len T.b_len (da_cons (de_var 0) da_nil)) (de_len T.b_len (da_cons (de_var 1) da_nil)) (nomark _)))))
 (dss_one (ds_ret de_bl))
 dss_nil)
 (dss_one (ds_ret (de_cmp (op_eqAny hr.units) sim_eq (de_lc (own := [("key", 3)]) c (di_seq (de_var 1)) (blkOk_by (N := nm__law_same) (sc := defScope st__law_same) (by decide +kernel)) (fun _ _ _ _ _ => ⟨_, (dgv_name (ctx_blk c) 3)⟩) (fun _ _ _ _ _ => ⟨_, (dts_one (DW.dt (dw_or (dt_cmp (op_notInAny (hu_of hr)) sim_notIn (de_var 3) (de_var 0) (by rfl)) (dw_or1 (dt_not (dt_val (de_call F__law_same (ctx_blk c) hr (by omega) (da_cons (de_ix (hu_of hr) (de_var 0) (de_var 3) (fun _ _ => rfl)) (da_cons (de_ix (hu_of hr) (de_var 1) (de_var 3) (fun _ _ => rfl)) da_nil)))))))))⟩) (fun _ _ _ _ _ => ⟨_, (de_var 3)⟩)) (de_lst da_nil) (nomark _)))))
 dss_nil)
 (dss_cons (ds_if (DW.dt (dw_or (dt_cmp (op_neAny hr.units) sim_ne (de_isi T.b_isinstance (da_cons (de_var 1) (da_cons (de_ty T.b_tuple) da_nil))) (de_isi T.b_isinstance (da_cons (de_var 0) (da_cons (de_ty T.b_tuple) da_nil))) (nomark _)) (dw_or1 (dt_cmp (op_neAny hr.units) sim_ne (de_isi T.b_isinstance (da_cons (de_var 1) (da_cons (de_ty T.b_list) da_nil))) (de_isi T.b_isinstance (da_cons (de_var 0) (da_cons (de_ty T.b_list) da_nil))) (nomark _)))))
 (dss_one (ds_ret de_bl))
 dss_nil)
 (dss_cons (ds_if (DW.dt (dw_or (dt_not (dt_val (de_isiT T.b_isinstance (de_var 0) (da_cons (de_ty T.b_tuple) (da_cons (de_ty T.b_list) da_nil))))) (dw_or1 (dt_cmp (op_neAny hr.units) sim_ne (de_len T.b_len (da_cons (de_var 0) da_nil)) (de_len T.b_len (da_cons (de_var 1) da_nil)) (nomark _)))))
 (dss_one (ds_ret de_bl))
 dss_nil)
 (dss_cons (ds_for c (di_rg1 T.b_range (da_cons (de_len T.b_len (da_cons (de_var 1) da_nil)) da_nil)) (dg_name c 2)
 (dss_one (ds_if (dt_not (dt_val (de_call F__law_same c hr (by omega) (da_cons (de_ix (hu_of hr) (de_var 0) (de_var 2) (fun _ _ => rfl)) (da_cons (de_ix (hu_of hr) (de_var 1) (de_var 2) (fun _ _ => rfl)) da_nil)))))
 (dss_one (ds_ret de_bl))
 dss_nil)))
 (dss_one (ds_ret de_bl)))))))))), ?_⟩) (by omega)
    subst e
    replace q := fgt.here q
    simp only [startD, bodyE]
    have inner : ∀ (us : List Dat) (z : Dat) (D : AEnds) (y2 y3 : Option Dat), D.rt = fgt QA → (∀ ρ, D.nx ρ μ) → us.length ≤ 100000 → us.all (samey n) = true → (∀ (k : Nat) d, us[k]? = some d → ixOf μ x (.int k) d ∧ ixOf μ z (.int k) d) → 
        forL (fun x => True) (gNm 2) (sIf (tstNot (tstB (aCall (c__law_same n) (aCons (aOp fIx (aVar 0) (aVar 2)) (aCons (aOp fIx (aVar 1) (aVar 2)) aNil))))) (sRet (aC (.bl false))) sNext) D (rngD 0 us.length) [some x, some z, y2, y3] μ := by
      intro us z D y2 y3 hD hnx hl hs hix
      refine forL_rng (fun k ρ μ' => ∃ y2, ρ = [some x, some z, y2, y3] ∧ μ' = μ) ?_ ?_ ⟨y2, rfl, rfl⟩
      · rintro k ρ μ' N hk ⟨y2, rfl, rfl⟩ hN
        obtain ⟨h1, h2⟩ := hix k us[k] (List.getElem?_eq_getElem hk)
        simp
        have hsk := List.all_eq_true.mp hs _ (List.getElem_mem hk)
        refine ⟨_, h1, _, h2, _, _, rfl, ?_, hsk, ?_⟩
        · generalize us[k] = d at hsk
          cases d <;> first | rfl | (cases n <;> simp [samey] at hsk)
        · simp
          exact hN _ _ ⟨_, rfl, rfl⟩
      · rintro ρ μ' ⟨y2, rfl, rfl⟩
        exact ⟨trivial, hnx _⟩
    rcases seenD_eq hx with rfl | ⟨p, us, rfl, hp, rfl⟩
    · cases x with
      | bl b => simpa using q
      | int b => simpa using q
      | str b => simpa using q
      | tup us =>
        simp [samey] at hy
        simp [tys_2]
        exact ⟨by omega, inner us _ _ _ _ rfl (fun ρ => q) (by omega) (by simpa using hy.2) fun k d hk => ⟨by simp [atI_nat', hk], by simp [atI_nat', hk]⟩⟩
      | lst us =>
        simp [samey] at hy
        simp [tys_2]
        exact ⟨by omega, inner us _ _ _ _ rfl (fun ρ => q) (by omega) (by simpa using hy.2) fun k d hk => ⟨by simp [atI_nat', hk], by simp [atI_nat', hk]⟩⟩
      | _ => simp [samey] at hy
    · simp [samey] at hy
      simp [tys_2, tyD_cell hp, hp]
      exact ⟨by omega, inner us _ _ _ _ rfl (fun ρ => q) (by omega) (by simpa using hy.2) fun k d hk => ⟨by simp [hp, atI_nat', hk], by simp [atI_nat', hk]⟩⟩
abbrev c__law_at : Con := fun ds μ Q E => ∃ (l : List Int) (k : Nat), ds = [.lst (l.map .int), .int k] ∧ ∀ i, Q (.int i) μ
theorem fn__law_at (T : Top W) : FnD W base 1 "_law_at" ["digits", "k"] c__law_at := by
  refine DefD.ok (k := 0) T.d__law_at sc__law_at (fun ds μ Q E ⟨l, k, e, q⟩ => by rw [e]; rfl) fun f cdv A outer s H E hr c ds μ QA EA ⟨l, k, e, q⟩ => ⟨_, _, (dss_cons (ds_if (dt_cmp op_lt sim_lt (de_var 1) (de_len T.b_len (da_cons (de_var 0) da_nil)) (nomark _))
 (dss_one (ds_ret (de_ix (hu_of hr) (de_var 0) (de_var 1) (fun _ _ => rfl))))
 dss_nil)
 (dss_one (ds_ret de_int))), ?_⟩
  subst e
  replace q := fun i => fgt.here (q i)
  simp [startD, bodyE] at q ⊢
  by_cases h : k < l.length
  · simp [h, atI_nat']
    exact .inr (q _)
  · simp [h]
    exact ⟨by omega, q 0⟩
abbrev c__law_digits : Con := fun ds μ Q E => ∃ (i : Int) (m : Nat) (j : Int), ds = [.int i, .int m, .int j] ∧ m ≤ 1000 ∧ ∀ l : List Int, l.length ≤ m → (∀ x ∈ l, 0 ≤ x ∧ x < 60) → Q (.lst (l.map .int)) μ
theorem fn__law_digits (T : Top W) : FnD W base 1 "_law_digits" ["cell", "many", "salt"] c__law_digits := by
  refine DefD.ok (k := 0) T.d__law_digits sc__law_digits (fun ds μ Q E ⟨i, m, j, e, hm, q⟩ => by rw [e]; rfl) fun f cdv A outer s H E hr c ds μ QA EA ⟨i, m, j, e, hm, q⟩ => ⟨_, _, (dss_cons (ds_set c 3 (de_lstM da_nil))
 (dss_cons (ds_set c 4 (de_abs T.b_abs (da_cons (de_var 0) da_nil)))
 (dss_cons (ds_if (dt_cmp op_ge sim_ge (de_var 4) (de_op op_pow sim_pow de_int de_int) (nomark _))
 (dss_cons (ds_for c (di_rg1 T.b_range (da_cons (de_var 1) da_nil)) (dg_name c 6)
 (dss_one (ds_if (dt_cmp op_gt sim_gt (de_var 4) de_int (nomark _))
 (dss_cons (ds_expr (de_bm sim_app PySem.F.plainAttrs_list PySem.F.slot_list_append PySem.F.type_list_append mt_append (de_var 3) (da_cons (de_op op_mod sim_mod (de_var 4) de_int) da_nil)))
 (dss_one (ds_set c 4 (de_op op_fdiv sim_div (de_var 4) de_int))))
 dss_nil)))
 (dss_one (ds_ret (de_frz (de_var 3)))))
 dss_nil)
 (dss_cons (ds_set c 5 (de_op op_addAny sim_add (de_op op_addAny sim_add (de_op op_mulAny sim_mul (de_var 4) de_int) (de_op op_mulAny sim_mul (de_var 2) de_int)) de_int))
 (dss_cons (ds_for c (di_rg1 T.b_range (da_cons (de_var 1) da_nil)) (dg_name c 6)
 (dss_cons (ds_set c 5 (de_op op_mod sim_mod (de_int1 T.b_int (da_cons (de_op op_addAny sim_add (de_op op_addAny sim_add (de_op op_mulAny sim_mul (de_var 5) de_int) de_int) (de_var 6)) da_nil)) de_int))
 (dss_one (ds_expr (de_bm sim_app PySem.F.plainAttrs_list PySem.F.slot_list_append PySem.F.type_list_append mt_append (de_var 3) (da_cons (de_op op_mod sim_mod (de_op op_fdiv sim_div (de_op op_mod sim_mod (de_int1 T.b_int (da_cons (de_op op_addAny sim_add (de_op op_mulAny sim_mul (de_var 5) de_int) (de_var 2)) da_nil)) de_int) de_int) de_int) da_nil))))))
 (dss_one (ds_ret (de_frz (de_var 3))))))))), ?_⟩
  subst e
  simp [startD, bodyE]
  intro p hp
  have fin : ∀ l : List Int, l.length ≤ m → (∀ x ∈ l, 0 ≤ x ∧ x < 60) → fgt QA (.lst (l.map .int)) (mdel (mset μ p (.lst (l.map .int))) p) := fun l h1 h2 => ⟨μ, ((DL.Sub.refl μ).mset hp).mdel hp, q l h1 h2⟩
  generalize (if i < 0 then -i else i) = r
  have hm' : (m : Int) < 4611686018427387904 := by omega
  by_cases h : 1000000000000000000 ≤ r
  · refine .inr ⟨h, hm', ?_⟩
    refine forL_rng (fun k ρ μ' => ∃ (l : List Int) (r : Int) (y z : Option Dat), ρ = [some (.int i), some (.int m), some (.int j), some (.cell p), some (.int r), y, z] ∧ μ' = mset μ p (.lst (l.map .int)) ∧ l.length ≤ k ∧ ∀ x ∈ l, 0 ≤ x ∧ x < 60) ?_ ?_ ⟨[], r, none, none, rfl, rfl, Nat.le_refl _, by simp⟩
    · rintro k ρ μ' N hk ⟨l, r, y, z, rfl, rfl, hl, hx⟩ hN
      by_cases h0 : r > 0
      · simp [h0]
        refine ⟨by omega, hN _ _ ⟨l ++ [r % 60], r / 60, y, _, rfl, by simp, by simp; omega, ?_⟩⟩
        intro x hx'
        rcases List.mem_append.mp hx' with h | h
        · exact hx x h
        · simp at h
          omega
      · simp [h0]
        exact hN _ _ ⟨l, r, y, _, rfl, rfl, by omega, hx⟩
    · rintro ρ μ' ⟨l, r, y, z, rfl, rfl, hl, hx⟩
      simp
      exact fin l hl hx
  · refine .inl ⟨by omega, hm', ?_⟩
    refine forL_rng (fun k ρ μ' => ∃ (l : List Int) (r y : Int) (z : Option Dat), ρ = [some (.int i), some (.int m), some (.int j), some (.cell p), some (.int r), some (.int y), z] ∧ μ' = mset μ p (.lst (l.map .int)) ∧ l.length ≤ k ∧ ∀ x ∈ l, 0 ≤ x ∧ x < 60) ?_ ?_ ⟨[], r, _, none, rfl, rfl, Nat.le_refl _, by simp⟩
    · rintro k ρ μ' N hk ⟨l, r, y, z, rfl, rfl, hl, hx⟩ hN
      simp
      refine ⟨by omega, hN _ _ ⟨l ++ [_], r, _, _, rfl, by simp; rfl, by simp; omega, ?_⟩⟩
      intro x hx'
      rcases List.mem_append.mp hx' with h | h
      · exact hx x h
      · simp at h
        omega
    · rintro ρ μ' ⟨l, r, y, z, rfl, rfl, hl, hx⟩
      simp
      exact fin l hl hx
abbrev c_open_names : Con := fun ds μ Q E => ∃ t : Trm, ds = [t.dat] ∧ t.nodes ≤ 1000 ∧ Q (.lst (t.parts.map fun p => .lst (p.free.map .str))) μ
theorem fn_open_names (T : Top W) : FnD W base 4 "open_names" ["term"] c_open_names := by
  have F_free_names := fn_free_names (base := base) T
  have F_parts := fn_parts (base := base) T
  refine DefD.ok (k := 3) T.d_open_names sc_open_names (fun ds μ Q E ⟨t, e, hn, q⟩ => by rw [e]; rfl) fun f cdv A outer s H E hr c ds μ QA EA ⟨t, e, hn, q⟩ => ⟨_, _, (dss_one (ds_ret (de_lc (own := [("part", 1)]) c (di_seq (de_call F_parts c hr (by omega) (da_cons (de_var 0) da_nil))) (blkOk_by (N := nm_open_names) (sc := defScope st_open_names) (by decide +kernel)) (fun _ _ _ _ _ => ⟨_, (dgv_name (ctx_blk c) 1)⟩) (fun _ _ _ _ _ => ⟨_, dts_nil⟩) (fun _ _ _ _ _ => ⟨_, (de_call F_free_names (ctx_blk c) hr (by omega) (da_cons (de_var 1) da_nil))⟩)))), ?_⟩
  subst e
  replace q := fgt.here q
  simp [startD, bodyE] at q ⊢
  refine ⟨t, rfl, hn, ?_⟩
  simp
  have pl := t.parts_len
  refine lcL_pure Trm.dat (fun _ => true) (fun p => .lst (p.free.map .str)) trivial t.parts [] (fun s hs R1 R0 h1 h0 => ?_) (by simp; omega) ?_
  · simp
    refine ⟨s, rfl, ?_, ?_⟩
    · have := parts_nodes t s hs
      omega
    · simpa using h1 rfl
  · rw [List.filter_eq_self.mpr (fun _ _ => rfl)]
    exact q
abbrev c_closed_parts : Con := fun ds μ Q E => ∃ t : Trm, ds = [t.dat] ∧ t.nodes ≤ 1000 ∧ (∀ x ∈ t.uses, PyData.strOk x = true) ∧ Q (.tup ((clos t).map fun (k : Nat) => .int k)) μ
theorem fn_closed_parts (T : Top W) : FnD W base 5 "closed_parts" ["term"] c_closed_parts := by
  have F_open_names := fn_open_names (base := base) T
  refine DefD.ok (k := 4) T.d_closed_parts sc_closed_parts (fun ds μ Q E ⟨t, e, hn, hs, q⟩ => by rw [e]; rfl) fun f cdv A outer s H E hr c ds μ QA EA ⟨t, e, hn, hs, q⟩ => ⟨_, _, (dss_one (ds_ret (de_tuple T.b_tuple (da_cons (de_lc (own := [("number", 1), ("free", 2)]) c (di_en T.b_enumerate (de_call F_open_names c hr (by omega) (da_cons (de_var 0) da_nil))) (blkOk_by (N := nm_closed_parts) (sc := defScope st_closed_parts) (by decide +kernel)) (fun _ _ _ _ _ => ⟨_, (dgv_tup (n := 2) (ctx_blk c) (dgsv_cons (ctx_blk c) 1 (dgsv_cons (ctx_blk c) 2 dgsv_nil)))⟩) (fun _ _ _ _ _ => ⟨_, (dts_one (dt_cmp (op_eqAny hr.units) sim_eq (de_var 2) (de_lst da_nil) (nomark _)))⟩) (fun _ _ _ _ _ => ⟨_, (de_var 1)⟩)) da_nil)))), ?_⟩
  subst e
  replace q := fgt.here q
  simp [startD, bodyE] at q ⊢
  refine ⟨t, rfl, hn, ?_⟩
  simp
  have pl := t.parts_len
  rw [enumD_map]
  refine lcL_pure (fun p : Trm × Nat => Dat.tup [.int (p.2 : Nat), .lst (p.1.free.map .str)]) (fun p => decide (p.1.free = [])) (fun p => .int (p.2 : Nat)) trivial t.parts.zipIdx [] (fun z hz R1 R0 h1 h0 => ?_) (by simp; omega) ?_
  · have hm := List.fst_mem_of_mem_zipIdx hz
    simp
    refine fEq_of (plain_strs fun x hx => hs x (parts_uses t _ hm x (mem_fr.mp hx).1)) plain_nil ?_
    by_cases h : z.1.free = [] <;> simp [h] at h1 h0 ⊢ <;> assumption
  · simpa [clos, Function.comp_def] using q
abbrev c_circle : Con := fun ds μ Q E => ∃ (t : Trm) (x : Str), ds = [t.dat, .str x] ∧ t.nodes ≤ 1000 ∧ (∀ x ∈ t.uses, PyData.strOk x = true) ∧ (occ x 0 t ≠ [] → Q (.tup ((occ x 0 t).reverse.map fun (k : Nat) => .int k)) μ) ∧ (occ x 0 t = [] → E ⟨"UnknownName", some [("name", .str x)]⟩ μ)
theorem fn_circle (T : Top W) : FnD W base 5 "circle" ["term", "name"] c_circle := by
  have F_open_names := fn_open_names (base := base) T
  refine DefD.ok (k := 4) T.d_circle sc_circle (fun ds μ Q E ⟨t, x, e, hn, hs, q, qe⟩ => by rw [e]; rfl) fun f cdv A outer s H E hr c ds μ QA EA ⟨t, x, e, hn, hs, q, qe⟩ => ⟨_, _, (dss_cons (ds_setLc (i := 2) (own := [("number", 3), ("free", 4)]) c (di_en T.b_enumerate (de_call F_open_names c hr (by omega) (da_cons (de_var 0) da_nil))) (blkOk_by (N := nm_circle) (sc := defScope st_circle) (by decide +kernel)) (sw_true rfl rfl rfl (by decide +kernel)) (fun _ _ _ _ _ => ⟨_, (dgv_tup (n := 2) (ctx_blk c) (dgsv_cons (ctx_blk c) 3 (dgsv_cons (ctx_blk c) 4 dgsv_nil)))⟩) (fun _ _ _ _ _ => ⟨_, (dts_one (dt_cmp (op_inAny (hu_of hr)) sim_in (de_var 1) (de_var 4) (by rfl)))⟩) (fun _ _ _ _ _ => ⟨_, (de_var 3)⟩))
 (dss_cons (ds_if (dt_cmp (op_eqAny hr.units) sim_eq (de_var 2) (de_lst da_nil) (nomark _))
 (dss_one (ds_raiseF c T.rf_UnknownName hr (by omega) (de_var 1)))
 dss_nil)
 (dss_one (ds_ret (de_tuple T.b_tuple (da_cons (de_rev (de_var 2)) da_nil)))))), ?_⟩
  subst e
  simp [startD, bodyE]
  refine ⟨t, rfl, hn, ?_⟩
  simp
  have pl := t.parts_len
  rw [enumD_map]
  refine lcL_pure (fun p : Trm × Nat => Dat.tup [.int (p.2 : Nat), .lst (p.1.free.map .str)]) (fun p => decide (x ∈ p.1.free)) (fun p => .int (p.2 : Nat)) trivial t.parts.zipIdx [] (fun z hz R1 R0 h1 h0 => ?_) (by simp; omega) ?_
  · simp
    have hi := inF_strs x z.1.free
    by_cases h : x ∈ z.1.free
    all_goals
      simp [h] at hi h1 h0 ⊢
      simp [hi]
      assumption
  · have he : (t.parts.zipIdx.filter fun p => decide (x ∈ p.1.free)).map (fun p => Dat.int (p.2 : Nat)) = (occ x 0 t).map fun (k : Nat) => .int k := by simp [occ, Function.comp_def]
    rw [List.nil_append, he]
    refine fEq_of (plain_lst (n := 63) fun d hd => by obtain ⟨k, _, rfl⟩ := List.mem_map.mp hd; exact plain_int) plain_nil ?_
    by_cases h : occ x 0 t = []
    · simp [h]
      exact ⟨_, Sub.refl μ, qe h⟩
    · simp [h]
      have := fgt.here (q h)
      simpa using this
abbrev c__law_term : Con := fun ds μ Q E => ∃ (xs : List Int) (s : Nat), ds = [.lst (xs.map .int), .int s] ∧ xs.length ≤ 61 ∧ s < 5 ∧ (∀ x ∈ xs, 0 ≤ x ∧ x < 60) ∧ ∀ t fr, t.wsc → t.nodes ≤ xs.length - 1 → (∀ x ∈ t.uses, ∃ j, j ≤ 70 ∧ x = nameOf s j) → t.uses.Nodup → fr.Sublist t.uses → (∀ x ∈ fr, x ∉ t.binds) → Q (ent (t, fr)) μ
theorem fn__law_term (T : Top W) : FnD W base 2 "_law_term" ["digits", "style"] c__law_term := by
  have F__law_name := fn__law_name (base := base) T
  refine DefD.ok (k := 1) T.d__law_term sc__law_term (fun ds μ Q E ⟨xs, i, e, hl, hs, hx, q⟩ => by rw [e]; rfl) fun f cdv A outer s H E hr c ds μ QA EA ⟨xs, i, e, hl, hs, hx, q⟩ => ⟨_, _, (dss_cons (ds_set c 2 (de_lstM da_nil))
 (dss_cons (ds_set c 3 de_int)
 (dss_cons (ds_for c (di_seq (de_var 0)) (dg_name c 4)
 (dss_one (ds_if (DW.dt (dw_and (dt_cmp (op_eqAny hr.units) sim_eq (de_op op_mod sim_mod (de_var 4) de_int) de_int (nomark _)) (dw_and1 (dt_cmp op_ge sim_ge (de_len T.b_len (da_cons (de_var 2) da_nil)) de_int (nomark _)))))
 (dss_cons (ds_set c 6 (de_bm0 sim_pop PySem.F.plainAttrs_list PySem.F.slot_list_pop PySem.F.type_list_pop mt_pop (de_var 2)))
 (dss_cons (ds_set c 7 (de_bm0 sim_pop PySem.F.plainAttrs_list PySem.F.slot_list_pop PySem.F.type_list_pop mt_pop (de_var 2)))
 (dss_one (ds_expr (de_bm sim_app PySem.F.plainAttrs_list PySem.F.slot_list_append PySem.F.type_list_append mt_append (de_var 2) (da_cons (de_tup (da_cons (de_tup (da_cons de_str (da_cons (de_ix (hu_of hr) (de_var 7) de_int (fun _ _ => rfl)) (da_cons (de_ix (hu_of hr) (de_var 6) de_int (fun _ _ => rfl)) da_nil)))) (da_cons (de_op op_addAny sim_add (de_ix (hu_of hr) (de_var 7) de_int (fun _ _ => rfl)) (de_ix (hu_of hr) (de_var 6) de_int (fun _ _ => rfl))) da_nil))) da_nil))))))
 (dss_one (ds_if (DW.dt (dw_and (dt_cmp (op_eqAny hr.units) sim_eq (de_op op_mod sim_mod (de_var 4) de_int) de_int (nomark _)) (dw_and (dt_cmp (op_neAny hr.units) sim_ne (de_var 2) (de_lst da_nil) (nomark _)) (dw_and1 (dt_cmp (op_neAny hr.units) sim_ne (de_ix (hu_of hr) (de_ix (hu_of hr) (de_var 2) (de_un un_neg sim_neg de_int) (fun _ _ => rfl)) de_int (fun _ _ => rfl)) (de_lst da_nil) (nomark _))))))
 (dss_cons (ds_set c 6 (de_bm0 sim_pop PySem.F.plainAttrs_list PySem.F.slot_list_pop PySem.F.type_list_pop mt_pop (de_var 2)))
 (dss_cons (ds_set c 8 (de_ix (hu_of hr) (de_ix (hu_of hr) (de_var 6) de_int (fun _ _ => rfl)) (de_op op_mod sim_mod (de_op op_fdiv sim_div (de_var 4) de_int) (de_len T.b_len (da_cons (de_ix (hu_of hr) (de_var 6) de_int (fun _ _ => rfl)) da_nil))) (fun _ _ => rfl)))
 (dss_one (ds_expr (de_bm sim_app PySem.F.plainAttrs_list PySem.F.slot_list_append PySem.F.type_list_append mt_append (de_var 2) (da_cons (de_tup (da_cons (de_tup (da_cons de_str (da_cons (de_var 8) (da_cons (de_ix (hu_of hr) (de_var 6) de_int (fun _ _ => rfl)) da_nil)))) (da_cons (de_lc (own := [("one", 9)]) c (di_seq (de_ix (hu_of hr) (de_var 6) de_int (fun _ _ => rfl))) (blkOk_by (N := nm__law_term) (sc := defScope st__law_term) (by decide +kernel)) (fun _ _ _ _ _ => ⟨_, (dgv_name (ctx_blk c) 9)⟩) (fun _ _ _ _ _ => ⟨_, (dts_one (dt_cmp (op_neAny hr.units) sim_ne (de_var 9) (de_var 8) (nomark _)))⟩) (fun _ _ _ _ _ => ⟨_, (de_var 9)⟩)) da_nil))) da_nil))))))
 (dss_cons (ds_expr (de_bm sim_app PySem.F.plainAttrs_list PySem.F.slot_list_append PySem.F.type_list_append mt_append (de_var 2) (da_cons (de_tup (da_cons (de_tup (da_cons de_str (da_cons (de_call F__law_name c hr (by omega) (da_cons (de_var 3) (da_cons (de_var 1) da_nil))) da_nil))) (da_cons (de_lst (da_cons (de_call F__law_name c hr (by omega) (da_cons (de_var 3) (da_cons (de_var 1) da_nil))) da_nil)) da_nil))) da_nil)))
 (dss_one (ds_set c 3 (de_op op_addAny sim_add (de_var 3) de_int)))))))))
 (dss_cons (ds_if (dt_cmp (op_eqAny hr.units) sim_eq (de_var 2) (de_lst da_nil) (nomark _))
 (dss_one (ds_expr (de_bm sim_app PySem.F.plainAttrs_list PySem.F.slot_list_append PySem.F.type_list_append mt_append (de_var 2) (da_cons (de_tup (da_cons (de_tup (da_cons de_str (da_cons (de_call F__law_name c hr (by omega) (da_cons (de_var 3) (da_cons (de_var 1) da_nil))) da_nil))) (da_cons (de_lst (da_cons (de_call F__law_name c hr (by omega) (da_cons (de_var 3) (da_cons (de_var 1) da_nil))) da_nil)) da_nil))) da_nil))))
 dss_nil)
 (dss_cons (ds_for c (di_rg1 T.b_range (da_cons (de_len T.b_len (da_cons (de_var 0) da_nil)) da_nil)) (dg_name c 5)
 (dss_one (ds_if (dt_cmp op_ge sim_ge (de_len T.b_len (da_cons (de_var 2) da_nil)) de_int (nomark _))
 (dss_cons (ds_set c 6 (de_bm0 sim_pop PySem.F.plainAttrs_list PySem.F.slot_list_pop PySem.F.type_list_pop mt_pop (de_var 2)))
 (dss_cons (ds_set c 7 (de_bm0 sim_pop PySem.F.plainAttrs_list PySem.F.slot_list_pop PySem.F.type_list_pop mt_pop (de_var 2)))
 (dss_one (ds_expr (de_bm sim_app PySem.F.plainAttrs_list PySem.F.slot_list_append PySem.F.type_list_append mt_append (de_var 2) (da_cons (de_tup (da_cons (de_tup (da_cons de_str (da_cons (de_ix (hu_of hr) (de_var 7) de_int (fun _ _ => rfl)) (da_cons (de_ix (hu_of hr) (de_var 6) de_int (fun _ _ => rfl)) da_nil)))) (da_cons (de_op op_addAny sim_add (de_ix (hu_of hr) (de_var 7) de_int (fun _ _ => rfl)) (de_ix (hu_of hr) (de_var 6) de_int (fun _ _ => rfl))) da_nil))) da_nil))))))
 dss_nil)))
 (dss_one (ds_ret (de_ix (hu_of hr) (de_var 2) de_int (fun _ _ => rfl))))))))), ?_⟩
  subst e
  simp [startD, bodyE]
  intro p hp
  have fin : ∀ t fr y, t.wsc → t.nodes ≤ xs.length - 1 → (∀ x ∈ t.uses, ∃ j, j ≤ 70 ∧ x = nameOf i j) → t.uses.Nodup → fr.Sublist t.uses → (∀ x ∈ fr, x ∉ t.binds) → fgt QA (ent (t, fr)) (mset μ p y) := fun t fr y h1 h2 h3 h4 h5 h6 => ⟨μ, (DL.Sub.refl μ).mset hp, q t fr h1 h2 h3 h4 h5 h6⟩
  refine forL_inv Dat.int (fun pre rest ρ μ' => ∃ (L : List (Trm × List Str)) (u : Nat) (y4 y5 y6 y7 y8 y9 : Option Dat), ρ = [some (.lst (xs.map .int)), some (.int i), some (.cell p), some (.int u), y4, y5, y6, y7, y8, y9] ∧ μ' = mset μ p (.lst (L.map ent)) ∧ StkOk i u L ∧ (∀ e ∈ L, e.2.Sublist e.1.uses) ∧ phi L ≤ pre.length ∧ u ≤ pre.length ∧ pre ++ rest = xs) ?_ ?_ xs [] _ _ ⟨[], 0, none, none, none, none, none, none, rfl, rfl, StkOk.nil i, (fun _ h => nomatch h), by simp [phi], by simp, by simp⟩
  · rintro pre x r ρ μ' N ⟨L, u, y4, y5, y6, y7, y8, y9, rfl, rfl, hok, hsub, hphi, hu, hpre⟩ hN
    have hxm : x ∈ xs := by rw [← hpre]; simp
    have hlen : pre.length + 1 + r.length = xs.length := by rw [← hpre]; simp; omega
    obtain ⟨hx0, hx1⟩ := hx x hxm
    obtain ⟨d, rfl⟩ : ∃ d : Nat, x = d := ⟨x.toNat, by omega⟩
    have hpl := hok.plain hs (by omega) hphi (by omega)
    have hLl := phi_len L
    have push : ∀ y5 y6 y7 y8 y9, N [some (.lst (xs.map .int)), some (.int i), some (.cell p), some (.int (u + 1)), some (.int d), y5, y6, y7, y8, y9] (mset μ p (.lst (L.map ent ++ [.tup [.tup [.str "name", .str (nameOf i u)], .lst [.str (nameOf i u)]]]))) := fun y5 y6 y7 y8 y9 =>
      hN _ _ ⟨L ++ [(.nm (nameOf i u), [nameOf i u])], u + 1, some (.int d), y5, y6, y7, y8, y9, rfl, by simp [ent, Trm.dat], hok.push hs (by omega), fun e he => by
        rcases List.mem_append.mp he with he | he
        · exact hsub e he
        · rw [List.mem_singleton.mp he]; exact List.Sublist.refl _, by rw [phi_app, phi_one, List.length_append]; simp [Trm.nodes]; omega, by rw [List.length_append]; simp; omega, by rw [← hpre]; simp⟩
    have hk : d % 3 = 0 ∨ d % 3 = 1 ∨ d % 3 = 2 := by omega
    rcases hk with hk | hk | hk
    · have hk' : (d : Int) % 3 = 0 := by omega
      simp [hk']
      refine ⟨u, i, rfl, by omega, hs, u, i, rfl, by omega, hs, _, mset_same, by simp <;> omega, ?_⟩
      simpa using push _ _ _ _ _
    · have hk' : (d : Int) % 3 = 1 := by omega
      simp [hk']
      refine fNe_of (by rw [seenD_cell mset_same]; exact hpl) plain_nil ?_
      rw [seenD_cell mset_same]
      rcases nil_or_last L with rfl | ⟨L', ⟨t, fr⟩, rfl⟩
      · simp
        refine ⟨u, i, rfl, by omega, hs, u, i, rfl, by omega, hs, _, mset_same, by simp <;> omega, ?_⟩
        simpa using push _ _ _ _ _
      · have ok1 := hok.fstrs hs (by omega) (e := (t, fr)) (by simp)
        have len1 := hok.flen (e := (t, fr)) (by simp)
        simp at len1
        have bindN : ∀ x ∈ fr, ∀ y5 y6 y7 y8 y9, N [some (.lst (xs.map .int)), some (.int i), some (.cell p), some (.int u), some (.int d), y5, y6, y7, y8, y9] (mset μ p (.lst (L'.map ent ++ [.tup [.tup [.str "bind", .str x, t.dat], .lst ((fr.filter fun y => decide (y ≠ x)).map .str)]]))) := fun x hx y5 y6 y7 y8 y9 =>
          hN _ _ ⟨L' ++ [(.bd x t, fr.filter fun y => decide (y ≠ x))], u, some (.int d), y5, y6, y7, y8, y9, rfl, by simp [ent, Trm.dat], hok.bind hx, fun e he => by
            rcases List.mem_append.mp he with he | he
            · exact hsub e (List.mem_append_left _ he)
            · rw [List.mem_singleton.mp he]; exact List.filter_sublist.trans (hsub (t, fr) (by simp)), by rw [phi_app, phi_one] at hphi ⊢; rw [List.length_append]; simp [Trm.nodes] at hphi ⊢; omega, by rw [List.length_append]; simp; omega, by rw [← hpre]; simp⟩
        simp at hLl
        simp [ent]
        refine fNe_of (plain_strs ok1) plain_nil ?_
        by_cases hf : fr = []
        · subst hf
          simp
          refine ⟨u, i, rfl, by omega, hs, u, i, rfl, by omega, hs, _, mset_same, by simp <;> omega, ?_⟩
          have := push y5 y6 y7 y8 y9
          simpa [ent] using this
        · have hpos : 0 < fr.length := List.length_pos_iff.mpr hf
          have hj : ((d : Int) / 3 % (fr.length : Int)) = ((d / 3 % fr.length : Nat) : Int) := by push_cast; rfl
          have hlt : d / 3 % fr.length < fr.length := Nat.mod_lt _ hpos
          have hat : atI (fr.map Dat.str) ((d : Int) / 3 % (fr.length : Int)) = some (.str fr[d / 3 % fr.length]) := by rw [hj, atI_nat', List.getElem?_map, List.getElem?_eq_getElem hlt]; rfl
          simp [hf, and_assoc, hat]
          generalize hx' : fr[d / 3 % fr.length] = x
          have hm : x ∈ fr := by rw [← hx']; exact List.getElem_mem _
          refine ⟨hpos, ?_⟩
          refine lcL_pure Dat.str (fun y => decide (y ≠ x)) Dat.str trivial fr [] (fun y hy R1 R0 h1 h0 => ?_) (by simp; omega) ?_
          · by_cases hyx : y = x <;> simp [hyx] at h1 h0 ⊢ <;> assumption
          · simp
            refine ⟨by omega, ?_⟩
            have := bindN x hm y5 (some (.tup [t.dat, .lst (fr.map .str)])) y7 (some (.str x)) y9
            simpa using this
    · have hk' : (d : Int) % 3 = 2 := by omega
      simp [hk']
      by_cases h2 : 2 ≤ L.length
      · obtain ⟨L', a, b, rfl⟩ := two_last h2
        have la := hok.flen (e := a) (by simp)
        have lb := hok.flen (e := b) (by simp)
        simp at hLl h2
        simp [ent, and_assoc]
        refine .inr ⟨by omega, by omega, by omega, ?_⟩
        have := hN [some (.lst (xs.map .int)), some (.int i), some (.cell p), some (.int u), some (.int d), y5, some (ent b), some (ent a), y8, y9] _ ⟨L' ++ [(.ap a.1 b.1, a.2 ++ b.2)], u, some (.int d), y5, _, _, y8, y9, rfl, rfl, hok.join (k := false) (.inl rfl), fun e he => by
            rcases List.mem_append.mp he with he | he
            · exact hsub e (List.mem_append_left _ he)
            · rw [List.mem_singleton.mp he]; exact (hsub a (by simp)).append (hsub b (by simp)), by rw [phi_app, phi_two] at hphi; rw [phi_app, phi_one, List.length_append]; simp [Trm.nodes] at hphi ⊢; omega, by rw [List.length_append]; simp; omega, by rw [← hpre]; simp⟩
        simpa [ent, Trm.dat] using this
      · have h2' : ¬ (2 : Int) ≤ L.length := by omega
        simp [h2']
        refine ⟨by omega, ?_⟩
        refine ⟨u, i, rfl, by omega, hs, u, i, rfl, by omega, hs, _, mset_same, by simp <;> omega, ?_⟩
        simpa using push _ _ _ _ _
  · rintro pre ρ μ' ⟨L, u, y4, y5, y6, y7, y8, y9, rfl, rfl, hok, hsub, hphi, hu, hpre⟩
    have hpl' : pre.length = xs.length := by rw [← hpre]; simp
    have hpl := hok.plain hs (by omega) hphi (by omega)
    simp
    refine fEq_of (by rw [seenD_cell mset_same]; exact hpl) plain_nil ?_
    rw [seenD_cell mset_same]
    rcases nil_or_last L with rfl | ⟨L', e, rfl⟩
    · simp
      refine ⟨u, i, rfl, by omega, hs, u, i, rfl, by omega, hs, _, mset_same, by simp, by omega, ?_⟩
      have h0 := StkOk.push (s := i) (u := u) (L := []) hok hs (by omega)
      refine forL_rng (fun k ρ μ' => ∃ (M : List (Trm × List Str)) (v : Nat) (y5 y6 y7 : Option Dat), ρ = [some (.lst (xs.map .int)), some (.int i), some (.cell p), some (.int u), y4, y5, y6, y7, y8, y9] ∧ μ' = mset μ p (.lst (M.map ent)) ∧ StkOk i v M ∧ (∀ e ∈ M, e.2.Sublist e.1.uses) ∧ v ≤ 71 ∧ phi M ≤ max 1 xs.length ∧ M ≠ []) ?_ ?_ ⟨[(.nm (nameOf i u), [nameOf i u])], u + 1, y5, y6, y7, rfl, by simp [ent, Trm.dat], h0, fun e he => by rw [List.mem_singleton.mp he]; exact List.Sublist.refl _, by omega, by rw [phi_one]; simp only [Trm.nodes]; omega, by simp⟩
      · rintro k ρ μ' N hk ⟨M, v, y5, y6, y7, rfl, rfl, hok, hsub, hv, hphi, hne⟩ hN
        have hLl := phi_len M
        simp
        by_cases h2 : 2 ≤ M.length
        · obtain ⟨M', a, b, rfl⟩ := two_last h2
          have la := hok.flen (e := a) (by simp)
          have lb := hok.flen (e := b) (by simp)
          simp at hLl h2
          simp [ent, and_assoc]
          refine .inr ⟨by omega, by omega, by omega, ?_⟩
          have := hN [some (.lst (xs.map .int)), some (.int i), some (.cell p), some (.int u), y4, some (.int k), some (ent b), some (ent a), y8, y9] _ ⟨M' ++ [(.ap a.1 b.1, a.2 ++ b.2)], v, some (.int k), _, _, rfl, rfl, hok.join (k := false) (.inl rfl), fun e he => by
            rcases List.mem_append.mp he with he | he
            · exact hsub e (List.mem_append_left _ he)
            · rw [List.mem_singleton.mp he]; exact (hsub a (by simp)).append (hsub b (by simp)), hv, by rw [phi_app, phi_two] at hphi; rw [phi_app, phi_one]; simp [Trm.nodes] at hphi ⊢; omega, by simp⟩
          simpa [ent, Trm.dat] using this
        · exact .inl ⟨by omega, hN _ _ ⟨M, v, _, y6, y7, rfl, rfl, hok, hsub, hv, hphi, hne⟩⟩
      · rintro ρ μ' ⟨M, v, y5, y6, y7, rfl, rfl, hok, hsub, hv, hphi, hne⟩
        cases M with
        | nil => exact absurd rfl hne
        | cons e M =>
          obtain ⟨t, fr⟩ := e
          have g := hok.each (t, fr) List.mem_cons_self
          have hm := phi_mem (L := (t, fr) :: M) (e := (t, fr)) List.mem_cons_self
          simp at hm
          simp
          refine fin t fr _ g.1 (by omega) (fun x hx => ?_) (by have := hok.nd; simp [usesL, List.nodup_append] at this; exact this.1) (hsub (t, fr) List.mem_cons_self) fun x hx => (g.2.2 x hx).2
          obtain ⟨j, hj, e⟩ := hok.nm x (by simp [usesL]; exact .inl hx)
          exact ⟨j, by omega, e⟩
    · simp
      refine ⟨by omega, ?_⟩
      refine forL_rng (fun k ρ μ' => ∃ (M : List (Trm × List Str)) (v : Nat) (y5 y6 y7 : Option Dat), ρ = [some (.lst (xs.map .int)), some (.int i), some (.cell p), some (.int u), y4, y5, y6, y7, y8, y9] ∧ μ' = mset μ p (.lst (M.map ent)) ∧ StkOk i v M ∧ (∀ e ∈ M, e.2.Sublist e.1.uses) ∧ v ≤ 71 ∧ phi M ≤ max 1 xs.length ∧ M ≠ []) ?_ ?_ ⟨L' ++ [e], u, y5, y6, y7, rfl, by simp, hok, hsub, by omega, by omega, by simp⟩
      · rintro k ρ μ' N hk ⟨M, v, y5, y6, y7, rfl, rfl, hok, hsub, hv, hphi, hne⟩ hN
        have hLl := phi_len M
        simp
        by_cases h2 : 2 ≤ M.length
        · obtain ⟨M', a, b, rfl⟩ := two_last h2
          have la := hok.flen (e := a) (by simp)
          have lb := hok.flen (e := b) (by simp)
          simp at hLl h2
          simp [ent, and_assoc]
          refine .inr ⟨by omega, by omega, by omega, ?_⟩
          have := hN [some (.lst (xs.map .int)), some (.int i), some (.cell p), some (.int u), y4, some (.int k), some (ent b), some (ent a), y8, y9] _ ⟨M' ++ [(.ap a.1 b.1, a.2 ++ b.2)], v, some (.int k), _, _, rfl, rfl, hok.join (k := false) (.inl rfl), fun e he => by
            rcases List.mem_append.mp he with he | he
            · exact hsub e (List.mem_append_left _ he)
            · rw [List.mem_singleton.mp he]; exact (hsub a (by simp)).append (hsub b (by simp)), hv, by rw [phi_app, phi_two] at hphi; rw [phi_app, phi_one]; simp [Trm.nodes] at hphi ⊢; omega, by simp⟩
          simpa [ent, Trm.dat] using this
        · exact .inl ⟨by omega, hN _ _ ⟨M, v, _, y6, y7, rfl, rfl, hok, hsub, hv, hphi, hne⟩⟩
      · rintro ρ μ' ⟨M, v, y5, y6, y7, rfl, rfl, hok, hsub, hv, hphi, hne⟩
        cases M with
        | nil => exact absurd rfl hne
        | cons e M =>
          obtain ⟨t, fr⟩ := e
          have g := hok.each (t, fr) List.mem_cons_self
          have hm := phi_mem (L := (t, fr) :: M) (e := (t, fr)) List.mem_cons_self
          simp at hm
          simp
          refine fin t fr _ g.1 (by omega) (fun x hx => ?_) (by have := hok.nd; simp [usesL, List.nodup_append] at this; exact this.1) (hsub (t, fr) List.mem_cons_self) fun x hx => (g.2.2 x hx).2
          obtain ⟨j, hj, e⟩ := hok.nm x (by simp [usesL]; exact .inl hx)
          exact ⟨j, by omega, e⟩
theorem repr_len100 : ∀ k < 100, (Str.ofString (toString ((k : Nat) : Int))).length ≤ 5 := by decide +kernel
abbrev c__law_shut (n : Nat) : Con := fun ds μ Q E => ∃ (t : Trm) (x : Str) (k : Nat), ds = [t.dat, .str x, .int k] ∧ t.depth < n ∧ k < 100 ∧ Q (t.put x (shutT k)).dat μ
theorem fn__law_shut (T : Top W) : ∀ n, FnD W base (n + 0) "_law_shut" ["term", "name", "salt"] (c__law_shut n)
  | 0 => (T.d__law_shut.none.imp (C' := c__law_shut 0) fun ds μ Q E ⟨t, x, k, e, hn, hk, q⟩ => by omega).mono (by omega)
  | n + 1 => by
    have F__law_shut := fn__law_shut T n
    refine FnD.mono (j := n + 0 + 1) (DefD.ok (k := n + 0) T.d__law_shut sc__law_shut (fun ds μ Q E ⟨t, x, k, e, hn, hk, q⟩ => by rw [e]; rfl) fun f cdv A outer s H E hr c ds μ QA EA ⟨t, x, k, e, hn, hk, q⟩ => ⟨_, _, (dss_cons (ds_if (DW.dt (dw_and (dt_cmp (op_eqAny hr.units) sim_eq (de_ix (hu_of hr) (de_var 0) de_int (fun _ _ => rfl)) de_str (nomark _)) (dw_and1 (dt_cmp (op_eqAny hr.units) sim_eq (de_ix (hu_of hr) (de_var 0) de_int (fun _ _ => rfl)) (de_var 1) (nomark _)))))
 (dss_cons (ds_set c 3 (de_tup (da_cons de_str (da_cons (de_op op_addAny sim_add de_str (de_strI T.b_str (da_cons (de_var 2) da_nil))) (da_cons (de_tup (da_cons de_str (da_cons (de_op op_addAny sim_add de_str (de_strI T.b_str (da_cons (de_var 2) da_nil))) da_nil))) da_nil)))))
 (dss_cons (ds_if (dt_cmp (op_eqAny hr.units) sim_eq (de_op op_mod sim_mod (de_var 2) de_int) de_int (nomark _))
 (dss_one (ds_ret (de_var 3)))
 dss_nil)
 (dss_one (ds_ret (de_tup (da_cons de_str (da_cons (de_op op_addAny sim_add de_str (de_strI T.b_str (da_cons (de_var 2) da_nil))) (da_cons (de_tup (da_cons de_str (da_cons (de_var 3) (da_cons (de_tup (da_cons de_str (da_cons (de_op op_addAny sim_add de_str (de_strI T.b_str (da_cons (de_var 2) da_nil))) da_nil))) da_nil)))) da_nil))))))))
 dss_nil)
 (dss_cons (ds_if (dt_cmp (op_eqAny hr.units) sim_eq (de_ix (hu_of hr) (de_var 0) de_int (fun _ _ => rfl)) de_str (nomark _))
 (dss_one (ds_ret (de_var 0)))
 dss_nil)
 (dss_cons (ds_if (dt_cmp (op_eqAny hr.units) sim_eq (de_ix (hu_of hr) (de_var 0) de_int (fun _ _ => rfl)) de_str (nomark _))
 (dss_one (ds_ret (de_tup (da_cons de_str (da_cons (de_ix (hu_of hr) (de_var 0) de_int (fun _ _ => rfl)) (da_cons (de_call F__law_shut c hr (by omega) (da_cons (de_ix (hu_of hr) (de_var 0) de_int (fun _ _ => rfl)) (da_cons (de_var 1) (da_cons (de_var 2) da_nil)))) da_nil))))))
 dss_nil)
 (dss_one (ds_ret (de_tup (da_cons de_str (da_cons (de_call F__law_shut c hr (by omega) (da_cons (de_ix (hu_of hr) (de_var 0) de_int (fun _ _ => rfl)) (da_cons (de_var 1) (da_cons (de_var 2) da_nil)))) (da_cons (de_call F__law_shut c hr (by omega) (da_cons (de_ix (hu_of hr) (de_var 0) de_int (fun _ _ => rfl)) (da_cons (de_var 1) (da_cons (de_var 2) da_nil)))) da_nil))))))))), ?_⟩) (by omega)
    subst e
    replace q := fgt.here q
    cases t with
    | nm y =>
      have h1 := repr_len100 k hk
      have h3 := log2_small k (by omega)
      have l1 : (Str.ofString "c").length = 1 := by decide
      have l2 : (Str.ofString "d").length = 1 := by decide
      have hk2 : ((k : Int) % 2 = 0) ↔ k % 2 = 0 := by omega
      by_cases e : y = x
      · by_cases h2 : k % 2 = 0 <;> simp [startD, bodyE, Trm.dat, Trm.put, shutT, cN, dN, and_assoc, h3, l1, l2, e, hk2, h2] at q h1 ⊢ <;> refine ⟨by omega, ?_⟩ <;> exact q
      · simp [startD, bodyE, Trm.dat, Trm.put, and_assoc, e] at q ⊢
        exact q
    | bd y b =>
      simp [startD, bodyE, Trm.dat, Trm.put] at q ⊢
      simp only [Trm.depth] at hn
      exact ⟨b, x, k, rfl, by omega, hk, q⟩
    | ap l r =>
      simp [startD, bodyE, Trm.dat, Trm.put] at q ⊢
      simp only [Trm.depth] at hn
      exact ⟨l, x, k, rfl, by omega, hk, r, x, k, rfl, by omega, hk, q⟩
abbrev c__law_circles (n : Nat) : Con := fun ds μ Q E => ∃ (t : Trm) (rd : List Nat) (i k p : Addr) (m : Nat) (kI : List Key) (dI : List Dat) (kF : List Key) (dF : List Dat) (g : Str → Nat), ds = [t.dat, .lst (rd.map fun (j : Nat) => .int j), .cell i, .cell k, .cell p] ∧ t.depth < n ∧ t.wsc ∧ t.uses.Nodup ∧ i ≠ k ∧ i ≠ p ∧ k ≠ p ∧
    μ i = some (.dK kI dI) ∧ kI.length = dI.length ∧ μ k = some (.lst [.int m]) ∧ μ p = some (.dK kF dF) ∧ kF.length = dF.length ∧ (∀ x ∈ t.free, (atK kI dI (.inr x)).getD (.int 0) = .int (g x)) ∧ (∀ x ∈ t.free, g x ≤ rd.length) ∧ (∀ x ∈ t.uses, .inr x ∉ kF) ∧
    kI.length + t.nodes ≤ 1000 ∧ kF.length + t.uses.length ≤ 1000 ∧ rd.length + t.depth ≤ 1000 ∧
    ∀ (μ' : Mu) (kJ : List Key) (dJ : List Dat), (∀ a, a ≠ i → a ≠ k → a ≠ p → μ' a = μ a) → μ' i = some (.dK kJ dJ) → kJ.length = dJ.length → kJ.length ≤ kI.length + t.nodes → (∀ x, x ∉ t.binds → atK kJ dJ (.inr x) = atK kI dI (.inr x)) → μ' k = some (.lst [.int (m + t.parts.length : Nat)]) →
      μ' p = some (.dK (kF ++ t.uses.map .inr) (dF ++ t.uses.map fun x => .tup ((arnd g rd m t x).map fun (j : Nat) => .int j))) → Q (.int (m + t.parts.length : Nat)) μ'
theorem fn__law_circles (T : Top W) : ∀ n, FnD W base (n + 0) "_law_circles" ["part", "road", "inside", "counter", "found"] (c__law_circles n)
  | 0 => (T.d__law_circles.none.imp (C' := c__law_circles 0) fun ds μ Q E ⟨t, rd, i, k, p, m, kI, dI, kF, dF, g, e, hd, hw, hnd, hik, hip, hkp, hi, hli, hk, hp, hlp, hg, hgl, hfr, b1, b2, b3, q⟩ => by omega).mono (by omega)
  | n + 1 => by
    have F__law_circles := fn__law_circles T n
    refine FnD.mono (j := n + 0 + 1) (DefD.ok (k := n + 0) T.d__law_circles sc__law_circles (fun ds μ Q E ⟨t, rd, i, k, p, m, kI, dI, kF, dF, g, e, hd, hw, hnd, hik, hip, hkp, hi, hli, hk, hp, hlp, hg, hgl, hfr, b1, b2, b3, q⟩ => by rw [e]; rfl) fun f cdv A outer s H E hr c ds μ QA EA ⟨t, rd, i, k, p, m, kI, dI, kF, dF, g, e, hd, hw, hnd, hik, hip, hkp, hi, hli, hk, hp, hlp, hg, hgl, hfr, b1, b2, b3, q⟩ => ⟨_, _, (dss_cons (ds_set c 5 (de_ix (hu_of hr) (de_var 3) de_int (fun _ _ => rfl)))
 (dss_cons (ds_asg (de_op op_addAny sim_add (de_var 5) de_int) (dg_ix (de_var 3) de_int))
 (dss_cons (ds_set c 6 (de_op op_addAny sim_add (de_var 1) (de_lst (da_cons (de_var 5) da_nil))))
 (dss_cons (ds_if (dt_cmp (op_eqAny hr.units) sim_eq (de_ix (hu_of hr) (de_var 0) de_int (fun _ _ => rfl)) de_str (nomark _))
 (dss_cons (ds_set c 7 (de_sl sim_sl (de_var 6) (do_some (de_dget2 (hu_of hr) (de_var 2) (de_ix (hu_of hr) (de_var 0) de_int (fun _ _ => rfl)) de_int ⟨rfl, rfl, rfl, rfl⟩)) do_none))
 (dss_one (ds_asg (de_tuple T.b_tuple (da_cons (de_rev (de_var 7)) da_nil)) (dg_ixD (hu_of hr) (de_var 4) (de_ix (hu_of hr) (de_var 0) de_int (fun _ _ => rfl))))))
 (dss_one (ds_if (dt_cmp (op_eqAny hr.units) sim_eq (de_ix (hu_of hr) (de_var 0) de_int (fun _ _ => rfl)) de_str (nomark _))
 (dss_cons (ds_asg (de_len T.b_len (da_cons (de_var 6) da_nil)) (dg_ixD (hu_of hr) (de_var 2) (de_ix (hu_of hr) (de_var 0) de_int (fun _ _ => rfl))))
 (dss_one (ds_expr (de_call F__law_circles c hr (by omega) (da_cons (de_ix (hu_of hr) (de_var 0) de_int (fun _ _ => rfl)) (da_cons (de_var 6) (da_cons (de_var 2) (da_cons (de_var 3) (da_cons (de_var 4) da_nil)))))))))
 (dss_cons (ds_expr (de_call F__law_circles c hr (by omega) (da_cons (de_ix (hu_of hr) (de_var 0) de_int (fun _ _ => rfl)) (da_cons (de_var 6) (da_cons (de_var 2) (da_cons (de_var 3) (da_cons (de_var 4) da_nil)))))))
 (dss_one (ds_expr (de_call F__law_circles c hr (by omega) (da_cons (de_ix (hu_of hr) (de_var 0) de_int (fun _ _ => rfl)) (da_cons (de_var 6) (da_cons (de_var 2) (da_cons (de_var 3) (da_cons (de_var 4) da_nil))))))))))))
 (dss_one (ds_ret (de_ix (hu_of hr) (de_var 3) de_int (fun _ _ => rfl)))))))), ?_⟩) (by omega)
    subst e
    cases t with
    | nm x =>
      have hgx := hg x (mem_fr.mpr ⟨List.mem_cons_self, by simp [Trm.binds]⟩)
      have hglx := hgl x (mem_fr.mpr ⟨List.mem_cons_self, by simp [Trm.binds]⟩)
      have hfx : (Sum.inr x : Key) ∉ kF := hfr x List.mem_cons_self
      simp [startD, bodyE, Trm.dat, hk, and_assoc]
      refine ⟨0, rfl, by omega, ⟨kI, dI, by rw [mset_ne hik]; exact hi⟩, kI, dI, by rw [mset_ne hik]; exact hi, g x, hgx, kF, dF, by rw [mset_ne (Ne.symm hkp)]; exact hp, by simp only [Trm.uses, List.length_cons, List.length_nil] at b2; omega, .int (m + 1 : Nat), .inl ⟨[.int (m + 1 : Nat)], by rw [mset_ne hkp, mset_same]; simp, rfl⟩, fgt.here (q _ kI dI (fun a h1 h2 h3 => by rw [mset_ne h3, mset_ne h2]) (by rw [mset_ne hip, mset_ne hik]; exact hi) hli (by omega) (fun _ _ => rfl) (by rw [mset_ne hkp, mset_same]; simp [Trm.parts]) ?_)⟩
      rw [mset_same]
      have hc : (DL.cutD (rd.map (fun (j : Nat) => Dat.int j) ++ [Dat.int m]) (some (g x : Int)) none).reverse = (arnd g rd m (.nm x) x).map fun (j : Nat) => Dat.int j := by
        rw [arnd_nm hglx, cutD_i]
        simp [List.map_drop]
      simp only [putKs, putDs, if_neg hfx, hc, Trm.uses, List.map_cons, List.map_nil]
    | bd y b =>
      obtain ⟨hyb, hwb⟩ := hw
      simp only [Trm.depth, Trm.nodes, Trm.uses] at hd b1 b2 b3 hnd hfr
      simp [startD, bodyE, Trm.dat, hk, and_assoc]
      refine ⟨0, rfl, by omega, kI, dI, by rw [mset_ne hik]; exact hi, by omega, b, rd ++ [m], i, k, p, m + 1, _, _, kF, dF, fun z => if z = y then rd.length + 1 else g z, by simp, by omega, hwb, hnd, hik, hip, hkp, by rw [mset_same], putDs_len hli, by rw [mset_ne (Ne.symm hik), mset_same]; simp, by rw [mset_ne (Ne.symm hip), mset_ne (Ne.symm hkp)]; exact hp, hlp, fun z hz => ?_, fun z hz => ?_, hfr, ?_, by omega, by simp; omega, ?_⟩
      · rw [atK_put hli]
        by_cases e : z = y
        · simp [e]
        · simp [e]
          exact hg z (fr_bd.mpr ⟨hz, e⟩)
      · dsimp only
        split
        · simp
        · rename_i e
          have := hgl z (fr_bd.mpr ⟨hz, e⟩)
          simp
          omega
      · have : (putKs kI (Sum.inr y)).length ≤ kI.length + 1 := by unfold putKs; split <;> simp
        omega
      · intro μ' kJ dJ h1 h2 h3 h4 h5 h6 h7
        have hpl : (Trm.bd y b).parts.length = b.parts.length + 1 := by simp [Trm.parts]
        refine ⟨_, .inl ⟨_, h6, rfl⟩, fgt.here ?_⟩
        rw [show m + 1 + b.parts.length = m + (Trm.bd y b).parts.length by omega] at h6 ⊢
        refine q μ' kJ dJ (fun a x1 x2 x3 => by rw [h1 a x1 x2 x3, mset_ne x1, mset_ne x2]) h2 h3 ?_ (fun z hz => ?_) h6 ?_
        · have : (putKs kI (Sum.inr y)).length ≤ kI.length + 1 := by unfold putKs; split <;> simp
          simp only [Trm.nodes]
          omega
        · simp only [Trm.binds, List.mem_cons, not_or] at hz
          rw [h5 z hz.2, atK_put hli, if_neg (fun e => hz.1 (Sum.inr.inj e))]
        · rw [h7]
          congr 2
          congr 1
          refine List.map_congr_left fun z hz => ?_
          rw [arnd_bd (by simp) (fun z e _ => by simp [e]) hgl]
    | ap l r =>
      obtain ⟨hwl, hwr⟩ := hw
      simp only [Trm.depth, Trm.nodes, Trm.uses, List.length_append] at hd b1 b2 b3 hnd hfr
      obtain ⟨hnl, hnr, hlr⟩ := List.nodup_append.mp hnd
      have nlr : ∀ x ∈ l.uses, x ∉ r.uses := fun x h1 h2 => hlr x h1 x h2 rfl
      have nrl : ∀ x ∈ r.uses, x ∉ l.uses := fun x h1 h2 => hlr x h2 x h1 rfl
      have fl : ∀ x ∈ l.free, x ∈ (Trm.ap l r).free := fun x hx => (fr_apl hwr (mem_fr.mp hx).1 (nlr x (mem_fr.mp hx).1)).mpr hx
      have fr : ∀ x ∈ r.free, x ∈ (Trm.ap l r).free := fun x hx => (fr_apr hwl (mem_fr.mp hx).1 (nrl x (mem_fr.mp hx).1)).mpr hx
      simp [startD, bodyE, Trm.dat, hk, and_assoc]
      refine ⟨0, rfl, by omega, l, rd ++ [m], i, k, p, m + 1, kI, dI, kF, dF, g, by simp, by omega, hwl, hnl, hik, hip, hkp, by rw [mset_ne hik]; exact hi, hli, by rw [mset_same]; simp, by rw [mset_ne (Ne.symm hkp)]; exact hp, hlp, fun z hz => hg z (fl z hz), fun z hz => by have := hgl z (fl z hz); simp; omega, fun z hz => hfr z (List.mem_append_left _ hz), by omega, by omega, by simp; omega, ?_⟩
      intro μ1 kJ dJ h1 h2 h3 h4 h5 h6 h7
      refine ⟨r, rd ++ [m], i, k, p, m + 1 + l.parts.length, kJ, dJ, _, _, g, by simp, by omega, hwr, hnr, hik, hip, hkp, h2, h3, h6, h7, by simp [hlp], fun z hz => ?_, fun z hz => by have := hgl z (fr z hz); simp; omega, fun z hz hm => ?_, by omega, by simp; omega, by simp; omega, ?_⟩
      · rw [h5 z fun y => nrl z (mem_fr.mp hz).1 (wsc_binds hwl z y)]
        exact hg z (fr z hz)
      · rcases List.mem_append.mp hm with hm | hm
        · exact hfr z (List.mem_append_right _ hz) hm
        · obtain ⟨y, hy, e⟩ := List.mem_map.mp hm
          exact nrl z hz (Sum.inr.inj e ▸ hy)
      · intro μ2 kL dL g1 g2 g3 g4 g5 g6 g7
        have hpl : (Trm.ap l r).parts.length = l.parts.length + r.parts.length + 1 := by simp [Trm.parts]
        refine ⟨_, .inl ⟨_, g6, rfl⟩, fgt.here ?_⟩
        rw [show m + 1 + l.parts.length + r.parts.length = m + (Trm.ap l r).parts.length by omega] at g6 ⊢
        refine q μ2 kL dL (fun a x1 x2 x3 => by rw [g1 a x1 x2 x3, h1 a x1 x2 x3, mset_ne x2]) g2 g3 (by simp only [Trm.nodes]; omega) (fun z hz => ?_) g6 ?_
        · simp only [Trm.binds, List.mem_append, not_or] at hz
          rw [g5 z hz.2, h5 z hz.1]
        · rw [g7]
          simp only [Trm.uses, List.map_append, List.append_assoc]
          congr 2
          congr 1
          · congr 1
            · refine List.map_congr_left fun z hz => ?_
              rw [arnd_apl hwr hz (nlr z hz) hgl]
            · refine List.map_congr_left fun z hz => ?_
              rw [arnd_apr hwl hz (nrl z hz) (fun _ _ => rfl) hgl]
abbrev c__law_made : Con := fun ds μ Q E => ∃ (l k : List Int) (s : Nat), ds = [.lst (l.map .int), .int s, .lst (k.map .int)] ∧ l.length ≤ 61 ∧ s < 5 ∧ (∀ x ∈ l, 0 ≤ x ∧ x < 60) ∧ (∀ x ∈ k, 0 ≤ x) ∧ ∀ t : Trm, t.wsc → t.nodes ≤ 80 → t.uses.Nodup → (∀ x ∈ t.uses, NmOk x) → Q t.dat μ
theorem fn__law_made (T : Top W) : FnD W base 101 "_law_made" ["digits", "style", "chosen"] c__law_made := by
  have F__law_term := fn__law_term (base := base) T
  have F__law_shut := fn__law_shut (base := base) T 100
  have F__law_at := fn__law_at (base := base) T
  refine DefD.ok (k := 100) T.d__law_made sc__law_made (fun ds μ Q E ⟨l, k, i, e, hl, hs, hx, hk, q⟩ => by rw [e]; rfl) fun f cdv A outer s H E hr c ds μ QA EA ⟨l, k, i, e, hl, hs, hx, hk, q⟩ => ⟨_, _, (dss_cons (ds_set c 3 (de_call F__law_term c hr (by omega) (da_cons (de_var 0) (da_cons (de_var 1) da_nil))))
 (dss_cons (ds_set c 4 (de_ix (hu_of hr) (de_var 3) de_int (fun _ _ => rfl)))
 (dss_cons (ds_set c 5 (de_listM T.b_list (da_cons (de_ix (hu_of hr) (de_var 3) de_int (fun _ _ => rfl)) da_nil)))
 (dss_cons (ds_for c (di_rg1 T.b_range (da_cons (de_op op_mod sim_mod (de_int1 T.b_int (da_cons (de_call F__law_at c hr (by omega) (da_cons (de_var 2) (da_cons de_int da_nil))) da_nil)) de_int) da_nil)) (dg_name c 6)
 (dss_one (ds_if (dt_cmp (op_neAny hr.units) sim_ne (de_var 5) (de_lst da_nil) (nomark _))
 (dss_cons (ds_set c 7 (de_bm sim_popAt PySem.F.plainAttrs_list PySem.F.slot_list_pop PySem.F.type_list_pop mt_popAt (de_var 5) (da_cons (de_op op_mod sim_mod (de_int1 T.b_int (da_cons (de_call F__law_at c hr (by omega) (da_cons (de_var 2) (da_cons (de_op op_addAny sim_add (de_op op_mulAny sim_mul de_int (de_var 6)) de_int) da_nil))) da_nil)) (de_len T.b_len (da_cons (de_var 5) da_nil))) da_nil)))
 (dss_one (ds_set c 4 (de_call F__law_shut c hr (by omega) (da_cons (de_var 4) (da_cons (de_var 7) (da_cons (de_op op_addAny sim_add (de_op op_mulAny sim_mul de_int (de_var 6)) (de_op op_mod sim_mod (de_int1 T.b_int (da_cons (de_call F__law_at c hr (by omega) (da_cons (de_var 2) (da_cons (de_op op_addAny sim_add (de_op op_mulAny sim_mul de_int (de_var 6)) de_int) da_nil))) da_nil)) de_int)) da_nil)))))))
 dss_nil)))
 (dss_cons (ds_for c (di_rg1 T.b_range (da_cons (de_op op_mod sim_mod (de_int1 T.b_int (da_cons (de_call F__law_at c hr (by omega) (da_cons (de_var 2) (da_cons de_int da_nil))) da_nil)) de_int) da_nil)) (dg_name c 6)
 (dss_one (ds_if (dt_cmp (op_neAny hr.units) sim_ne (de_var 5) (de_lst da_nil) (nomark _))
 (dss_cons (ds_set c 7 (de_bm sim_popAt PySem.F.plainAttrs_list PySem.F.slot_list_pop PySem.F.type_list_pop mt_popAt (de_var 5) (da_cons (de_op op_mod sim_mod (de_int1 T.b_int (da_cons (de_call F__law_at c hr (by omega) (da_cons (de_var 2) (da_cons (de_op op_addAny sim_add (de_var 6) de_int) da_nil))) da_nil)) (de_len T.b_len (da_cons (de_var 5) da_nil))) da_nil)))
 (dss_one (ds_set c 4 (de_tup (da_cons de_str (da_cons (de_var 7) (da_cons (de_var 4) da_nil)))))))
 dss_nil)))
 (dss_one (ds_ret (de_var 4)))))))), ?_⟩
  subst e
  simp [startD, bodyE]
  refine ⟨l, i, rfl, hl, hs, hx, fun t fr h1 h2 h3 h4 h5 h6 => ?_⟩
  simp [ent, and_assoc]
  intro p hp
  refine ⟨k, 0, rfl, fun v0 => ?_⟩
  simp
  have e4 : (v0 % 4).toNat ≤ 3 := by omega
  refine ⟨by omega, by omega, ?_⟩
  have sok : ∀ {K : Nat} {t : Trm} {fr : List Str}, K ≤ 3 → Mk i K t fr → plainD 64 (.lst (fr.map .str)) = true := fun hK m => plain_strs (n := 63) fun x hx => (m.names hs hK x (mem_fr.mp (m.ff x hx)).1).1
  refine forL_rng (fun K ρ μ' => ∃ (t : Trm) (fr : List Str) (y3 : Dat) (y6 y7 : Option Dat), ρ = [some (.lst (l.map .int)), some (.int i), some (.lst (k.map .int)), some y3, some t.dat, some (.cell p), y6, y7] ∧ μ' = mset μ p (.lst (fr.map .str)) ∧ Mk i K t fr ∧ t.nodes ≤ 60 + 3 * K) ?_ ?_ ⟨t, fr, _, none, none, rfl, rfl, ⟨h1, h4, fun x hx => .inl (h3 x hx), h4.sublist h5, fun x hx => mem_fr.mpr ⟨h5.subset hx, h6 x hx⟩⟩, by omega⟩
  · rintro K ρ μ' N hK ⟨t, fr, y3, y6, y7, rfl, rfl, m, hn⟩ hN
    have hfl := m.flen
    have td := t.depth_le
    simp
    refine fNe_of (by rw [seenD_cell mset_same]; exact sok (by omega) m) plain_nil ?_
    rw [seenD_cell mset_same]
    by_cases hf : fr = []
    · subst hf
      simp
      exact hN _ _ ⟨t, [], y3, _, y7, rfl, rfl, m.later (by omega), by omega⟩
    · have hpos : 0 < fr.length := List.length_pos_iff.mpr hf
      simp [hf]
      refine ⟨k, 2 * K + 1, rfl, fun v => ?_⟩
      simp
      have hv0 := Int.emod_nonneg v (show (fr.length : Int) ≠ 0 by omega)
      have hv1 := Int.emod_lt_of_pos v (show (0 : Int) < fr.length by omega)
      obtain ⟨n, en⟩ : ∃ n : Nat, v % (fr.length : Int) = (n : Int) := ⟨(v % (fr.length : Int)).toNat, by omega⟩
      have hn2 : n < fr.length := by omega
      refine ⟨hpos, n, by rw [en]; exact ixn hn2, by omega, .str fr[n], ⟨fr[n], List.getElem?_eq_getElem hn2, rfl⟩, ?_⟩
      refine ⟨k, 2 * K + 2, rfl, fun w => ?_⟩
      simp
      obtain ⟨g, eg⟩ : ∃ g : Nat, w % 10 = (g : Int) := ⟨(w % 10).toNat, by omega⟩
      have hg : g < 10 := by omega
      have ms := m.shut hs (k := 10 * K + g) (by omega) (by omega) (by omega) hn2
      refine ⟨t, fr[n], 10 * K + g, by rw [eg]; simp, by omega, by omega, ?_⟩
      refine hN _ _ ⟨_, fr.eraseIdx n, y3, _, _, rfl, by rw [map_erase], ms.1, by omega⟩
  · rintro ρ μ' ⟨t, fr, y3, y6, y7, rfl, rfl, m, hn⟩
    simp
    refine ⟨k, 7, rfl, fun v1 => ?_⟩
    simp
    have e5 : (v1 % 4).toNat ≤ 3 := by omega
    refine ⟨by omega, by omega, ?_⟩
    refine forL_rng (fun K ρ μ' => ∃ (t : Trm) (fr : List Str) (y3 : Dat) (y6 y7 : Option Dat), ρ = [some (.lst (l.map .int)), some (.int i), some (.lst (k.map .int)), some y3, some t.dat, some (.cell p), y6, y7] ∧ μ' = mset μ p (.lst (fr.map .str)) ∧ Mk i 3 t fr ∧ t.nodes ≤ 70 + K) ?_ ?_ ⟨t, fr, y3, y6, y7, rfl, rfl, m.later e4, by omega⟩
    · rintro K ρ μ' N hK ⟨t, fr, y3, y6, y7, rfl, rfl, m, hn⟩ hN
      have hfl := m.flen
      simp
      refine fNe_of (by rw [seenD_cell mset_same]; exact sok (by omega) m) plain_nil ?_
      rw [seenD_cell mset_same]
      by_cases hf : fr = []
      · subst hf
        simp
        exact hN _ _ ⟨t, [], y3, _, y7, rfl, rfl, m, by omega⟩
      · have hpos : 0 < fr.length := List.length_pos_iff.mpr hf
        simp [hf]
        refine ⟨k, K + 8, rfl, fun v => ?_⟩
        simp
        have hv0 := Int.emod_nonneg v (show (fr.length : Int) ≠ 0 by omega)
        have hv1 := Int.emod_lt_of_pos v (show (0 : Int) < fr.length by omega)
        obtain ⟨n, en⟩ : ∃ n : Nat, v % (fr.length : Int) = (n : Int) := ⟨(v % (fr.length : Int)).toNat, by omega⟩
        have hn2 : n < fr.length := by omega
        refine ⟨hpos, n, by rw [en]; exact ixn hn2, by omega, .str fr[n], ⟨fr[n], List.getElem?_eq_getElem hn2, rfl⟩, ?_⟩
        exact hN _ _ ⟨.bd fr[n] t, fr.eraseIdx n, y3, _, _, rfl, by rw [map_erase], m.bind hn2, by simp only [Trm.nodes]; omega⟩
    · rintro ρ μ' ⟨t, fr, y3, y6, y7, rfl, rfl, m, hn⟩
      simp
      exact ⟨μ, (DL.Sub.refl μ).mset hp, q t m.w (by omega) m.n (m.names hs (by omega))⟩
abbrev c__law_told : Con := fun ds μ Q E => ∃ (t : Trm) (x : Str), ds = [t.dat, .str x] ∧ t.nodes ≤ 1000 ∧ (∀ x ∈ t.uses, PyData.strOk x = true) ∧ (occ x 0 t ≠ [] → Q (.tup [.str "told", .tup ((occ x 0 t).reverse.map fun (k : Nat) => .int k)]) μ) ∧ (occ x 0 t = [] → Q (.tup [.str "refused", .str x, .bl true]) μ)
theorem fn__law_told (T : Top W) : FnD W base 6 "_law_told" ["term", "name"] c__law_told := by
  have F_circle := fn_circle (base := base) T
  refine DefD.ok (k := 5) T.d__law_told sc__law_told (fun ds μ Q E ⟨t, x, e, hn, hs, q, qe⟩ => by rw [e]; rfl) fun f cdv A outer s H E hr c ds μ QA EA ⟨t, x, e, hn, hs, q, qe⟩ => ⟨_, _, (dss_one (ds_try_cls c rfl rfl
 (fun W pn xe c => ⟨_, (dss_one (ds_ret (de_tup (da_cons de_str (da_cons (de_call F_circle c hr (by omega) (da_cons (de_var 0) (da_cons (de_var 1) da_nil))) da_nil)))))⟩)
 (.named (k := ⟨"UnknownName", some 2, _, []⟩) rfl rfl rfl ⟨(.field (c := "UnknownName") (fun a dd oe pn hz hf nd => ⟨_, (dss_cons (ds_setN nd 3 (de_or (de_isFo 2 hz hf T.b_isinstance T.ec_UnknownName T.cl_BadName T.ix_UnknownName_BadName (de_var 2)) (de_or (de_isFo 2 hz hf T.b_isinstance T.ec_UnknownName T.cl_Repeated T.ix_UnknownName_Repeated (de_var 2)) (de_one (de_isFo 2 hz hf T.b_isinstance T.ec_UnknownName T.cl_Unused T.ix_UnknownName_Unused (de_var 2))))))
 (dss_cons (ds_setN nd 4 (de_and (de_isFo 2 hz hf T.b_isinstance T.ec_UnknownName T.cl_NameFault T.ix_UnknownName_NameFault (de_var 2)) (de_and (de_isFo 2 hz hf T.b_isinstance T.ec_UnknownName T.cl_DrawnonceError T.ix_UnknownName_DrawnonceError (de_var 2)) (de_one (de_isFv 2 hz hf T.b_isinstance T.ec_UnknownName T.b_ValueError T.ixv_UnknownName (de_var 2))))))
 (dss_one (ds_ret (de_tup (da_cons de_str (da_cons (de_xf 2 (xf_of T.ec_UnknownName) T.rf_UnknownName.no hz hf (de_var 2)) (da_cons (de_and (de_var 4) (de_one (de_not (de_var 3)))) da_nil))))))))⟩) .nil),
 T.cl_UnknownName, rfl, by decide, (List.forall_mem_cons.mpr ⟨T.ex_UnknownName_UnknownName, (fun _ h => absurd h List.not_mem_nil)⟩), (fun _ h => absurd h List.not_mem_nil)⟩
 .nil))), ?_⟩
  subst e
  simp [startD, bodyE]
  refine ⟨t, x, rfl, hn, hs, fun h => fgt.here (q h), fun h => ?_⟩
  simp (decide := true) [sCls, lk_hit, lk_miss, and_assoc]
  exact fun _ _ => fgt.here (qe h)
abbrev c__law_right : Con := fun ds μ Q E => ∃ (t : Trm) (k : Nat), ds = [t.dat, .int k] ∧ 0 < k ∧ k < 100 ∧ t.wsc ∧ t.nodes ≤ 80 ∧ t.uses.Nodup ∧ (∀ x ∈ t.uses, NmOk x) ∧ Q (.bl true) μ
theorem fn__law_right (T : Top W) : FnD W base 101 "_law_right" ["term", "each"] c__law_right := by
  have F__law_circles := fn__law_circles (base := base) T 100
  have F__law_same := fn__law_same (base := base) T 4
  have F_closed_parts := fn_closed_parts (base := base) T
  have F__law_told := fn__law_told (base := base) T
  refine DefD.ok (k := 100) T.d__law_right sc__law_right (fun ds μ Q E ⟨t, j, e, hj, hj2, hw, hn, hnd, hok, q⟩ => by rw [e]; rfl) fun f cdv A outer s H E hr c ds μ QA EA ⟨t, j, e, hj, hj2, hw, hn, hnd, hok, q⟩ => ⟨_, _, (dss_cons (ds_set c 2 de_dnewM)
 (dss_cons (ds_set c 3 (de_call F__law_circles c hr (by omega) (da_cons (de_var 0) (da_cons (de_lst da_nil) (da_cons de_dnewM (da_cons (de_lstM (da_cons de_int da_nil)) (da_cons (de_var 2) da_nil)))))))
 (dss_cons (ds_set c 4 (de_listD c T.b_list (da_cons (de_var 2) da_nil)))
 (dss_cons (ds_set c 5 (de_op op_mulAny sim_mulM (de_lst (da_cons de_bl da_nil)) (de_var 3)))
 (dss_cons (ds_for c (di_seq (de_var 4)) (dg_name c 6)
 (dss_one (ds_for c (di_seq (de_ix (hu_of hr) (de_var 2) (de_var 6) (fun _ _ => rfl))) (dg_name c 9)
 (dss_one (ds_asg de_bl (dg_ix (de_var 5) (de_var 9)))))))
 (dss_cons (ds_if (dt_not (dt_val (de_call F__law_same c hr (by omega) (da_cons (de_call F_closed_parts c hr (by omega) (da_cons (de_var 0) da_nil)) (da_cons (de_tuple T.b_tuple (da_cons (de_lc (own := [("k", 7)]) c (di_rg1 T.b_range (da_cons (de_var 3) da_nil)) (blkOk_by (N := nm__law_right) (sc := defScope st__law_right) (by decide +kernel)) (fun _ _ _ _ _ => ⟨_, (dgv_name (ctx_blk c) 7)⟩) (fun _ _ _ _ _ => ⟨_, (dts_one (dt_not (dt_tru (de_ix (hu_of hr) (de_var 5) (de_var 7) (fun _ _ => rfl)))))⟩) (fun _ _ _ _ _ => ⟨_, (de_var 7)⟩)) da_nil)) da_nil)))))
 (dss_one (ds_ret de_bl))
 dss_nil)
 (dss_cons (ds_for c (di_rg3 T.b_range (da_cons de_int (da_cons (de_len T.b_len (da_cons (de_var 4) da_nil)) (da_cons (de_var 1) da_nil)))) (dg_name c 7)
 (dss_one (ds_if (dt_not (dt_val (de_call F__law_same c hr (by omega) (da_cons (de_call F__law_told c hr (by omega) (da_cons (de_var 0) (da_cons (de_ix (hu_of hr) (de_var 4) (de_var 7) (fun _ _ => rfl)) da_nil))) (da_cons (de_tup (da_cons de_str (da_cons (de_ix (hu_of hr) (de_var 2) (de_ix (hu_of hr) (de_var 4) (de_var 7) (fun _ _ => rfl)) (fun _ _ => rfl)) da_nil))) da_nil)))))
 (dss_one (ds_ret de_bl))
 dss_nil)))
 (dss_cons (ds_set c 8 (de_lst (da_cons de_str (da_cons de_str (da_cons de_str (da_cons de_str (da_cons (de_op op_addAny sim_add (de_ix (hu_of hr) (de_var 4) de_int (fun _ _ => rfl)) de_str) (da_cons (de_sl sim_sl (de_ix (hu_of hr) (de_var 4) de_int (fun _ _ => rfl)) do_none (do_some (de_un un_neg sim_neg de_int))) (da_cons (de_op op_addAny sim_add de_str (de_ix (hu_of hr) (de_var 4) (de_un un_neg sim_neg de_int) (fun _ _ => rfl))) (da_cons (de_sl sim_sl (de_ix (hu_of hr) (de_var 4) (de_un un_neg sim_neg de_int) (fun _ _ => rfl)) do_none (do_some (de_un un_neg sim_neg de_int))) da_nil))))))))))
 (dss_cons (ds_for c (di_seq (de_var 8)) (dg_name c 6)
 (dss_one (ds_if (DW.dt (dw_and (dt_cmp (op_notInAny (hu_of hr)) sim_notIn (de_var 6) (de_var 2) (by rfl)) (dw_and1 (dt_not (dt_val (de_call F__law_same c hr (by omega) (da_cons (de_call F__law_told c hr (by omega) (da_cons (de_var 0) (da_cons (de_var 6) da_nil))) (da_cons (de_tup (da_cons de_str (da_cons (de_var 6) (da_cons de_bl da_nil)))) da_nil))))))))
 (dss_one (ds_ret de_bl))
 dss_nil)))
 (dss_one (ds_ret de_bl))))))))))), ?_⟩
  subst e
  simp [startD, bodyE]
  intro f0 hf i0 hi k0 hk
  have fi : f0 ≠ i0 := fun z => by rw [← z, mset_same] at hi; cases hi
  have fk : f0 ≠ k0 := fun z => by rw [← z, mset_ne fi, mset_same] at hk; cases hk
  have ik : i0 ≠ k0 := fun z => by rw [← z, mset_same] at hk; cases hk
  have ul := uses_len t
  have pl := t.parts_len
  have dl := t.depth_le
  refine ⟨t, [], i0, k0, f0, 0, [], [], [], [], fun _ => 0, rfl, by omega, hw, hnd, ik, Ne.symm fi, Ne.symm fk, by rw [mset_ne ik, mset_same], rfl, by rw [mset_same]; rfl, by rw [mset_ne fk, mset_ne fi, mset_same], rfl, fun x _ => rfl, fun x _ => Nat.le_refl 0, (fun x _ h => nomatch h), by simp; omega, by simp; omega, by simp; omega, fun μ1 kJ dJ h1 _ _ _ _ _ h7 => ?_⟩
  simp only [Nat.zero_add, List.nil_append, arnd_top] at h7
  simp [h7]
  have rep : ∀ n : Nat, (List.replicate n [Dat.bl false]).flatten = List.replicate n (Dat.bl false) := fun n => by
    induction n with
    | zero => rfl
    | succ n ih => rw [List.replicate_succ, List.flatten_cons, ih]; rfl
  refine ⟨[.bl false], _, rfl, rfl, by omega, by omega, by simp; omega, fun p5 hp5 => ?_⟩
  rw [Int.toNat_natCast, rep]
  have f5 : p5 ≠ f0 := fun z => by rw [z, h7] at hp5; cases hp5
  rw [show List.replicate t.parts.length (Dat.bl false) = metL t.parts.length t [] [] from metL_nil.symm]
  refine forL_inv (keyD ∘ Sum.inr) (fun pre rest ρ μ' => ∃ (y6 y7 y9 : Option Dat), ρ = [some t.dat, some (.int j), some (.cell f0), some (.int t.parts.length), some (.lst (t.uses.map (keyD ∘ Sum.inr))), some (.cell p5), y6, y7, none, y9] ∧ μ' = mset μ1 p5 (.lst (metL t.parts.length t pre [])) ∧ pre ++ rest = t.uses) ?_ ?_ t.uses [] _ _ ⟨none, none, none, rfl, rfl, rfl⟩
  · rintro pre x r ρ μ' N ⟨y6, y7, y9, rfl, rfl, hpre⟩ hN
    have hx : x ∈ t.uses := by rw [← hpre]; simp
    simp
    refine ⟨_, .inr ⟨_, _, _, dicOf_cell'.mpr (by rw [mset_ne (Ne.symm f5)]; exact h7), rfl, atK_map hx⟩, _, rfl, ?_⟩
    refine forL_inv (fun (k : Nat) => Dat.int k) (fun pre2 rest2 ρ μ' => ∃ (y9 : Option Dat), ρ = [some t.dat, some (.int j), some (.cell f0), some (.int t.parts.length), some (.lst (t.uses.map (keyD ∘ Sum.inr))), some (.cell p5), some (.str x), y7, none, y9] ∧ μ' = mset μ1 p5 (.lst (metL t.parts.length t pre pre2)) ∧ pre2 ++ rest2 = (occ x 0 t).reverse) ?_ ?_ (occ x 0 t).reverse [] _ _ ⟨y9, rfl, rfl, rfl⟩
    · rintro pre2 k r2 ρ μ' N2 ⟨y9, rfl, rfl, hpre2⟩ hN2
      have hk : k ∈ occ x 0 t := by rw [← List.mem_reverse, ← hpre2]; simp
      have hkl : k < (metL t.parts.length t pre pre2).length := by have := occ_lt hk; simpa [metL] using this
      simp
      exact ⟨k, ixn hkl, hN2 _ _ ⟨_, rfl, by rw [metL_set], by rw [List.append_assoc]; exact hpre2⟩⟩
    · rintro pre2 ρ μ' ⟨y9, rfl, rfl, hpre2⟩
      rw [List.append_nil] at hpre2
      subst hpre2
      exact ⟨trivial, hN _ _ ⟨_, _, _, rfl, by rw [metL_next], by rw [List.append_assoc]; exact hpre⟩⟩
  · rintro pre ρ μ' ⟨y6, y7, y9, rfl, rfl, hpre⟩
    rw [List.append_nil] at hpre
    subst hpre
    have sok : ∀ x ∈ t.uses, PyData.strOk x = true := fun x hx => (hok x hx).1
    simp
    refine ⟨t, rfl, by omega, sok, ?_⟩
    refine ⟨by omega, ?_⟩
    refine lcL_pure (fun (k : Nat) => Dat.int ((0 : Int) + (k : Int))) (fun k => !decide (∃ x ∈ t.uses, k ∈ occ x 0 t)) (fun k => .int (k : Nat)) trivial (List.range t.parts.length) [] (fun z hz R1 R0 h1 h0 => ?_) (by simp; omega) ?_
    · have hzl : z < t.parts.length := List.mem_range.mp hz
      have hat : (metL t.parts.length t t.uses [])[z]? = some (.bl (decide (∃ x ∈ t.uses, z ∈ occ x 0 t))) := by simp [metL, hzl]
      simp [atI_nat', hat]
      by_cases h : ∃ x ∈ t.uses, z ∈ occ x 0 t
      · simp [h] at h0 ⊢
        exact .inr h0
      · simp [h] at h1 ⊢
        exact ⟨fun x hx hz => h ⟨x, hx, hz⟩, h1⟩
    · rw [List.nil_append, ← clos_eq]
      have cl : (clos t).length ≤ 1000 := by
        rw [clos_eq]
        exact Nat.le_trans (List.length_filter_le _ _) (by rw [List.length_range]; omega)
      refine ⟨_, _, rfl, by simp [seenD], by simp [samey]; omega, .inr ⟨rfl, ?_⟩⟩
      refine ⟨0, t.uses.length, j, ⟨rfl, rfl, rfl⟩, ⟨by omega, by omega, by omega, by omega, by omega, by omega⟩, ?_⟩
      refine forL_inv (fun (k : Nat) => Dat.int ((0 : Int) + (k : Int) * (j : Int))) (fun pre rest ρ μ' => ∃ (y6 y7 y8 y9 : Option Dat), ρ = [some t.dat, some (.int j), some (.cell f0), some (.int t.parts.length), some (.lst (t.uses.map (keyD ∘ Sum.inr))), some (.cell p5), y6, y7, y8, y9] ∧ μ' = mset μ1 p5 (.lst (metL t.parts.length t t.uses [])) ∧ pre ++ rest = List.range (stp 0 t.uses.length j)) ?_ ?_ (List.range (stp 0 t.uses.length j)) [] _ _ ⟨_, _, _, _, rfl, rfl, rfl⟩
      · rintro pre z r ρ μ' N ⟨y6, y7, y8, y9, rfl, rfl, hpre⟩ hN
        have hz : z ∈ List.range (stp 0 t.uses.length j) := by rw [← hpre]; simp
        have hz2 := stp_lt (show (0 : Int) < j by omega) (List.mem_range.mp hz)
        have hz3 : z * j < t.uses.length := by
          have : ((z * j : Nat) : Int) < t.uses.length := by push_cast; exact hz2
          omega
        have hat : atI (t.uses.map (keyD ∘ Sum.inr)) ((z : Int) * (j : Int)) = some (.str t.uses[z * j]) := by
          have := atI_nat' (xs := t.uses.map (keyD ∘ Sum.inr)) (j := z * j)
          rw [List.getElem?_map, List.getElem?_eq_getElem hz3] at this
          push_cast at this
          exact this
        generalize ex : t.uses[z * j] = x at hat
        have hx : x ∈ t.uses := by rw [← ex]; exact List.getElem_mem _
        have ol := occ_len (x := x) (n := 0) (t := t)
        simp [hat]
        refine ⟨t, x, rfl, by omega, sok, fun _ => ?_, fun h => absurd h (occ_ne hx 0)⟩
        refine ⟨_, .inr ⟨_, _, _, dicOf_cell'.mpr (by rw [mset_ne (Ne.symm f5)]; exact h7), rfl, atK_map hx⟩, _, _, rfl, by simp [seenD], by simp [samey]; omega, .inr ⟨rfl, ?_⟩⟩
        exact hN _ _ ⟨_, _, _, _, rfl, rfl, by rw [List.append_assoc]; exact hpre⟩
      · rintro pre ρ μ' ⟨y6, y7, y8, y9, rfl, rfl, hpre⟩
        have hpos : 0 < t.uses.length := List.length_pos_iff.mpr (uses_ne t)
        obtain ⟨a, ha⟩ : ∃ a, t.uses[0]? = some a := ⟨t.uses[0], List.getElem?_eq_getElem hpos⟩
        obtain ⟨b, hb⟩ : ∃ b, t.uses[t.uses.length - 1]? = some b := ⟨t.uses[t.uses.length - 1], List.getElem?_eq_getElem (by omega)⟩
        have ka := hok a (List.mem_of_getElem? ha)
        have kb := hok b (List.mem_of_getElem? hb)
        have hat0 : atI (t.uses.map (keyD ∘ Sum.inr)) 0 = some (.str a) := by
          have := atI_nat' (xs := t.uses.map (keyD ∘ Sum.inr)) (j := 0)
          rw [List.getElem?_map, ha] at this
          exact this
        have hat1 : atI (t.uses.map (keyD ∘ Sum.inr)) (-1) = some (.str b) := by
          have : L2.ixN (t.uses.map (keyD ∘ Sum.inr)).length (-1) = some (t.uses.length - 1) := by
            unfold L2.ixN
            rw [if_neg (by decide), List.length_map, if_pos (by omega)]
            congr 1
            omega
          unfold L2.atI
          rw [this, Option.bind_some, List.getElem?_map, hb]
          rfl
        have l1 : (Str.ofString "1").length = 1 := by decide
        have l2 : (Str.ofString "x").length = 1 := by decide
        have na := ka.2
        have nb := kb.2
        simp [-u_forL_cons, hat0, hat1, fSl, l1, l2]
        refine ⟨by omega, by omega, by omega, by omega, ?_⟩
        refine forL_inv Dat.str (fun pre rest ρ μ' => ∃ (y6 : Option Dat), ρ = [some t.dat, some (.int j), some (.cell f0), some (.int t.parts.length), some (.lst (t.uses.map (keyD ∘ Sum.inr))), some (.cell p5), y6, y7, some _, y9] ∧ μ' = mset μ1 p5 (.lst (metL t.parts.length t t.uses []))) ?_ ?_ [_, _, _, _, _, _, _, _] [] _ _ ⟨y6, rfl, rfl⟩
        · rintro pre z r ρ μ' N ⟨y6, rfl, rfl⟩ hN
          have hd : μ1 f0 = some (.dK (t.uses.map Sum.inr) (t.uses.map fun x => .tup ((occ x 0 t).reverse.map fun (k : Nat) => .int k))) := h7
          have hdm : (mset μ1 p5 (.lst (metL t.parts.length t t.uses []))) f0 = some (.dK (t.uses.map Sum.inr) (t.uses.map fun x => .tup ((occ x 0 t).reverse.map fun (k : Nat) => .int k))) := by rw [mset_ne (Ne.symm f5)]; exact hd
          simp [inB_cellK hdm]
          by_cases hz : z ∈ t.uses
          · exact .inr ⟨hz, hN _ _ ⟨_, rfl, rfl⟩⟩
          · exact .inl ⟨fun x hx e => hz (e ▸ hx), t, z, rfl, by omega, sok, fun h => absurd (occ_use h) hz, fun _ => ⟨_, _, rfl, by simp [seenD], by simp [samey], .inr ⟨rfl, hN _ _ ⟨_, rfl, rfl⟩⟩⟩⟩
        · rintro pre ρ μ' ⟨y6, rfl, rfl⟩
          simp
          refine ⟨μ, fun x y hx => ?_, q⟩
          have x1 : x ≠ f0 := fun z => by rw [z, hf] at hx; cases hx
          have x2 : x ≠ i0 := fun z => by rw [mset_ne (Ne.symm fi)] at hi; rw [z, hi] at hx; cases hx
          have x3 : x ≠ k0 := fun z => by rw [mset_ne (Ne.symm ik), mset_ne (Ne.symm fk)] at hk; rw [z, hk] at hx; cases hx
          have hm : μ1 x = some y := by rw [h1 x x2 x3 x1, mset_ne x3, mset_ne x2, mset_ne x1]; exact hx
          have x4 : x ≠ p5 := fun z => by rw [z, hp5] at hm; cases hm
          rw [mset_ne x4]
          exact hm
theorem fn_law (T : Top W) : FnA W 102 := by
  refine LawD.ok (k := 101) T.l_law sc_law fun base f cdv A outer s H E hr c ds μ QA EA ⟨ns, e, hl, q⟩ => ?_
  have F__law_made := fn__law_made (base := base) T
  have F__law_digits := fn__law_digits (base := base) T
  have F__law_cell := fn__law_cell (base := base) T
  have F__law_right := fn__law_right (base := base) T
  refine ⟨_, _, (dss_cons (ds_set c 1 de_int)
 (dss_cons (ds_if (dt_cmp (op_eqAny hr.units) sim_eq (de_op op_mod sim_mod (de_int1 T.b_int (da_cons (de_call F__law_cell c hr (by omega) (da_cons (de_var 0) (da_cons de_int da_nil))) da_nil)) de_int) de_int (nomark _))
 (dss_one (ds_set c 1 de_int))
 dss_nil)
 (dss_cons (ds_set c 2 (de_op op_mod sim_mod (de_int1 T.b_int (da_cons (de_call F__law_cell c hr (by omega) (da_cons (de_var 0) (da_cons de_int da_nil))) da_nil)) de_int))
 (dss_cons (ds_set c 3 (de_call F__law_made c hr (by omega) (da_cons (de_call F__law_digits c hr (by omega) (da_cons (de_call F__law_cell c hr (by omega) (da_cons (de_var 0) (da_cons de_int da_nil))) (da_cons (de_var 1) (da_cons de_int da_nil)))) (da_cons (de_var 2) (da_cons (de_call F__law_digits c hr (by omega) (da_cons (de_call F__law_cell c hr (by omega) (da_cons (de_var 0) (da_cons de_int da_nil))) (da_cons de_int (da_cons de_int da_nil)))) da_nil)))))
 (dss_cons (ds_set c 4 (de_call F__law_digits c hr (by omega) (da_cons (de_call F__law_cell c hr (by omega) (da_cons (de_var 0) (da_cons de_int da_nil))) (da_cons de_int (da_cons de_int da_nil)))))
 (dss_cons (ds_set c 5 (de_call F__law_made c hr (by omega) (da_cons (de_var 4) (da_cons (de_op op_mod sim_mod (de_int1 T.b_int (da_cons (de_call F__law_cell c hr (by omega) (da_cons (de_var 0) (da_cons de_int da_nil))) da_nil)) de_int) (da_cons (de_call F__law_digits c hr (by omega) (da_cons (de_call F__law_cell c hr (by omega) (da_cons (de_var 0) (da_cons de_int da_nil))) (da_cons de_int (da_cons de_int da_nil)))) da_nil)))))
 (dss_one (ds_ret (de_and (de_call F__law_right c hr (by omega) (da_cons (de_var 3) (da_cons de_int da_nil))) (de_and (de_call F__law_right c hr (by omega) (da_cons (de_var 5) (da_cons de_int da_nil))) (de_one (de_call F__law_right c hr (by omega) (da_cons (de_var 3) (da_cons de_int da_nil)))))))))))))), ?_⟩
  subst e
  replace q := fgt.here q
  simp [startD, bodyE] at q ⊢
  refine ⟨ns, 0, rfl, fun i0 => ?_⟩
  simp
  by_cases h : i0 % 8 = 5
  · simp [h]
    refine ⟨ns, 2, rfl, fun i2 => ?_⟩
    simp
    obtain ⟨s2, e2, hs2⟩ : ∃ s2 : Nat, i2 % 5 = (s2 : Int) ∧ s2 < 5 := ⟨(i2 % 5).toNat, by omega, by omega⟩
    rw [e2]
    refine ⟨ns, 1, rfl, fun i1 => ⟨i1, 48, 3, rfl, by decide, fun l1 hl1 hx1 => ⟨ns, 3, rfl, fun i3 => ⟨i3, 11, 5, rfl, by decide, fun l2 hl2 hx2 => ⟨l1, l2, s2, rfl, by omega, hs2, hx1, fun x hx => (hx2 x hx).1, fun t1 w1 n1 u1 k1 => ⟨ns, 4, rfl, fun i4 => ⟨i4, 21, 7, rfl, by decide, fun l3 hl3 hx3 => ⟨ns, 5, rfl, fun i5 => ?_⟩⟩⟩⟩⟩⟩⟩⟩
    simp
    obtain ⟨s5, e5, hs5⟩ : ∃ s5 : Nat, i5 % 5 = (s5 : Int) ∧ s5 < 5 := ⟨(i5 % 5).toNat, by omega, by omega⟩
    rw [e5]
    refine ⟨ns, 6, rfl, fun i6 => ⟨i6, 11, 11, rfl, by decide, fun l4 hl4 hx4 => ⟨l3, l4, s5, rfl, by omega, hs5, hx3, fun x hx => (hx4 x hx).1, fun t2 w2 n2 u2 k2 => ?_⟩⟩⟩
    refine ⟨t1, 1, rfl, by decide, by decide, w1, n1, u1, k1, ?_⟩
    simp
    refine ⟨t2, 1, rfl, by decide, by decide, w2, n2, u2, k2, ?_⟩
    simp
    exact ⟨t1, 4, rfl, by decide, by decide, w1, n1, u1, k1, q⟩
  · simp [h]
    refine ⟨ns, 2, rfl, fun i2 => ?_⟩
    simp
    obtain ⟨s2, e2, hs2⟩ : ∃ s2 : Nat, i2 % 5 = (s2 : Int) ∧ s2 < 5 := ⟨(i2 % 5).toNat, by omega, by omega⟩
    rw [e2]
    refine ⟨ns, 1, rfl, fun i1 => ⟨i1, 21, 3, rfl, by decide, fun l1 hl1 hx1 => ⟨ns, 3, rfl, fun i3 => ⟨i3, 11, 5, rfl, by decide, fun l2 hl2 hx2 => ⟨l1, l2, s2, rfl, by omega, hs2, hx1, fun x hx => (hx2 x hx).1, fun t1 w1 n1 u1 k1 => ⟨ns, 4, rfl, fun i4 => ⟨i4, 21, 7, rfl, by decide, fun l3 hl3 hx3 => ⟨ns, 5, rfl, fun i5 => ?_⟩⟩⟩⟩⟩⟩⟩⟩
    simp
    obtain ⟨s5, e5, hs5⟩ : ∃ s5 : Nat, i5 % 5 = (s5 : Int) ∧ s5 < 5 := ⟨(i5 % 5).toNat, by omega, by omega⟩
    rw [e5]
    refine ⟨ns, 6, rfl, fun i6 => ⟨i6, 11, 11, rfl, by decide, fun l4 hl4 hx4 => ⟨l3, l4, s5, rfl, by omega, hs5, hx3, fun x hx => (hx4 x hx).1, fun t2 w2 n2 u2 k2 => ?_⟩⟩⟩
    refine ⟨t1, 1, rfl, by decide, by decide, w1, n1, u1, k1, ?_⟩
    simp
    refine ⟨t2, 1, rfl, by decide, by decide, w2, n2, u2, k2, ?_⟩
    simp
    exact ⟨t1, 4, rfl, by decide, by decide, w1, n1, u1, k1, q⟩

end
theorem all_mk {P : Program} {w : World} {K : PySem.W.Frag} {h : Heap} {mg : Str → Option Value} (X : K.In h) (G : h.Ns mainGlobals mg)
    (bValueError : PySem.W.nsIn K mainGlobals "ValueError" = some none)
    (babs : PySem.W.nsIn K mainGlobals "abs" = some none)
    (bbool : PySem.W.nsIn K mainGlobals "bool" = some none)
    (bdict : PySem.W.nsIn K mainGlobals "dict" = some none)
    (benumerate : PySem.W.nsIn K mainGlobals "enumerate" = some none)
    (bint : PySem.W.nsIn K mainGlobals "int" = some none)
    (bisinstance : PySem.W.nsIn K mainGlobals "isinstance" = some none)
    (blen : PySem.W.nsIn K mainGlobals "len" = some none)
    (blist : PySem.W.nsIn K mainGlobals "list" = some none)
    (brange : PySem.W.nsIn K mainGlobals "range" = some none)
    (bstr : PySem.W.nsIn K mainGlobals "str" = some none)
    (btuple : PySem.W.nsIn K mainGlobals "tuple" = some none)
    {fdbelow : Addr} {oddbelow andbelow : Option Addr} {sldbelow : Array (Option Value)} {ocdbelow kVdbelow dcdbelow pmdbelow cddbelow ctdbelow : Value}
    (adbelow : PySem.W.nsIn K mainGlobals "below" = some (some (.ref fdbelow)))
    (ldbelow : K.lookup fdbelow = some ⟨ocdbelow, oddbelow, .func (PySem.W.fnOf "below" "below" (defArgs st_below) (defBody st_below) (defScope st_below) .none kVdbelow dcdbelow pmdbelow andbelow cddbelow ctdbelow), sldbelow⟩)
    (cdbelow : PySem.W.codeIn K cddbelow "below" = true)
    (kdbelow : PySem.W.keepIn K (.ref fdbelow) = true)
    {fdparts : Addr} {oddparts andparts : Option Addr} {sldparts : Array (Option Value)} {ocdparts kVdparts dcdparts pmdparts cddparts ctdparts : Value}
    (adparts : PySem.W.nsIn K mainGlobals "parts" = some (some (.ref fdparts)))
    (ldparts : K.lookup fdparts = some ⟨ocdparts, oddparts, .func (PySem.W.fnOf "parts" "parts" (defArgs st_parts) (defBody st_parts) (defScope st_parts) .none kVdparts dcdparts pmdparts andparts cddparts ctdparts), sldparts⟩)
    (cdparts : PySem.W.codeIn K cddparts "parts" = true)
    (kdparts : PySem.W.keepIn K (.ref fdparts) = true)
    {fdfree_names : Addr} {oddfree_names andfree_names : Option Addr} {sldfree_names : Array (Option Value)} {ocdfree_names kVdfree_names dcdfree_names pmdfree_names cddfree_names ctdfree_names : Value}
    (adfree_names : PySem.W.nsIn K mainGlobals "free_names" = some (some (.ref fdfree_names)))
    (ldfree_names : K.lookup fdfree_names = some ⟨ocdfree_names, oddfree_names, .func (PySem.W.fnOf "free_names" "free_names" (defArgs st_free_names) (defBody st_free_names) (defScope st_free_names) .none kVdfree_names dcdfree_names pmdfree_names andfree_names cddfree_names ctdfree_names), sldfree_names⟩)
    (cdfree_names : PySem.W.codeIn K cddfree_names "free_names" = true)
    (kdfree_names : PySem.W.keepIn K (.ref fdfree_names) = true)
    {fd_law_cell : Addr} {odd_law_cell and_law_cell : Option Addr} {sld_law_cell : Array (Option Value)} {ocd_law_cell kVd_law_cell dcd_law_cell pmd_law_cell cdd_law_cell ctd_law_cell : Value}
    (ad_law_cell : PySem.W.nsIn K mainGlobals "_law_cell" = some (some (.ref fd_law_cell)))
    (ld_law_cell : K.lookup fd_law_cell = some ⟨ocd_law_cell, odd_law_cell, .func (PySem.W.fnOf "_law_cell" "_law_cell" (defArgs st__law_cell) (defBody st__law_cell) (defScope st__law_cell) .none kVd_law_cell dcd_law_cell pmd_law_cell and_law_cell cdd_law_cell ctd_law_cell), sld_law_cell⟩)
    (cd_law_cell : PySem.W.codeIn K cdd_law_cell "_law_cell" = true)
    (kd_law_cell : PySem.W.keepIn K (.ref fd_law_cell) = true)
    {fd_law_name : Addr} {odd_law_name and_law_name : Option Addr} {sld_law_name : Array (Option Value)} {ocd_law_name kVd_law_name dcd_law_name pmd_law_name cdd_law_name ctd_law_name : Value}
    (ad_law_name : PySem.W.nsIn K mainGlobals "_law_name" = some (some (.ref fd_law_name)))
    (ld_law_name : K.lookup fd_law_name = some ⟨ocd_law_name, odd_law_name, .func (PySem.W.fnOf "_law_name" "_law_name" (defArgs st__law_name) (defBody st__law_name) (defScope st__law_name) .none kVd_law_name dcd_law_name pmd_law_name and_law_name cdd_law_name ctd_law_name), sld_law_name⟩)
    (cd_law_name : PySem.W.codeIn K cdd_law_name "_law_name" = true)
    (kd_law_name : PySem.W.keepIn K (.ref fd_law_name) = true)
    {fd_law_same : Addr} {odd_law_same and_law_same : Option Addr} {sld_law_same : Array (Option Value)} {ocd_law_same kVd_law_same dcd_law_same pmd_law_same cdd_law_same ctd_law_same : Value}
    (ad_law_same : PySem.W.nsIn K mainGlobals "_law_same" = some (some (.ref fd_law_same)))
    (ld_law_same : K.lookup fd_law_same = some ⟨ocd_law_same, odd_law_same, .func (PySem.W.fnOf "_law_same" "_law_same" (defArgs st__law_same) (defBody st__law_same) (defScope st__law_same) .none kVd_law_same dcd_law_same pmd_law_same and_law_same cdd_law_same ctd_law_same), sld_law_same⟩)
    (cd_law_same : PySem.W.codeIn K cdd_law_same "_law_same" = true)
    (kd_law_same : PySem.W.keepIn K (.ref fd_law_same) = true)
    {fd_law_at : Addr} {odd_law_at and_law_at : Option Addr} {sld_law_at : Array (Option Value)} {ocd_law_at kVd_law_at dcd_law_at pmd_law_at cdd_law_at ctd_law_at : Value}
    (ad_law_at : PySem.W.nsIn K mainGlobals "_law_at" = some (some (.ref fd_law_at)))
    (ld_law_at : K.lookup fd_law_at = some ⟨ocd_law_at, odd_law_at, .func (PySem.W.fnOf "_law_at" "_law_at" (defArgs st__law_at) (defBody st__law_at) (defScope st__law_at) .none kVd_law_at dcd_law_at pmd_law_at and_law_at cdd_law_at ctd_law_at), sld_law_at⟩)
    (cd_law_at : PySem.W.codeIn K cdd_law_at "_law_at" = true)
    (kd_law_at : PySem.W.keepIn K (.ref fd_law_at) = true)
    {fd_law_digits : Addr} {odd_law_digits and_law_digits : Option Addr} {sld_law_digits : Array (Option Value)} {ocd_law_digits kVd_law_digits dcd_law_digits pmd_law_digits cdd_law_digits ctd_law_digits : Value}
    (ad_law_digits : PySem.W.nsIn K mainGlobals "_law_digits" = some (some (.ref fd_law_digits)))
    (ld_law_digits : K.lookup fd_law_digits = some ⟨ocd_law_digits, odd_law_digits, .func (PySem.W.fnOf "_law_digits" "_law_digits" (defArgs st__law_digits) (defBody st__law_digits) (defScope st__law_digits) .none kVd_law_digits dcd_law_digits pmd_law_digits and_law_digits cdd_law_digits ctd_law_digits), sld_law_digits⟩)
    (cd_law_digits : PySem.W.codeIn K cdd_law_digits "_law_digits" = true)
    (kd_law_digits : PySem.W.keepIn K (.ref fd_law_digits) = true)
    {fdopen_names : Addr} {oddopen_names andopen_names : Option Addr} {sldopen_names : Array (Option Value)} {ocdopen_names kVdopen_names dcdopen_names pmdopen_names cddopen_names ctdopen_names : Value}
    (adopen_names : PySem.W.nsIn K mainGlobals "open_names" = some (some (.ref fdopen_names)))
    (ldopen_names : K.lookup fdopen_names = some ⟨ocdopen_names, oddopen_names, .func (PySem.W.fnOf "open_names" "open_names" (defArgs st_open_names) (defBody st_open_names) (defScope st_open_names) .none kVdopen_names dcdopen_names pmdopen_names andopen_names cddopen_names ctdopen_names), sldopen_names⟩)
    (cdopen_names : PySem.W.codeIn K cddopen_names "open_names" = true)
    (kdopen_names : PySem.W.keepIn K (.ref fdopen_names) = true)
    {fdclosed_parts : Addr} {oddclosed_parts andclosed_parts : Option Addr} {sldclosed_parts : Array (Option Value)} {ocdclosed_parts kVdclosed_parts dcdclosed_parts pmdclosed_parts cddclosed_parts ctdclosed_parts : Value}
    (adclosed_parts : PySem.W.nsIn K mainGlobals "closed_parts" = some (some (.ref fdclosed_parts)))
    (ldclosed_parts : K.lookup fdclosed_parts = some ⟨ocdclosed_parts, oddclosed_parts, .func (PySem.W.fnOf "closed_parts" "closed_parts" (defArgs st_closed_parts) (defBody st_closed_parts) (defScope st_closed_parts) .none kVdclosed_parts dcdclosed_parts pmdclosed_parts andclosed_parts cddclosed_parts ctdclosed_parts), sldclosed_parts⟩)
    (cdclosed_parts : PySem.W.codeIn K cddclosed_parts "closed_parts" = true)
    (kdclosed_parts : PySem.W.keepIn K (.ref fdclosed_parts) = true)
    {fdcircle : Addr} {oddcircle andcircle : Option Addr} {sldcircle : Array (Option Value)} {ocdcircle kVdcircle dcdcircle pmdcircle cddcircle ctdcircle : Value}
    (adcircle : PySem.W.nsIn K mainGlobals "circle" = some (some (.ref fdcircle)))
    (ldcircle : K.lookup fdcircle = some ⟨ocdcircle, oddcircle, .func (PySem.W.fnOf "circle" "circle" (defArgs st_circle) (defBody st_circle) (defScope st_circle) .none kVdcircle dcdcircle pmdcircle andcircle cddcircle ctdcircle), sldcircle⟩)
    (cdcircle : PySem.W.codeIn K cddcircle "circle" = true)
    (kdcircle : PySem.W.keepIn K (.ref fdcircle) = true)
    {fd_law_term : Addr} {odd_law_term and_law_term : Option Addr} {sld_law_term : Array (Option Value)} {ocd_law_term kVd_law_term dcd_law_term pmd_law_term cdd_law_term ctd_law_term : Value}
    (ad_law_term : PySem.W.nsIn K mainGlobals "_law_term" = some (some (.ref fd_law_term)))
    (ld_law_term : K.lookup fd_law_term = some ⟨ocd_law_term, odd_law_term, .func (PySem.W.fnOf "_law_term" "_law_term" (defArgs st__law_term) (defBody st__law_term) (defScope st__law_term) .none kVd_law_term dcd_law_term pmd_law_term and_law_term cdd_law_term ctd_law_term), sld_law_term⟩)
    (cd_law_term : PySem.W.codeIn K cdd_law_term "_law_term" = true)
    (kd_law_term : PySem.W.keepIn K (.ref fd_law_term) = true)
    {fd_law_shut : Addr} {odd_law_shut and_law_shut : Option Addr} {sld_law_shut : Array (Option Value)} {ocd_law_shut kVd_law_shut dcd_law_shut pmd_law_shut cdd_law_shut ctd_law_shut : Value}
    (ad_law_shut : PySem.W.nsIn K mainGlobals "_law_shut" = some (some (.ref fd_law_shut)))
    (ld_law_shut : K.lookup fd_law_shut = some ⟨ocd_law_shut, odd_law_shut, .func (PySem.W.fnOf "_law_shut" "_law_shut" (defArgs st__law_shut) (defBody st__law_shut) (defScope st__law_shut) .none kVd_law_shut dcd_law_shut pmd_law_shut and_law_shut cdd_law_shut ctd_law_shut), sld_law_shut⟩)
    (cd_law_shut : PySem.W.codeIn K cdd_law_shut "_law_shut" = true)
    (kd_law_shut : PySem.W.keepIn K (.ref fd_law_shut) = true)
    {fd_law_circles : Addr} {odd_law_circles and_law_circles : Option Addr} {sld_law_circles : Array (Option Value)} {ocd_law_circles kVd_law_circles dcd_law_circles pmd_law_circles cdd_law_circles ctd_law_circles : Value}
    (ad_law_circles : PySem.W.nsIn K mainGlobals "_law_circles" = some (some (.ref fd_law_circles)))
    (ld_law_circles : K.lookup fd_law_circles = some ⟨ocd_law_circles, odd_law_circles, .func (PySem.W.fnOf "_law_circles" "_law_circles" (defArgs st__law_circles) (defBody st__law_circles) (defScope st__law_circles) .none kVd_law_circles dcd_law_circles pmd_law_circles and_law_circles cdd_law_circles ctd_law_circles), sld_law_circles⟩)
    (cd_law_circles : PySem.W.codeIn K cdd_law_circles "_law_circles" = true)
    (kd_law_circles : PySem.W.keepIn K (.ref fd_law_circles) = true)
    {fd_law_made : Addr} {odd_law_made and_law_made : Option Addr} {sld_law_made : Array (Option Value)} {ocd_law_made kVd_law_made dcd_law_made pmd_law_made cdd_law_made ctd_law_made : Value}
    (ad_law_made : PySem.W.nsIn K mainGlobals "_law_made" = some (some (.ref fd_law_made)))
    (ld_law_made : K.lookup fd_law_made = some ⟨ocd_law_made, odd_law_made, .func (PySem.W.fnOf "_law_made" "_law_made" (defArgs st__law_made) (defBody st__law_made) (defScope st__law_made) .none kVd_law_made dcd_law_made pmd_law_made and_law_made cdd_law_made ctd_law_made), sld_law_made⟩)
    (cd_law_made : PySem.W.codeIn K cdd_law_made "_law_made" = true)
    (kd_law_made : PySem.W.keepIn K (.ref fd_law_made) = true)
    {fd_law_told : Addr} {odd_law_told and_law_told : Option Addr} {sld_law_told : Array (Option Value)} {ocd_law_told kVd_law_told dcd_law_told pmd_law_told cdd_law_told ctd_law_told : Value}
    (ad_law_told : PySem.W.nsIn K mainGlobals "_law_told" = some (some (.ref fd_law_told)))
    (ld_law_told : K.lookup fd_law_told = some ⟨ocd_law_told, odd_law_told, .func (PySem.W.fnOf "_law_told" "_law_told" (defArgs st__law_told) (defBody st__law_told) (defScope st__law_told) .none kVd_law_told dcd_law_told pmd_law_told and_law_told cdd_law_told ctd_law_told), sld_law_told⟩)
    (cd_law_told : PySem.W.codeIn K cdd_law_told "_law_told" = true)
    (kd_law_told : PySem.W.keepIn K (.ref fd_law_told) = true)
    {fd_law_right : Addr} {odd_law_right and_law_right : Option Addr} {sld_law_right : Array (Option Value)} {ocd_law_right kVd_law_right dcd_law_right pmd_law_right cdd_law_right ctd_law_right : Value}
    (ad_law_right : PySem.W.nsIn K mainGlobals "_law_right" = some (some (.ref fd_law_right)))
    (ld_law_right : K.lookup fd_law_right = some ⟨ocd_law_right, odd_law_right, .func (PySem.W.fnOf "_law_right" "_law_right" (defArgs st__law_right) (defBody st__law_right) (defScope st__law_right) .none kVd_law_right dcd_law_right pmd_law_right and_law_right cdd_law_right ctd_law_right), sld_law_right⟩)
    (cd_law_right : PySem.W.codeIn K cdd_law_right "_law_right" = true)
    (kd_law_right : PySem.W.keepIn K (.ref fd_law_right) = true)
    {fdlaw : Addr} {oddlaw andlaw : Option Addr} {sldlaw : Array (Option Value)} {ocdlaw kVdlaw dcdlaw pmdlaw cddlaw ctdlaw : Value}
    (adlaw : PySem.W.nsIn K mainGlobals "law" = some (some (.ref fdlaw)))
    (ldlaw : K.lookup fdlaw = some ⟨ocdlaw, oddlaw, .func (PySem.W.fnOf "law" "law" (defArgs st_law) (defBody st_law) (defScope st_law) .none kVdlaw dcdlaw pmdlaw andlaw cddlaw ctdlaw), sldlaw⟩)
    (cdlaw : PySem.W.codeIn K cddlaw "law" = true)
    (kdlaw : PySem.W.keepIn K (.ref fdlaw) = true)
    {CBadName : Addr}
    (nBadName : PySem.W.nsIn K mainGlobals "BadName" = some (some (.ref CBadName)))
    {CDrawnonceError : Addr}
    (nDrawnonceError : PySem.W.nsIn K mainGlobals "DrawnonceError" = some (some (.ref CDrawnonceError)))
    {CNameFault : Addr}
    (nNameFault : PySem.W.nsIn K mainGlobals "NameFault" = some (some (.ref CNameFault)))
    {CRepeated : Addr}
    (nRepeated : PySem.W.nsIn K mainGlobals "Repeated" = some (some (.ref CRepeated)))
    {CUnknownName : Addr}
    (nUnknownName : PySem.W.nsIn K mainGlobals "UnknownName" = some (some (.ref CUnknownName)))
    {CUnused : Addr}
    (nUnused : PySem.W.nsIn K mainGlobals "Unused" = some (some (.ref CUnused)))
    (e1UnknownName : PySem.W.findIn K (.ref CUnknownName) "__getattribute__" = some (some (.builtin "BaseException.__getattribute__")))
    (e2UnknownName : PySem.W.findIn K (.ref CUnknownName) "__getattr__" = some none)
    (sUnknownName : PySem.W.subIn K (.ref CUnknownName) (.type "BaseException") = some true)
    (hUnknownName : PySem.W.hasDictIn K CUnknownName = true)
    (e3UnknownName : PySem.W.findIn K (.ref CUnknownName) "__class__" = some (some (.builtin "object.__class__")))
    (e4 : PySem.W.specialIn K (.builtin "object.__class__") "__get__" = some (some (.builtin "getset_descriptor.__get__")))
    (e5 : PySem.W.takesIn K (.builtin "object.__class__") = some true)
    (e6UnknownName : PySem.W.mroIn K CUnknownName (.type "object") = some true)
    (tUnknownName : PySem.W.typeIn K (.ref CUnknownName) = some (.type "type"))
    (uUnknownName_UnknownName : PySem.W.subIn K (.ref CUnknownName) (.ref CUnknownName) = some true)
    (hBadName : PySem.W.hasDictIn K CBadName = true)
    (tBadName : PySem.W.typeIn K (.ref CBadName) = some (.type "type"))
    (uUnknownName_BadName : PySem.W.subIn K (.ref CUnknownName) (.ref CBadName) = some false)
    (hDrawnonceError : PySem.W.hasDictIn K CDrawnonceError = true)
    (tDrawnonceError : PySem.W.typeIn K (.ref CDrawnonceError) = some (.type "type"))
    (uUnknownName_DrawnonceError : PySem.W.subIn K (.ref CUnknownName) (.ref CDrawnonceError) = some true)
    (hNameFault : PySem.W.hasDictIn K CNameFault = true)
    (tNameFault : PySem.W.typeIn K (.ref CNameFault) = some (.type "type"))
    (uUnknownName_NameFault : PySem.W.subIn K (.ref CUnknownName) (.ref CNameFault) = some true)
    (hRepeated : PySem.W.hasDictIn K CRepeated = true)
    (tRepeated : PySem.W.typeIn K (.ref CRepeated) = some (.type "type"))
    (uUnknownName_Repeated : PySem.W.subIn K (.ref CUnknownName) (.ref CRepeated) = some false)
    (hUnused : PySem.W.hasDictIn K CUnused = true)
    (tUnused : PySem.W.typeIn K (.ref CUnused) = some (.type "type"))
    (uUnknownName_Unused : PySem.W.subIn K (.ref CUnknownName) (.ref CUnused) = some false)
    (vUnknownName : PySem.W.subIn K (.ref CUnknownName) (.type "ValueError") = some true)
    {NUnknownName : Addr} {nmUnknownName qUnknownName : Str} {bsUnknownName bmUnknownName : List Value} {snUnknownName : List Str} {subUnknownName : List Value} {abUnknownName : Bool} {colUnknownName : Option Bool} {ddUnknownName : Option Addr} {k0UnknownName k1UnknownName k2UnknownName k3UnknownName k5UnknownName : Option Value}
    (lcUnknownName : K.lookup CUnknownName = some (excClassObj nmUnknownName qUnknownName CUnknownName NUnknownName bsUnknownName bmUnknownName true snUnknownName subUnknownName abUnknownName colUnknownName ddUnknownName k0UnknownName k1UnknownName k2UnknownName k3UnknownName k5UnknownName "ValueError.__new__"))
    (rvUnknownName : PySem.HandSPX.refsVE bmUnknownName = true)
    (saUnknownName : PySem.W.findIn K (.ref CUnknownName) "__setattr__" = some (some (.builtin "object.__setattr__")))
    (kUnknownName : PySem.W.keepIn K (.ref CUnknownName) = true)
    (hsUnknownName : PySem.W.mroIn K CUnknownName (.ref CNameFault) = some true)
    (spUnknownName : PySem.W.ks_superIn K CUnknownName CNameFault "__init__" = some (some (.builtin "ValueError.__init__")))
    (fnUnknownName : PySem.W.findIn K (.ref CUnknownName) "name" = some none)
    {fINameFault cdaNameFault ccNameFault : Addr} {nmINameFault qINameFault : Str} {kVNameFault docNameFault pmNameFault ctNameFault ocNameFault cclNameFault clNameFault : Value} {anNameFault odNameFault cddNameFault cldNameFault : Option Addr} {oslNameFault ccsNameFault cslNameFault : Array (Option Value)} {vsNameFault : Array Value} {fileNameFault : Str} {tfNameFault : Tok} {cdDNameFault : ClassData}
    (hiUnknownName : PySem.W.findIn K (.ref CUnknownName) "__init__" = some (some (.ref fINameFault)))
    (htNameFault : PySem.W.typeIn K (.ref fINameFault) = some (.type "function"))
    (lfNameFault : K.lookup fINameFault = some ⟨ocNameFault, odNameFault, .func (PySem.W.ksFn nmINameFault qINameFault (defArgs si_NameFault) (defBody si_NameFault) (defScope si_NameFault) .none kVNameFault docNameFault pmNameFault anNameFault (.ref cdaNameFault) ctNameFault ccNameFault), oslNameFault⟩)
    (hcNameFault : PySem.W.codeIn K (.ref cdaNameFault) qINameFault = true)
    (lcdNameFault : K.lookup cdaNameFault = some ⟨cclNameFault, cddNameFault, .fields vsNameFault, ccsNameFault⟩)
    (hvsNameFault : vsNameFault[2]? = some (.str fileNameFault tfNameFault))
    (hflNameFault : ((P.main.file : Str) == fileNameFault) = true)
    (lccNameFault : K.lookup ccNameFault = some ⟨clNameFault, cldNameFault, .cell (some (.ref CNameFault)), cslNameFault⟩)
    (hDNameFault : PySem.W.clsIn K CNameFault = some cdDNameFault)
    (gsuper : PySem.W.nsIn K mainGlobals "super" = some none)
    (tsuper : (P.main.scope.names.lookup ("super" : Str)).isSome = false)
    (opq : PySem.W.nsIn K cStatics "thirdparty.any" = some none) : Top (wmk P w K mg) := ⟨
    PySem.W.mg_none_of X G bValueError,
    PySem.W.mg_none_of X G babs,
    PySem.W.mg_none_of X G bbool,
    PySem.W.mg_none_of X G bdict,
    PySem.W.mg_none_of X G benumerate,
    PySem.W.mg_none_of X G bint,
    PySem.W.mg_none_of X G bisinstance,
    PySem.W.mg_none_of X G blen,
    PySem.W.mg_none_of X G blist,
    PySem.W.mg_none_of X G brange,
    PySem.W.mg_none_of X G bstr,
    PySem.W.mg_none_of X G btuple,
    def_mk (PySem.W.mg_of X G adbelow) ldbelow cdbelow kdbelow fun _ _ _ _ _ _ us hl => match us, hl with | [_], _ => rfl,
    def_mk (PySem.W.mg_of X G adparts) ldparts cdparts kdparts fun _ _ _ _ _ _ us hl => match us, hl with | [_], _ => rfl,
    def_mk (PySem.W.mg_of X G adfree_names) ldfree_names cdfree_names kdfree_names fun _ _ _ _ _ _ us hl => match us, hl with | [_], _ => rfl,
    def_mk (PySem.W.mg_of X G ad_law_cell) ld_law_cell cd_law_cell kd_law_cell fun _ _ _ _ _ _ us hl => match us, hl with | [_, _], _ => rfl,
    def_mk (PySem.W.mg_of X G ad_law_name) ld_law_name cd_law_name kd_law_name fun _ _ _ _ _ _ us hl => match us, hl with | [_, _], _ => rfl,
    def_mk (PySem.W.mg_of X G ad_law_same) ld_law_same cd_law_same kd_law_same fun _ _ _ _ _ _ us hl => match us, hl with | [_, _], _ => rfl,
    def_mk (PySem.W.mg_of X G ad_law_at) ld_law_at cd_law_at kd_law_at fun _ _ _ _ _ _ us hl => match us, hl with | [_, _], _ => rfl,
    def_mk (PySem.W.mg_of X G ad_law_digits) ld_law_digits cd_law_digits kd_law_digits fun _ _ _ _ _ _ us hl => match us, hl with | [_, _, _], _ => rfl,
    def_mk (PySem.W.mg_of X G adopen_names) ldopen_names cdopen_names kdopen_names fun _ _ _ _ _ _ us hl => match us, hl with | [_], _ => rfl,
    def_mk (PySem.W.mg_of X G adclosed_parts) ldclosed_parts cdclosed_parts kdclosed_parts fun _ _ _ _ _ _ us hl => match us, hl with | [_], _ => rfl,
    def_mk (PySem.W.mg_of X G adcircle) ldcircle cdcircle kdcircle fun _ _ _ _ _ _ us hl => match us, hl with | [_, _], _ => rfl,
    def_mk (PySem.W.mg_of X G ad_law_term) ld_law_term cd_law_term kd_law_term fun _ _ _ _ _ _ us hl => match us, hl with | [_, _], _ => rfl,
    def_mk (PySem.W.mg_of X G ad_law_shut) ld_law_shut cd_law_shut kd_law_shut fun _ _ _ _ _ _ us hl => match us, hl with | [_, _, _], _ => rfl,
    def_mk (PySem.W.mg_of X G ad_law_circles) ld_law_circles cd_law_circles kd_law_circles fun _ _ _ _ _ _ us hl => match us, hl with | [_, _, _, _, _], _ => rfl,
    def_mk (PySem.W.mg_of X G ad_law_made) ld_law_made cd_law_made kd_law_made fun _ _ _ _ _ _ us hl => match us, hl with | [_, _, _], _ => rfl,
    def_mk (PySem.W.mg_of X G ad_law_told) ld_law_told cd_law_told kd_law_told fun _ _ _ _ _ _ us hl => match us, hl with | [_, _], _ => rfl,
    def_mk (PySem.W.mg_of X G ad_law_right) ld_law_right cd_law_right kd_law_right fun _ _ _ _ _ _ us hl => match us, hl with | [_, _], _ => rfl,
    law_mk (PySem.W.mg_of X G adlaw) ldlaw cdlaw kdlaw fun u => rfl,
    cl_mk (PySem.W.mg_of X G nBadName),
    cl_mk (PySem.W.mg_of X G nDrawnonceError),
    cl_mk (PySem.W.mg_of X G nNameFault),
    cl_mk (PySem.W.mg_of X G nRepeated),
    cl_mk (PySem.W.mg_of X G nUnknownName),
    cl_mk (PySem.W.mg_of X G nUnused),
    exc_mk (PySem.W.mg_of X G nUnknownName) ⟨e1UnknownName, e2UnknownName, sUnknownName, hUnknownName, e3UnknownName, e4, e5, e6UnknownName⟩,
    ex_mk (PySem.W.mg_of X G nUnknownName) (PySem.W.mg_of X G nUnknownName) sUnknownName hUnknownName tUnknownName uUnknownName_UnknownName,
    ix_mk (PySem.W.mg_of X G nUnknownName) (PySem.W.mg_of X G nBadName) hBadName tBadName uUnknownName_UnknownName uUnknownName_BadName,
    ix_mk (PySem.W.mg_of X G nUnknownName) (PySem.W.mg_of X G nDrawnonceError) hDrawnonceError tDrawnonceError uUnknownName_UnknownName uUnknownName_DrawnonceError,
    ix_mk (PySem.W.mg_of X G nUnknownName) (PySem.W.mg_of X G nNameFault) hNameFault tNameFault uUnknownName_UnknownName uUnknownName_NameFault,
    ix_mk (PySem.W.mg_of X G nUnknownName) (PySem.W.mg_of X G nRepeated) hRepeated tRepeated uUnknownName_UnknownName uUnknownName_Repeated,
    ix_mk (PySem.W.mg_of X G nUnknownName) (PySem.W.mg_of X G nUnused) hUnused tUnused uUnknownName_UnknownName uUnknownName_Unused,
    ixv_mk (PySem.W.mg_of X G nUnknownName) vUnknownName,
    raiseF_mk su_NameFault (PySem.W.mg_of X G nUnknownName) lcUnknownName rvUnknownName saUnknownName sUnknownName tUnknownName kUnknownName hsUnknownName spUnknownName vUnknownName fnUnknownName hiUnknownName htNameFault lfNameFault hcNameFault lcdNameFault hvsNameFault hflNameFault lccNameFault hDNameFault (PySem.W.mg_none_of X G gsuper) tsuper opq⟩
end K31
open PySem PySem.W PyProof.Rows
theorem PySem.Challenge.cw_drawnonce_k31_circles_and_closed_parts_holds : PySem.Challenge.rw_drawnonce_k31_circles_and_closed_parts.Holds := by
  w_on; o_law; k_head; (case hw => w_witness2)
  k_fill
  refine DL.walk_law (l := PySem.Challenge.rw_drawnonce_k31_circles_and_closed_parts) (k := 102) rfl rfl ⟨rfl, by decide, by decide⟩ (fun w h Y => PySem.W.kIn_of Y) rfl ?F
  case F =>
    intro w mg fa h KX G hmg
    refine K31.fn_law ?T
    refine' K31.all_mk KX G ?bValueError ?babs ?bbool ?bdict ?benumerate ?bint ?bisinstance ?blen ?blist ?brange ?bstr ?btuple ?adbelow ?ldbelow ?cdbelow ?kdbelow ?adparts ?ldparts ?cdparts ?kdparts ?adfree_names ?ldfree_names ?cdfree_names ?kdfree_names ?ad_law_cell ?ld_law_cell ?cd_law_cell ?kd_law_cell ?ad_law_name ?ld_law_name ?cd_law_name ?kd_law_name ?ad_law_same ?ld_law_same ?cd_law_same ?kd_law_same ?ad_law_at ?ld_law_at ?cd_law_at ?kd_law_at ?ad_law_digits ?ld_law_digits ?cd_law_digits ?kd_law_digits ?adopen_names ?ldopen_names ?cdopen_names ?kdopen_names ?adclosed_parts ?ldclosed_parts ?cdclosed_parts ?kdclosed_parts ?adcircle ?ldcircle ?cdcircle ?kdcircle ?ad_law_term ?ld_law_term ?cd_law_term ?kd_law_term ?ad_law_shut ?ld_law_shut ?cd_law_shut ?kd_law_shut ?ad_law_circles ?ld_law_circles ?cd_law_circles ?kd_law_circles ?ad_law_made ?ld_law_made ?cd_law_made ?kd_law_made ?ad_law_told ?ld_law_told ?cd_law_told ?kd_law_told ?ad_law_right ?ld_law_right ?cd_law_right ?kd_law_right ?adlaw ?ldlaw ?cdlaw ?kdlaw ?nBadName ?nDrawnonceError ?nNameFault ?nRepeated ?nUnknownName ?nUnused ?e1UnknownName ?e2UnknownName ?sUnknownName ?hUnknownName ?e3UnknownName ?e4 ?e5 ?e6UnknownName ?tUnknownName ?uUnknownName_UnknownName ?hBadName ?tBadName ?uUnknownName_BadName ?hDrawnonceError ?tDrawnonceError ?uUnknownName_DrawnonceError ?hNameFault ?tNameFault ?uUnknownName_NameFault ?hRepeated ?tRepeated ?uUnknownName_Repeated ?hUnused ?tUnused ?uUnknownName_Unused ?vUnknownName ?lcUnknownName ?rvUnknownName ?saUnknownName ?kUnknownName ?hsUnknownName ?spUnknownName ?fnUnknownName ?hiUnknownName ?htNameFault ?lfNameFault ?hcNameFault ?lcdNameFault ?hvsNameFault ?hflNameFault ?lccNameFault ?hDNameFault ?gsuper ?tsuper ?opq
    (case bValueError => k_is)
    (case babs => k_is)
    (case bbool => k_is)
    (case bdict => k_is)
    (case benumerate => k_is)
    (case bint => k_is)
    (case bisinstance => k_is)
    (case blen => k_is)
    (case blist => k_is)
    (case brange => k_is)
    (case bstr => k_is)
    (case btuple => k_is)
    (case adbelow => k_is)
    (case ldbelow => k_is)
    (case cdbelow => k_is)
    (case kdbelow => k_is)
    (case adparts => k_is)
    (case ldparts => k_is)
    (case cdparts => k_is)
    (case kdparts => k_is)
    (case adfree_names => k_is)
    (case ldfree_names => k_is)
    (case cdfree_names => k_is)
    (case kdfree_names => k_is)
    (case ad_law_cell => k_is)
    (case ld_law_cell => k_is)
    (case cd_law_cell => k_is)
    (case kd_law_cell => k_is)
    (case ad_law_name => k_is)
    (case ld_law_name => k_is)
    (case cd_law_name => k_is)
    (case kd_law_name => k_is)
    (case ad_law_same => k_is)
    (case ld_law_same => k_is)
    (case cd_law_same => k_is)
    (case kd_law_same => k_is)
    (case ad_law_at => k_is)
    (case ld_law_at => k_is)
    (case cd_law_at => k_is)
    (case kd_law_at => k_is)
    (case ad_law_digits => k_is)
    (case ld_law_digits => k_is)
    (case cd_law_digits => k_is)
    (case kd_law_digits => k_is)
    (case adopen_names => k_is)
    (case ldopen_names => k_is)
    (case cdopen_names => k_is)
    (case kdopen_names => k_is)
    (case adclosed_parts => k_is)
    (case ldclosed_parts => k_is)
    (case cdclosed_parts => k_is)
    (case kdclosed_parts => k_is)
    (case adcircle => k_is)
    (case ldcircle => k_is)
    (case cdcircle => k_is)
    (case kdcircle => k_is)
    (case ad_law_term => k_is)
    (case ld_law_term => k_is)
    (case cd_law_term => k_is)
    (case kd_law_term => k_is)
    (case ad_law_shut => k_is)
    (case ld_law_shut => k_is)
    (case cd_law_shut => k_is)
    (case kd_law_shut => k_is)
    (case ad_law_circles => k_is)
    (case ld_law_circles => k_is)
    (case cd_law_circles => k_is)
    (case kd_law_circles => k_is)
    (case ad_law_made => k_is)
    (case ld_law_made => k_is)
    (case cd_law_made => k_is)
    (case kd_law_made => k_is)
    (case ad_law_told => k_is)
    (case ld_law_told => k_is)
    (case cd_law_told => k_is)
    (case kd_law_told => k_is)
    (case ad_law_right => k_is)
    (case ld_law_right => k_is)
    (case cd_law_right => k_is)
    (case kd_law_right => k_is)
    (case adlaw => k_is)
    (case ldlaw => k_is)
    (case cdlaw => k_is)
    (case kdlaw => k_is)
    (case nBadName => k_is)
    (case nDrawnonceError => k_is)
    (case nNameFault => k_is)
    (case nRepeated => k_is)
    (case nUnknownName => k_is)
    (case nUnused => k_is)
    (case e1UnknownName => k_is)
    (case e2UnknownName => k_is)
    (case sUnknownName => k_is)
    (case hUnknownName => k_is)
    (case e3UnknownName => k_is)
    (case e4 => k_is)
    (case e5 => k_is)
    (case e6UnknownName => k_is)
    (case tUnknownName => k_is)
    (case uUnknownName_UnknownName => k_is)
    (case hBadName => k_is)
    (case tBadName => k_is)
    (case uUnknownName_BadName => k_is)
    (case hDrawnonceError => k_is)
    (case tDrawnonceError => k_is)
    (case uUnknownName_DrawnonceError => k_is)
    (case hNameFault => k_is)
    (case tNameFault => k_is)
    (case uUnknownName_NameFault => k_is)
    (case hRepeated => k_is)
    (case tRepeated => k_is)
    (case uUnknownName_Repeated => k_is)
    (case hUnused => k_is)
    (case tUnused => k_is)
    (case uUnknownName_Unused => k_is)
    (case vUnknownName => k_is)
    (case lcUnknownName => k_is)
    (case rvUnknownName => rfl)
    (case saUnknownName => k_is)
    (case kUnknownName => k_is)
    (case hsUnknownName => k_is)
    (case spUnknownName => kernel_rfl)
    (case fnUnknownName => k_is)
    (case hiUnknownName => k_is)
    (case htNameFault => k_is)
    (case lfNameFault => k_is)
    (case hcNameFault => k_is)
    (case lcdNameFault => k_is)
    (case hvsNameFault => rfl)
    (case hflNameFault => kernel_rfl)
    (case lccNameFault => k_is)
    (case hDNameFault => k_is)
    (case gsuper => k_is)
    (case tsuper => kernel_rfl)
    (case opq => k_is)
#print axioms PySem.Challenge.cw_drawnonce_k31_circles_and_closed_parts_holds
